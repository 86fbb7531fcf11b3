import PyProof.Rows.All
import Wide.All
import OpenK.AllK
import Wide.FinOn
import KE.KRevIter
import KE.KDictSum
import Lean
import PySem.Challenge.RW_no0186_02
set_option autoImplicit false
set_option linter.all false
set_option genCtorIdx false
set_option genSizeOf false
set_option genInjectivity false
set_option maxRecDepth 100000
set_option Elab.async false
set_option maxHeartbeats 8000000
set_option bootstrap.genMatcherCode false
set_option tactic.hygienic false
noncomputable section
local macro_rules
 |`(command|$d:declaration)=>λy=>let s:=d.raw;if[3,6].contains (s[0][4].getNumArgs+s[1][0].getAtomVal.length) then .ok (.node .none s.getKind #[s[0].setArg 4 (Lean.mkNullNode #[s]),s[1]]) else .error .unsupportedSyntax
local macro_rules
 | `(⋯)=>`(by decide)
open Nat renaming le_trans→aA,le_add_right→aW,le_refl→au,add_assoc→bT,add_comm→bW,le_of_eq→bX,zero_le→ba,lt_of_le_of_lt→bp,lt_of_lt_of_le→bw,add_le_add_right→b5,le_add_left→cI,le_succ→cJ,succ_le_succ→cP,zero_add→cW,add_le_add_left→dC,mul_le_mul_left→dc,lt_succ_self→dy,le_of_lt→d9,add_le_add→eb,lt_irrefl→ed,ne_of_lt→ee,le_succ_of_le→fE,ne_of_gt→fq,le_of_succ_le→gE,not_lt→gF,le_of_succ_le_succ→iP,add_right_comm→iy,le_max_left→jT,le_max_right→jU,lt_trans→jV,not_succ_le_zero→jW,lt_succ_of_le→kD,mul_succ→mG,le_of_not_lt→nI,sub_le→oj,succ_pos→om,add_sub_cancel_left→qP,le_of_lt_succ→qQ,min_le_right→qR,not_le→qS,sub_self→qT,eq_zero_of_add_eq_zero_right→tB,lt_add_of_pos_right→tC,min_eq_left→tD,mod_lt→tE,not_lt_zero→tF,eq_of_beq_eq_true→vT,le_antisymm→vU,max_le→vV,pos_of_ne_zero→vW,succ_add_eq_add_succ→vX,exists_eq_add_of_le→yx,lt_succ_of_lt→yy,min_eq_right→yz,min_self→y0,mul_add_one→y5,mul_comm→y6,ne_of_beq_eq_false→y7,pow_succ→y8,sub_add_cancel→y9,add_right_cancel→Ds,eq_zero_of_add_eq_zero_left→Dt,le_mul_of_pos_right→Du,le_of_ble_eq_true→Dv,lt_of_not_le→Dw,lt_of_succ_lt→Dx,not_lt_of_le→Dy,one_le_of_lt→Dz
open PySem renaming wpAny_bind→aG,wpAny_pure→aj,wpAny_standAt→eZ,wpAny_holding→fB,wpAny_of_eq→iK,wpAny_newObj_type→jw,wpAny_mono→m9,builtinLookup_eq_fast→nQ,typeLookup_type→oM,wpAny_call_entry→oP,isSubtype_type→rI,wpAny_field→sV,wpAny_specialOf→sW,slot_list_getitem→xt,wpAny_attempt→yN,wpAny_isInstance→yO,wpAny_rule→yQ,wpAny_setField→yR,wpAny_assign_Name→C7,wpAny_callSpecial?_slot→C8,wpAny_comprehension_free→C9,wpAny_updateSeq→DA,wpAny_getItem_list_slice→Lg,wpAny_typeNameOfWhole_keyiter→Lh,wpAny_typeNameOf_keyiter→Li
open List renaming length_map→aQ,length_append→a8,mem_singleton→bB,mem_cons→bD,size_toArray→bQ,nodup_cons→bo,getElem?_eq_getElem→bu,map_append→b8,mem_append→cD,map_cons→cV,mem_map→dB,getElem?_eq_some_iff→dT,nodup_nil→dU,length_cons→dY,not_mem_nil→dZ,append_assoc→dw,all_eq_true→d7,mem_of_getElem?→d8,append_nil→fj,nodup_append→fm,getElem?_map→gC,map_map→gD,mem_filter→gX,mem_append_left→iO,map_congr_left→ix,getElem_mem→jR,mem_iff_getElem?→jS,idxOf_lt_length_iff→kA,length_range→kB,contains_iff_mem→lC,length_reverse→lD,mem_append_right→lE,getElem?_toArray→mD,mem_flatMap→mE,reverse_cons→mF,length_eq_zero_iff→nE,length_nil→nF,prefix_refl→nG,getElem?_append_right→oX,getElem_idxOf→oY,lookup_cons→oZ,mem_cons_self→oa,mem_range→oe,prefix_rfl→og,any_cons→qG,cons_ne_nil→qI,getElem?_append_left→qJ,getElem?_eq_none→qK,length_drop→qM,length_filter_le→qN,prefix_append→qO,all_cons→su,drop_nil→s6,filter_cons→s7,mem_map_of_mem→s8,take_of_length_le→s9,toList_toArray→tA,any_eq_true→vM,filterMap_cons→vN,find?_cons→vO,flatMap_append→vP,getElem?_set→vQ,getLast?_eq_getElem?→vR,cons_append→yo,getElem?_eq_none_iff→yp,length_pos_iff→yq,length_take→yr,sum_cons→yt,take_length→yu,append_toArray→DU,contains_cons→DV,drop_eq_nil_iff→DW,drop_eq_nil_of_le→DX,drop_length→DY,ext_getElem?→DZ,find?_eq_none→Dc,getElem?_inj→Dd,getElem?_range→De,idxOf_append→Df,idxOf_cons_self→Dg,isEmpty_iff→Dh,length_erase_of_mem→Di,mem_cons_of_mem→Dj,push_toArray→Dk,set_append_right→Dl,zip_cons_cons→Dm
open Option.some renaming inj→ay
open Bool renaming false_ne_true→az,and_eq_true→d5,and_eq_true_iff→iL,eq_false_iff→jy,eq_iff_iff→oS,not_eq_true'→vA,or_eq_true→vB
open LawfulBEq renaming eq_of_beq→bc
open PySem.Heap renaming get?_push_size→dv,lt_size→hJ,get?_update_self→mA,get?_push_of_some→oV,get?_update_other→qF,size_push→vK
open Int.ofNat renaming inj→d6
open Int renaming natCast_nonneg→fD,ofNat_lt→gV,le_trans→j8,not_lt→mB,ofNat_le→mC,toNat_natCast→sq,lt_of_le_of_lt→yj,add_sub_cancel→DS
open Prod renaming ext→iQ
open Ne renaming symm→kE
open PySem.Heap.SameBut renaming update→lB
open Array renaming length_toList→oR
open Classical renaming em→oT,byContradiction→sa
open Prod.mk renaming inj→ot
open List.cons renaming inj→qH
open Nat.succ renaming inj→qU
open Option renaming map_eq_some_iff→qW,isSome_iff_exists→zC,map_some→zD,isNone_iff_eq_none→D1,map_eq_none_iff→D2
open PyProof.Rows renaming args_cons→qj,args_nil→tQ
open PySem.Obj renaming data_mapFields→tG,isFreed_of_fields→D0
open PySem.F renaming plain_extend_loop→vG,plainAttrs_list→yc,slot_dict_get→yd,slot_tuple_getitem→zG,plainAttrs_dict→DH,slot_dict_keyiterator_next→DI,slot_list_extend→DJ
open List.Pairwise renaming filter→DT
open PySem.Calls renaming Name_function_global→Dq
open PySem.Value renaming isInt_shape→D9
namespace Mine
def aD:=@if_neg
def aF:=@congrArg
def aI:=@if_pos
def bC:=@decide_eq_false
def bE:=@decide_eq_true
def cC:=@trivial
def dG:=@of_decide_eq_true
def eB:=@beq_iff_eq
def jb:=@beq_self_eq_true
def nP:=@bne_iff_ne
def nS:=@decide_eq_decide
def nT:=@decide_eq_true_iff
def tV:=@beq_eq_false_iff_ne
def uS:=@of_decide_eq_false
def AB:=@decide_eq_true_eq
end Mine
open Option renaming some→F5,none→L3
open Bool renaming true→F6,false→L0
open PySem renaming Value→G7,Shared→R5,Addr→lb,Expr→l4
section
open PySem PySem.W PySem.Calls PyProof.Rows PySem.SeqAt
namespace Mine
variable{α:Type}{P:Prop}
def memN{a:α}(h:a∈[]):P:=absurd h dZ
set_option genCtorIdx true in
inductive V where
 |none|bool (b:Bool)|int (i:Int)|str (s:List Nat)|tup (l:List V)|lst (l:List V)|obj (i:Nat)
set_option genCtorIdx true in
set_option genInjectivity true in
inductive Atom where
 |int (i:Int)|str (s:List Nat)
 deriving DecidableEq
set_option genCtorIdx true in
set_option genInjectivity true in
inductive Cell where
 |lst (l:List V)|dict (kvs:List (Atom×V)) (st:Nat)|aX (kvs:List (List Atom×V)) (st:Nat)|set (p:List Int)|inst (c:Nat) (flds:List (Nat×V))
abbrev AH:=List Cell
abbrev aT:=Nat->Option V
def upd(F:aT)(x:Nat)(v:V):aT:=λy=>if y=x then F5 v else F y
set_option genCtorIdx true in
inductive F1 where
 |len|list|tuple|sorted|str
set_option genCtorIdx true in
inductive Mt where
 |append|pop|insert|add|discard|ew|gM
inductive Op where
 |tup|lst|f5|oE|sub|jv|iS|cut|attr (a:Nat)|bin (op:Operator)|cmp (op:CmpOp)|mm|fY|e5 (l:List (List Nat))|f1 (f:F1)|listRev
mutual
inductive IE where
 |const (v:V)|var (x:Nat)|op (o:Op) (es:fC)|call (f:Nat) (es:fC)|ak (e:IE) (m:Nat) (es:fC)|bm (m:Mt) (e:IE) (es:fC)|jD (e a:IE)|new (c:Nat) (es:fC)|and (a b:IE)|or (a b:IE)|not (a:IE)|ite (c a b:IE)|comp (e:IE) (x:Nat) (it:IE)|gL (e:IE) (x:Nat) (n:IE)
inductive fC where
 |nil|cons (e:IE) (es:fC)
end
mutual
inductive IS where
 |asg (x:Nat) (e:IE)|gf (xs:List Nat) (e:IE)|swap (x y:Nat) (a b:IE)|cB (a i e:IE)|setAttr (o:IE) (a:Nat) (e:IE)|aug (x:Nat) (op:Operator) (e:IE)|lI (t:IE) (a:Nat) (op:Operator) (e:IE)|expr (e:IE)|ite (c:IE) (a b:aL)|eU (c:IE) (b:aL)|forIn (x:Nat) (e:IE) (b:aL)|forR (x:Nat) (n:IE) (b:aL)|ret (e:IE)|cont|pass
inductive aL where
 |nil|cons (s:IS) (ss:aL)
end
inductive Fl where
 |aK|brk|cnt|ret (v:V)
def aJ:Nat:=16000000
def cN:Atom->V
 | .int i=>.int i| .str s=>.str s
section
variable{K W:Type}[DecidableEq K]
def aR(l:List (K×W))(k:K):Option W:=(l.find? λp=>decide (p.1=k)).map (·.2)
def bS(l:List (K×W))(k:K)(v:W):List (K×W):=
 if l.any (λp=>decide (p.1=k)) then l.map (λp=>if p.1=k then(p.1,v) else p) else l++[(k,v)]
def pI(l:List (K×W))(k:K):List (K×W):=l.filter λp=>decide (p.1≠k)
end
def gK(c a:Nat):Bool:=c == 0&&(a == 1526583357044||a == 100897158637842290)
inductive jZ(H:AH)(t:Bool):V->Prop
 |none (e:L0=t):jZ H t .none|bool {b:Bool} (e:b=t):jZ H t (.bool b)|int {i:Int} (e:(i != 0)=t):jZ H t (.int i)|lst {i:Nat} {l:List V} (hc:H[i]?=F5 (.lst l)) (e:(!l.isEmpty)=t):jZ H t (.obj i)
def pf(l:List Int):List Int:=l.mergeSort (λa b=>decide (a<=b))
def stampOf:Cell->Option Nat
 | .dict _ st=>F5 st| .aX _ st=>F5 st|_=>L3
def iu(F:aT):List Nat->List V->aT
 |x::xs,v::vs=>iu (upd F x v) xs vs|_,_=>F
structure D7 where
 pQ:Nat->Nat->Option Nat
 init:Nat->Option Nat
structure si where
 params:List Nat
 body:aL
inductive Sm{α:Type}(o:Option α)(P:α->Prop):Prop
 |mk {v:α} (h:o=F5 v) (p:P v)
inductive Ex{α:Type}(P:α->Prop):Prop
 |mk {v:α} (p:P v)
inductive aw(P Q:Prop):Prop
 |mk (p:P) (q:Q)
inductive Tq(v:V)(H:AH)(P:Bool->Prop):Prop
 |mk {t:Bool} (h:jZ H t v) (p:P t)
def tR:Atom->G7->Bool
 | .int i,v=>Value.isInt i v| .str s,v=>Value.isStrOf ⟨s.toArray⟩ v
def Mk(w:World):Atom->Int
 | .int i=>hashInt i| .str s=>hashStr w ⟨s.toArray⟩
variable{s:List Nat}
def str_inj{r:List Nat}(h:(⟨s.toArray⟩:Str)=⟨r.toArray⟩):s=r:=List.toArray_inj (aF Str.cps h)
variable{q:Prop}
def Nt{p:Prop}[Decidable p][Decidable q](h:p↔q):decide p=decide q:=nS.mpr h
def Ec[BEq α][LawfulBEq α]{a b:α}[Decidable q](h:a=b↔q):(a == b)=decide q:=by
 rw[oS,eB,nT];exact h
inductive jx:Atom->G7->Prop
 |int {i:Int} {t:Tok}:jx (.int i) (.int i t)|str {s:List Nat} {t:Tok}:jx (.str s) (.str ⟨s.toArray⟩ t)
theorem nO:∀{k:Atom} {v:G7},tR k v=F6->jx k v
 | .int _=>λh=>(D9 h).elim λy e=>e▸.int| .str _=>λh=>(Value.isStrOf_shape h).elim λy e=>e▸.str
variable{k:Atom}{v:G7}
def jx.is(h:jx k v):tR k v=F6:=by
 cases h
 .exact jb _
 .exact jb _
def Ml:G7->Option Atom
 | .int i _=>F5 (.int i)| .str s _=>F5 (.str s.cps.toList)|_=>L3
def jx.of(h:jx k v):Ml v=F5 k:=by cases h<;>rfl
def cM(prog:Program)(w:World):KeyKind prog w Atom where
 is:=tR
 hash:=Mk w
 inj:=λv a b ha hb=>ay ((nO ha).of.symm.trans (nO hb).of)
 byValue:=λk v h=>by cases nO h<;>rfl
 pyHash:=λ{A E s k v Q} h q=>by
  cases nO h
  .exact wpAny_pyHash_int q
  .exact wpAny_pyHash_str q
 eqBool:=λ{A E s a b u v Q} h1 h2 q=>by
  cases nO h1<;>cases nO h2
  .exact wpAny_eqBool_int (by rw[Ec (q:=Atom.int _=Atom.int _) ⟨aF Atom.int,Atom.int.inj⟩];exact q)
  .exact EqAt.int_str _ _ _ _ prog w E Q (by rw[bC (λe=>nomatch e)] at q;exact q)
  .exact EqAt.str_int _ _ _ _ prog w E Q (by rw[bC (λe=>nomatch e)] at q;exact q)
  .exact wpAny_eqBool_str (by rw[Nt (q:=Atom.str _=Atom.str _) ⟨λe=>aF Atom.str (str_inj e),λe=>aF (λl:List Nat=>(⟨l.toArray⟩:Str)) (Atom.str.inj e)⟩];exact q)
 «strs»:=λk x t v h=>by
  cases nO h;cases v<;>rfl
structure Wd where
 prog:Program
 w:World
 K:Frag
 h₀:Heap
 cls:Nat->Option lb
 mg:Str->Option G7
 mb:Str->Option G7
 attrs:List Str
 kb:List Str
 fI:List Str
 T:D7
 lM:Str->Option Int
 lL:Str->Option Nat
 lK:Str->Option Nat
 mV:Nat->Option lb
def ai{x:α}(h:(L3:Option α)=F5 x):P:=nomatch h
def pW{o:Option α}{x y:α}{P:α->Prop}(h:o=F5 x)(h':o=F5 y)(p:P x):P y:=ay (h.symm.trans h')▸p
variable{i:Nat}
def kj{l l':List α}(h:l <+:l'){x:α}(e:l[i]?=F5 x):l'[i]?=F5 x:=by
 obtain⟨t,rfl⟩:=h;rw[qJ (dT.mp e).1];exact e
def ER{l:List α}{x y:α}(h:(l++[x])[i]?=F5 y):l[i]?=F5 y\/(i=l.length/\x=y):=by
 rw[List.getElem?_append] at h;split at h
 .exact .inl h
 .rename_i q;have hi:=(dT.mp h).1;have e:i=l.length:=vU (Nat.le_of_sub_eq_zero (Nat.lt_one_iff.mp hi)) (nI q);subst e;rw[qT] at h;exact .inr ⟨rfl,ay h⟩
variable{j:Nat}
def Y5{l:List α}{x y:α}(h:(l.set i x)[j]?=F5 y):(i≠j/\l[j]?=F5 y)\/(i=j/\x=y):=by
 rw[vQ] at h;split at h
 .rename_i e;split at h
  .exact .inr ⟨e,ay h⟩
  .exact ai h
 .rename_i e;exact .inl ⟨e,h⟩
def w8(l:List α)(x:α):(l++[x])[l.length]?=F5 x:=by rw[oX (au _),qT];rfl
structure Mu where
 g:List lb
 l:List (lb×Option lb)
 st:Nat->Nat
def Mu.push(μ:Mu)(p:lb×Option lb):Mu:=⟨μ.g,μ.l++[p],λj=>if j=μ.l.length then 0 else μ.st j⟩
def Mu.bump(μ:Mu)(i:Nat):Mu:=⟨μ.g,μ.l,λj=>if j=i then μ.st j+1 else μ.st j⟩
def adr(p:lb×Option lb):List lb:=p.1::p.2.toList
def foot(μ:Mu):List lb:=μ.g++μ.l.flatMap adr
def XL(h:Heap)(a:lb)(items:List G7):Prop:=Ex λn=>h.get? a=F5 {cls:=.type "list",data:=.seq items.toArray n}
def XT(h:Heap)(a:lb)(items:List G7):Prop:=Ex λn=>h.get? a=F5 {cls:=.type "tuple",data:=.seq items.toArray n}
variable{h h':Heap}{a:lb}{items:List G7}
def XL.is(x:XL h a items):h.IsList a items.toArray:=x.casesOn λe=>⟨_,e,rfl,_,rfl⟩
def XT.is(x:XT h a items):h.IsTuple a items.toArray:=x.casesOn λe=>⟨_,e,rfl,_,rfl⟩
def XL.at(x:XL h a items)(k:∀o,h.get? a=F5 o->h'.get? a=F5 o):XL h' a items:=x.casesOn λe=>⟨k _ e⟩
def XL.some(x:XL h a items):∃o,h.get? a=F5 o:=x.casesOn λe=>⟨_,e⟩
inductive D6(μ:Mu)(X:lb->List G7->Prop)(v:G7)(n:Nat)(P:List G7->Prop):Prop
 |mk {a:lb} {items:List G7} (e:v=.ref a) (nf:a∉foot μ) (x:X a items) (z:n<=aJ) (r:P items)
inductive Lq(P:G7->Prop)(Q:List G7->Prop)(vs:List G7):Prop
 |mk {v:G7} {r:List G7} (e:vs=v::r) (p:P v) (q:Q r)
mutual
noncomputable def VR(μ:Mu)(h:Heap):V->G7->Prop
 | .none,v=>v=.none| .bool b,v=>v=.bool b| .int i,v=>Ex λt=>v=.int i t| .str s,v=>Ex λt=>v=.str ⟨s.toArray⟩ t| .tup l,v=>D6 μ (XT h) v l.length (λitems=>aM μ h l items)| .lst l,v=>D6 μ (XL h) v l.length (λitems=>aM μ h l items)| .obj i,v=>Ex λp=>aw (μ.l[i]?=F5 p) (v=.ref p.1)
noncomputable def aM(μ:Mu)(h:Heap):List V->List G7->Prop
 | [],vs=>vs=[]|x::l,vs=>Lq (λv=>VR μ h x v) (λr=>aM μ h l r) vs
end
variable{μ:Mu}{x y:V}{l:List V}{vs:List G7}{P:List G7->Prop}{t:Tok}{p:lb×Option lb}
def aM.cons(hv:VR μ h x v)(e:aM μ h l vs):aM μ h (x::l) (v::vs):=⟨rfl,hv,e⟩
def aM.nil:aM μ h [] []:=rfl
def aM.one(hv:VR μ h x v):aM μ h [x] [v]:=⟨rfl,hv,rfl⟩
def aM.eY(e:aM μ h (x::l) vs)(k:∀v r,VR μ h x v->aM μ h l r->P (v::r)):P vs:=e.casesOn λe p q=>e▸k _ _ p q
def aM.jP(e:aM μ h [] vs)(k:P []):P vs:=(show vs=[] from e)▸k
def aM.LU(e:aM μ h [x] vs)(k:∀v,VR μ h x v->P [v]):P vs:=e.eY λv y hv r=>r.jP (P:=λr=>P (v::r)) (k v hv)
def aM.sN(e:aM μ h [x,y] vs)(k:∀v w,VR μ h x v->VR μ h y w->P [v,w]):P vs:=e.eY λv z hv r=>r.LU (P:=λr=>P (v::r)) λw=>k v w hv
def aM.Cz{z:V}(e:aM μ h [x,y,z] vs)(k:∀v w u,VR μ h x v->VR μ h y w->VR μ h z u->P [v,w,u]):P vs:=e.eY λv q hv r=>r.sN (P:=λr=>P (v::r)) λw u=>k v w u hv
def VR.b7{i:Int}{P:G7->Prop}(e:VR μ h (.int i) v)(k:∀t,P (.int i t)):P v:=e.casesOn λe=>e▸k _
def VR.gR{P:G7->Prop}(e:VR μ h (.str s) v)(k:∀t,P (.str ⟨s.toArray⟩ t)):P v:=e.casesOn λe=>e▸k _
def VR.p0{b:Bool}{P:G7->Prop}(e:VR μ h (.bool b) v)(k:P (.bool b)):P v:=(show v=.bool b from e)▸k
def VR.sQ{P:G7->Prop}(e:VR μ h .none v)(k:P .none):P v:=(show v=.none from e)▸k
def VR.gS{P:G7->Prop}(e:VR μ h (.tup l) v)(k:∀a items,a∉foot μ->XT h a items->l.length<=aJ->aM μ h l items->P (.ref a)):P v:=e.casesOn λe a b c d=>e▸k _ _ a b c d
def VR.sO{P:G7->Prop}(e:VR μ h (.lst l) v)(k:∀a items,a∉foot μ->XL h a items->l.length<=aJ->aM μ h l items->P (.ref a)):P v:=e.casesOn λe a b c d=>e▸k _ _ a b c d
def VR.p4{P:G7->Prop}(e:VR μ h (.obj i) v)(k:∀p,μ.l[i]?=F5 p->P (.ref p.1)):P v:=e.casesOn λζ'=>ζ'.casesOn λhp e=>e▸k _ hp
def VR.f7{i:Int}:VR μ h (.int i) (.int i t):=⟨rfl⟩
def VR.xV{i:List Nat}:VR μ h (.str i) (.str ⟨i.toArray⟩ t):=⟨rfl⟩
def VR.uR{i:Bool}:VR μ h (.bool i) (.bool i):=rfl
def VR.of_none:VR μ h .none .none:=rfl
def VR.uT(e:μ.l[i]?=F5 p):VR μ h (.obj i) (.ref p.1):=⟨⟨e,rfl⟩⟩
theorem aM.length:∀{l:List V} {vs:List G7},aM μ h l vs->vs.length=l.length
 | []=>λe=>e.jP (P:=λvs=>vs.length=0) rfl|_::l=>λe=>e.eY (P:=λvs=>vs.length=l.length+1) λy y y r=>aF (·+1) r.length
theorem aM.get:∀{l:List V} {vs:List G7},aM μ h l vs->∀{n:Nat} {x:V},l[n]?=F5 x->Ex λv=>aw (vs[n]?=F5 v) (VR μ h x v)
 | [],_,_,n,x=>λg=>ai g|y::l,_,e,0,x=>λg=>e.eY (P:=λvs=>Ex λv=>aw (vs[0]?=F5 v) (VR μ h x v)) λv r hv z=>⟨⟨rfl,ay g▸hv⟩⟩|y::l,_,e,n+1,x=>λg=>e.eY (P:=λvs=>Ex λv=>aw (vs[n+1]?=F5 v) (VR μ h x v)) λv r z hr=>hr.get (n:=n) g
theorem aM.append:∀{l r:List V} {vs ws:List G7},aM μ h l vs->aM μ h r ws->aM μ h (l++r) (vs++ws)
 | [],r,_,ws=>λe e'=>e.jP (P:=λvs=>aM μ h r (vs++ws)) e'|x::l,r,vs,ws=>λe e'=>e.eY (P:=λvs=>aM μ h (x::(l++r)) (vs++ws)) λv q hv hq=>.cons hv (aM.append hq e')
theorem aM.take:∀{l:List V} {vs:List G7} (n:Nat),aM μ h l vs->aM μ h (l.take n) (vs.take n)
 | [],_,n=>λe=>e.jP (P:=λvs=>aM μ h (List.take n []) (List.take n vs)) (by rw[List.take_nil,List.take_nil];rfl)|x::l,_,0=>λe=>rfl|x::l,_,n+1=>λe=>e.eY (P:=λvs=>aM μ h (x::l.take n) (List.take (n+1) vs)) λv q hv hq=>.cons hv (aM.take n hq)
theorem aM.drop:∀{l:List V} {vs:List G7} (n:Nat),aM μ h l vs->aM μ h (l.drop n) (vs.drop n)
 | [],_,n=>λe=>e.jP (P:=λvs=>aM μ h (List.drop n []) (List.drop n vs)) (by rw[s6,s6];rfl)|x::l,_,0=>λe=>e|x::l,_,n+1=>λe=>e.eY (P:=λvs=>aM μ h (l.drop n) (List.drop (n+1) vs)) λv q hv hq=>aM.drop n hq
theorem aM.rev:∀{l:List V} {vs:List G7},aM μ h l vs->aM μ h l.reverse vs.reverse
 | []=>λe=>e.jP (P:=λvs=>aM μ h [] (List.reverse vs)) rfl|x::l=>λe=>e.eY (P:=λvs=>aM μ h (x::l).reverse (List.reverse vs)) λv q hv hq=>by
  rw[mF,mF];exact aM.append (aM.rev hq) (.one hv)
theorem aM.set:∀{l:List V} {vs:List G7} (n:Nat) {x:V} {v:G7},aM μ h l vs->VR μ h x v->aM μ h (l.set n x) (vs.set n v)
 | [],_,n,x,v=>λe z=>e.jP (P:=λvs=>aM μ h [] (List.set vs n v)) rfl|y::l,_,0,x,v=>λe hx=>e.eY (P:=λvs=>aM μ h (x::l) (List.set vs 0 v)) λu q z hq=>.cons hx hq|y::l,_,n+1,x,v=>λe hx=>e.eY (P:=λvs=>aM μ h (y::l.set n x) (List.set vs (n+1) v)) λu q hv hq=>.cons hv (aM.set n hq hx)
structure br(X:lb->Prop)(μ:Mu)(h:Heap)(μ':Mu)(h':Heap):Prop where
 pre:μ.l <+:μ'.l
 gs:μ'.g=μ.g
 new:∀a∈foot μ',a∈foot μ\/h.get? a=L3
 keep:∀b o,h.get? b=F5 o->b∉foot μ->¬X b->h'.get? b=F5 o
 live:∀b o,h.get? b=F5 o->Ex λo'=>aw (h'.get? b=F5 o') (b∈foot μ->o'.cls=o.cls/\o'.dict=o.dict)
 fU:∀(i:Nat) (p:lb×Option lb),μ.l[i]?=F5 p->μ.st i<=μ'.st i/\(μ'.st i=μ.st i->∀o,h.get? p.1=F5 o->h'.get? p.1=F5 o)
 gk:∀a∈μ.g,∀o,h.get? a=F5 o->h'.get? a=F5 o
abbrev Ext:=br λy=>False
variable{X Y:lb->Prop}{μ' μ'':Mu}{o:Obj}{b:lb}
section
variable{h'':Heap}
def wQ(h:μ.l[i]?=F5 p)(ha:a∈adr p):a∈foot μ:=lE _ (mE.mpr ⟨p,d8 h,ha⟩)
def wR(h:μ.l[i]?=F5 p):p.1∈foot μ:=wQ h (.head _)
def AY(μ:Mu)(p:lb×Option lb):foot (μ.push p)=foot μ++adr p:=by simp only[foot,Mu.push,vP,List.flatMap_singleton,dw]
def AX(m:a∈foot (μ.push p)):a∈foot μ\/a∈adr p:=cD.mp (AY μ p▸m)
def br.refl:br X μ h μ h:=⟨nG _,rfl,λy m=>.inl m,λy y e y y=>e,λy o e=>⟨⟨e,λy=>⟨rfl,rfl⟩⟩⟩,λy y y=>⟨au _,λy y e=>e⟩,λy y y e=>e⟩
def GG(h:μ.l <+:μ'.l)(g:μ'.g=μ.g)(m:a∈foot μ):a∈foot μ':=
 (cD.mp m).elim (λm=>iO _ (g▸m)) λm=>lE _ ((mE.mp m).elim λp ζ'=>ζ'.elim λhp ha=>mE.mpr ⟨p,h.subset hp,ha⟩)
def br.none(a:br X μ h μ' h'){x:lb}(m:h'.get? x=L3):h.get? x=L3:=by
 cases e:h.get? x with
 |none=>rfl|some o=>obtain⟨⟨e',_⟩⟩:=a.live x o e;exact ai (m.symm.trans e')
def br.nf(E:br X μ h μ' h')(ha:a∉foot μ)(ho:h.get? a=F5 o):a∉foot μ':=λq=>(E.new a q).elim ha λz=>ai (z.symm.trans ho)
def br.trans(a:br X μ h μ' h')(b:br X μ' h' μ'' h''):br X μ h μ'' h'' where
 pre:=a.pre.trans b.pre
 gs:=b.gs.trans a.gs
 new:=λx m=>(b.new x m).elim (a.new x) λm=>.inr (a.none m)
 keep:=λx o e n1 n2=>b.keep x o (a.keep x o e n1 n2) (a.nf n1 e) n2
 live:=λx o e=>(a.live x o e).casesOn λζ'=>ζ'.casesOn λe₁ c₁=>(b.live x _ e₁).casesOn λζ'=>ζ'.casesOn λe₂ c₂=>⟨⟨e₂,λm=>⟨(c₂ (GG a.pre a.gs m)).1.trans (c₁ m).1,(c₂ (GG a.pre a.gs m)).2.trans (c₁ m).2⟩⟩⟩
 fU:=λi p hp=>⟨aA (a.fU i p hp).1 (b.fU i p (kj a.pre hp)).1,λq o e=>(b.fU i p (kj a.pre hp)).2 (vU (aA (bX q) (a.fU i p hp).1) (b.fU i p (kj a.pre hp)).1) o
  ((a.fU i p hp).2 (vU (aA (b.fU i p (kj a.pre hp)).1 (bX q)) (a.fU i p hp).1) o e)⟩
 gk:=λx m o e=>b.gk x (a.gs▸m) o (a.gk x m o e)
def br.weaken(hXY:∀a,X a->Y a)(a:br X μ h μ' h'):br Y μ h μ' h':=
 ⟨a.pre,a.gs,a.new,λb o e n1 n2=>a.keep b o e n1 λq=>n2 (hXY b q),a.live,a.fU,a.gk⟩
def br.any(a:Ext μ h μ' h'):br X μ h μ' h':=a.weaken λy=>False.elim
def br.one(nf:b∉foot μ)(hX:X b)(k:∀a o,a≠b->h.get? a=F5 o->h'.get? a=F5 o)(hl:∃o,h'.get? b=F5 o):br X μ h μ h':=
 ⟨nG _,rfl,λy m=>.inl m,λa o e y n=>k a o (λq=>n (q▸hX)) e,λa o e=>(oT (a=b)).elim (λq=>hl.elim λo' ho'=>q▸⟨⟨ho',λm=>absurd m nf⟩⟩) λq=>⟨⟨k a o q e,λy=>⟨rfl,rfl⟩⟩⟩,
  λj p hp=>⟨au _,λy o e=>k _ o (λq=>nf (q▸wR hp)) e⟩,λa m o e=>k a o (λq=>nf (q▸iO _ m)) e⟩
def iz(X:lb->Prop)(h:Heap):Prop:=∀a o,X a->h.get? a=F5 o->∀xs n,o.data≠.seq xs n
def iz.none:iz (λy=>False) h:=λy y q=>q.elim
structure Kp(μ:Mu)(h:Heap)(μ':Mu)(h':Heap):Prop where
 pre:μ.l <+:μ'.l
 new:∀a∈foot μ',a∈foot μ\/h.get? a=L3
 seq:∀b o xs n,h.get? b=F5 o->o.data=.seq xs n->b∉foot μ->h'.get? b=F5 o
def br.kp(E:br X μ h μ' h')(hX:iz X h):Kp μ h μ' h':=
 ⟨E.pre,E.new,λb o xs n e d nf=>E.keep b o e nf λq=>hX b o q e xs n d⟩
def Kp.nf(E:Kp μ h μ' h')(ha:a∉foot μ)(ho:h.get? a=F5 o):a∉foot μ':=λq=>(E.new a q).elim ha λz=>ai (z.symm.trans ho)
mutual
theorem VR.kp(E:Kp μ h μ' h'):∀(x:V) {v:G7},VR μ h x v->VR μ' h' x v
 | .none,_,r=>r| .bool b,_,r=>r| .int i,_,r=>r| .str s,_,r=>r| .tup l,_,⟨e,nf,⟨ho⟩,z,r⟩=>⟨e,E.nf nf ho,⟨E.seq _ _ _ _ ho rfl nf⟩,z,aM.kp E l r⟩| .lst l,_,⟨e,nf,⟨ho⟩,z,r⟩=>⟨e,E.nf nf ho,⟨E.seq _ _ _ _ ho rfl nf⟩,z,aM.kp E l r⟩| .obj i,_,⟨⟨hp,e⟩⟩=>⟨⟨kj E.pre hp,e⟩⟩
theorem aM.kp(E:Kp μ h μ' h'):∀(l:List V) {vs:List G7},aM μ h l vs->aM μ' h' l vs
 | [],_,r=>r|x::l,_,⟨e,p,q⟩=>⟨e,VR.kp E x p,aM.kp E l q⟩
end
def VR.ext(E:br X μ h μ' h')(hX:iz X h)(x:V)(r:VR μ h x v):VR μ' h' x v:=VR.kp (E.kp hX) x r
def aM.ext(E:br X μ h μ' h')(hX:iz X h)(l:List V)(r:aM μ h l vs):aM μ' h' l vs:=aM.kp (E.kp hX) l r
end
def aV(s:Str):Nat:=s.cps.toList.foldl (λn c=>n*256+c) 1
inductive PR(μ:Mu)(h:Heap):List (Atom×V)->List (Atom×G7)->Prop
 |nil:PR μ h [] []|cons {k:Atom} {x:V} {v:G7} {r:List (Atom×V)} {r':List (Atom×G7)}:VR μ h x v->PR μ h r r'->PR μ h ((k,x)::r) ((k,v)::r')
inductive TR(μ:Mu)(h:Heap):List (List Atom×V)->List (List Atom×lb×G7)->Prop
 |nil:TR μ h [] []|cons {k:List Atom} {x:V} {a:lb} {v:G7} {r:List (List Atom×V)} {r':List (List Atom×lb×G7)}:VR μ h x v->VR μ h (.tup (k.map cN)) (.ref a)->TR μ h r r'->TR μ h ((k,x)::r) ((k,a,v)::r')
def dX(s:Str):Prop:=∀c∈s.cps.toList,c<256/\c≠46
inductive FR(P:Params)(μ:Mu)(h:Heap):List (Nat×V)->List DictEntry->Prop
 |nil:FR P μ h [] []|cons {nm:Str} {t:Tok} {x:V} {v:G7} {r:List (Nat×V)} {r':List DictEntry}:dX nm->VR μ h x v->FR P μ h r r'->
   FR P μ h ((aV nm,x)::r) (⟨PyData.keyHash P nm,.str nm t,v⟩::r')
section
variable(W:Wd)(μ:Mu)(h:Heap)(p:lb×Option lb)
inductive Dp(l:List V):Prop
 |mk {items:List G7} (e:p.2=L3) (z:l.length<=aJ) (x:XL h p.1 items) (r:aM μ h l items):Dp l
inductive DG(kvs:List (Atom×V)):Prop
 |mk {cv:List (Atom×G7)} (e:p.2=L3) (d:h.DictOf (cM W.prog W.w) p.1 cv) (r:PR μ h kvs cv):DG kvs
inductive D8(kvs:List (List Atom×V)):Prop
 |mk {cv:List (List Atom×lb×G7)} (e:p.2=L3) (d:h.DictOfH (tupleKind (cM W.prog W.w)) p.1 cv) (r:TR μ h kvs cv):D8 kvs
inductive D5(q:List Int):Prop
 |mk (e:p.2=L3) (d:h.SetOf (intKind W.prog W.w) p.1 (λk=>q.contains k) q.length) (n:q.Nodup):D5 q
inductive DQ(c:Nat)(fl:List (Nat×V)):Prop
 |mk {cA d:lb} {ox:Obj} {es:List DictEntry} {n:Nat} (e:p.2=F5 d) (hc:W.cls c=F5 cA) (hd:ox.dict=F5 d) (i:PySem.W.InstAt h p.1 ox cA (F5 (dictOf es n))) (f:FR W.w.params μ h fl es) (nd:(fl.map (·.1)).Nodup):DQ c fl
def CR:Cell->Prop
 | .lst l=>Dp μ h p l| .dict kvs _=>DG W μ h p kvs| .aX kvs _=>D8 W μ h p kvs| .set q=>D5 W h p q| .inst c fl=>DQ W μ h p c fl
inductive vE(i:Nat)(c:Cell):Prop
 |mk {p:lb×Option lb} (hp:μ.l[i]?=F5 p) (r:CR W μ h p c) (st:∀k,stampOf c=F5 k->μ.st i=k)
end
structure aY(W:Wd)(μ:Mu)(H:AH)(h:Heap):Prop where
 base:∀b o,W.h₀.get? b=F5 o->h.get? b=F5 o
 fresh:∀a∈foot μ,W.h₀.get? a=L3
 apart:(foot μ).Nodup
 jE:∀a∈μ.g,∃o,h.get? a=F5 o
 len:μ.l.length=H.length
 cq:∀{i:Nat} {c:Cell},H[i]?=F5 c->vE W μ h i c
variable{W:Wd}{prog:Program}{w:World}{r cs:List (List Atom×lb×G7)}{n:Nat}{p d cA:lb}{ox:Obj}{es:List DictEntry}
def PR.kp(E:Kp μ h μ' h'){l:List (Atom×V)}{r:List (Atom×G7)}(x:PR μ h l r):PR μ' h' l r:=by
 induction x with
 |nil=>exact .nil|cons a _ ih=>exact .cons (VR.kp E _ a) ih
def FR.kp{P:Params}(E:Kp μ h μ' h'){l:List (Nat×V)}{r:List DictEntry}(x:FR P μ h l r):FR P μ' h' l r:=by
 induction x with
 |nil=>exact .nil|cons o a _ ih=>exact .cons o (VR.kp E _ a) ih
def aAj(x:VR μ h (.tup l) (.ref a)):a∉foot μ:=x.casesOn λe nf y y y=>Value.ref.inj e▸nf
def IsTupleKey.kp(E:Kp μ h μ' h'){k:List Atom}(ha:a∉foot μ)(x:IsTupleKey (cM prog w) h k a):IsTupleKey (cM prog w) h' k a:=by
 obtain⟨o,items,n,ho,hc,hd,hi⟩:=x;exact⟨o,items,n,E.seq a o _ _ ho hd ha,hc,hd,hi⟩
def TR.kp(E:Kp μ h μ' h'){l:List (List Atom×V)}(x:TR μ h l r)(hk:∀y∈r,IsTupleKey (cM W.prog W.w) h y.1 y.2.1):TR μ' h' l r:=by
 induction x with
 |nil=>exact .nil|cons hv ha _ ih=>exact .cons (VR.kp E _ hv) (VR.kp E _ ha) (ih λy q=>hk y (.tail _ q))
def TR.keys(E:Kp μ h μ' h'){l:List (List Atom×V)}(x:TR μ h l r)(hk:∀y∈r,IsTupleKey (cM W.prog W.w) h y.1 y.2.1):∀y∈r,IsTupleKey (cM W.prog W.w) h' y.1 y.2.1:=by
 induction x with
 |nil=>exact λz q=>memN q|cons hv ha _ ih=>exact λy q=>(bD.mp q).elim (λe=>e▸IsTupleKey.kp E (aAj ha) (hk _ (.head _))) (ih (λy q=>hk y (.tail _ q)) y)
inductive mI(h:Heap)(a:lb)(T:String):Prop
 |mk {o:Obj} (ho:h.get? a=F5 o) (c:o.cls=.type T) (d:o.dict=L3)
section
variable{K:Type}[DecidableEq K]{kd:KeyKind prog w K}
def Nq{cv:List (K×G7)}(d:h.DictOf kd a cv)(k:∀o,h.get? a=F5 o->h'.get? a=F5 o):h'.DictOf kd a cv:=by
 obtain⟨o,es,ep,ho,r⟩:=d;exact⟨o,es,ep,k o ho,r⟩
def td{cv:List (K×G7)}(d:h.DictOf kd a cv):mI h a "dict":=by obtain⟨o,_,_,ho,x,_⟩:=d;exact⟨ho,x.1,x.2.1⟩
def Y6{q:K->Bool}(d:h.SetOf kd a q n)(k:∀o,h.get? a=F5 o->h'.get? a=F5 o):h'.SetOf kd a q n:=by
 obtain⟨o,es,ep,t,ho,r⟩:=d;exact⟨o,es,ep,t,k o ho,r⟩
def ug{q:K->Bool}(d:h.SetOf kd a q n):mI h a "set":=by obtain⟨o,_,_,_,ho,x,_⟩:=d;exact⟨ho,x.1,x.2.1⟩
def ux(d:h.DictOfH (tupleKind (cM W.prog W.w)) a cs):mI h a "dict":=by obtain⟨o,_,_,ho,x,_⟩:=d;exact⟨ho,x.1,x.2.1⟩
def Cr(d:h.DictOfH (tupleKind (cM W.prog W.w)) a cs):∀y∈cs,IsTupleKey (cM W.prog W.w) h y.1 y.2.1:=by obtain⟨_,_,_,_,_,_,_,r4,_⟩:=d;exact r4
def Zz(d:h.DictOfH (tupleKind (cM W.prog W.w)) a cs)(k:∀o,h.get? a=F5 o->h'.get? a=F5 o)(r:∀y∈cs,IsTupleKey (cM W.prog W.w) h' y.1 y.2.1):h'.DictOfH (tupleKind (cM W.prog W.w)) a cs:=by
 obtain⟨o,es,ep,ho,r1,r2,r3,_,r5⟩:=d;exact⟨o,es,ep,k o ho,r1,r2,r3,r,r5⟩
end
def wb(I:PySem.W.InstAt h p ox cA (F5 (dictOf es n)))(hd:ox.dict=F5 d):h.get? d=F5 (dictOf es n):=by
 have:=I.dict;rw[hd] at this;exact this
def RU(I:PySem.W.InstAt h p ox cA (F5 (dictOf es n)))(hd:ox.dict=F5 d)(k1:∀o,h.get? p=F5 o->h'.get? p=F5 o)(k2:∀o,h.get? d=F5 o->h'.get? d=F5 o):PySem.W.InstAt h' p ox cA (F5 (dictOf es n)):=
 ⟨k1 _ I.at_,I.cls,I.no,by rw[hd];exact k2 _ (wb I hd)⟩
def MM{p:lb×Option lb}(e:p.2=F5 d):d∈adr p:=by unfold adr;rw[e];exact .tail _ (.head _)
def CR.kp(E:Kp μ h μ' h'){p:lb×Option lb}(hk:∀a∈adr p,∀o,h.get? a=F5 o->h'.get? a=F5 o){c:Cell}(r:CR W μ h p c):CR W μ' h' p c:=by
 cases c with
 |lst l=>cases r with|mk q z x hv=>exact⟨q,z,x.at (hk _ (.head _)),aM.kp E l hv⟩
 |dict kvs _=>cases r with|mk q d r=>exact⟨q,Nq d (hk _ (.head _)),r.kp E⟩
 |aX kvs _=>cases r with|mk q d r=>exact⟨q,Zz d (hk _ (.head _)) (TR.keys E r (Cr d)),TR.kp E r (Cr d)⟩
 |set s=>cases r with|mk q d n=>exact⟨q,Y6 d (hk _ (.head _)),n⟩
 |inst c fl=>cases r with|mk q hc hd I hf hn=>exact⟨q,hc,hd,RU I hd (hk _ (.head _)) (hk _ (MM q)),hf.kp E,hn⟩
variable{β:Type}
theorem JE{f:β->List lb}:∀{l:List β},(l.flatMap f).Nodup->∀{i j:Nat} {p q:β},l[i]?=F5 p->l[j]?=F5 q->∀a,a∈f p->a∈f q->i=j
 | [],_,_,_,_,_=>λhi y y y y=>ai hi|m::l,hn,i,j,p,q=>λhi hj a h1 h2=>by
  rw[List.flatMap_cons,fm] at hn
  cases i with
  |zero=>
   cases j with
   |zero=>rfl|succ j=>exact absurd rfl (hn.2.2 a (ay hi▸h1) a (mE.mpr ⟨q,d8 hj,h2⟩))
  |succ i=>
   cases j with
   |zero=>exact absurd rfl (hn.2.2 a (ay hj▸h2) a (mE.mpr ⟨p,d8 hi,h1⟩))|succ j=>exact aF _ (JE hn.2.1 hi hj a h1 h2)
variable{p:lb×Option lb}
def GF(hn:(foot μ).Nodup){q:lb×Option lb}(hi:μ.l[i]?=F5 p)(hj:μ.l[j]?=F5 q)(a:lb)(h1:a∈adr p)(h2:a∈adr q):i=j:=
 JE (fm.mp hn).2.1 hi hj a h1 h2
variable{H:AH}{I:lb}{P:lb->Prop}{T:String}{o':Obj}
def vE.kp{c:Cell}(x:vE W μ h i c)(E:Kp μ h μ' h')(hk:∀p,μ.l[i]?=F5 p->∀a∈adr p,∀o,h.get? a=F5 o->h'.get? a=F5 o)(hs:μ'.st i=μ.st i):vE W μ' h' i c:=
 let ⟨hp,r,st⟩:=x;⟨kj E.pre hp,r.kp E (hk _ hp),λk e=>hs.trans (st k e)⟩
def aY.to(N:aY W μ H h)(kp:Kp μ h μ h')(hf:∀a o,a∈foot μ->h.get? a=F5 o->h'.get? a=F5 o)(hb:∀b o,W.h₀.get? b=F5 o->h.get? b=F5 o->h'.get? b=F5 o):aY W μ H h':=
 ⟨λb o e=>hb b o e (N.base b o e),N.fresh,N.apart,λa m=>((N.jE a m).elim λo e=>⟨o,hf a o (iO _ m) e⟩),N.len,λe=>(N.cq e).kp kp (λp hp a ha o=>hf a o (wQ hp ha)) rfl⟩
def aY.o6(N:aY W μ H h)(hI:h.get? I=L3):W.h₀.get? I=L3:=by
 cases q:W.h₀.get? I with
 |none=>rfl|some o=>exact ai (hI.symm.trans (N.base I o q))
def xX(e:p.2=L3)(x:P p.1):∀a∈adr p,P a:=λa m=>by
 unfold adr at m;rw[e] at m;exact(bB.mp m)▸x
def LO(e:p.2=F5 d)(x:P p.1)(y:P d):∀a∈adr p,P a:=λa m=>by
 unfold adr at m;rw[e] at m;exact(bD.mp m).elim (λm=>m▸x) λm=>(bB.mp m)▸y
def mI.some(x:mI h a T):∃o,h.get? a=F5 o:=by cases x with|mk ho _ _=>exact⟨_,ho⟩
def CR.alive{c:Cell}(r:CR W μ h p c):∀a∈adr p,∃o,h.get? a=F5 o:=by
 cases c with
 |lst l=>cases r with|mk e _ x _=>exact xX e x.some
 |dict l st=>cases r with|mk e d _=>exact xX e (td d).some
 |aX l st=>cases r with|mk e d _=>exact xX e (ux d).some
 |set l=>cases r with|mk e d _=>exact xX e (ug d).some
 |inst c fl=>cases r with|mk e hc hd I _ _=>exact LO e ⟨_,I.at_⟩ ⟨_,wb I hd⟩
def aY.alive(N:aY W μ H h):∀a∈foot μ,∃o,h.get? a=F5 o:=λa ha=>
 (cD.mp ha).elim (N.jE a) λha=>by
  obtain⟨q,hq,ha⟩:=mE.mp ha;obtain⟨i,hi⟩:=jS.mp hq;obtain⟨hp,r,_⟩:=N.cq (bu (N.len▸(dT.mp hi).1));exact r.alive a (ay (hi.symm.trans hp)▸ha)
def aY.out(N:aY W μ H h)(ha:h.get? a=L3):a∉foot μ:=λm=>(N.alive a m).elim λy e=>ai (ha.symm.trans e)
def nY(k:∀b o,h.get? b=F5 o->h'.get? b=F5 o):Ext μ h μ h':=⟨nG _,rfl,λy m=>.inl m,λb o e y y=>k b o e,λb o e=>⟨⟨k b o e,λy=>⟨rfl,rfl⟩⟩⟩,λy y y=>⟨au _,λy o e=>k _ o e⟩,λy y o e=>k _ o e⟩
def aY.grow(N:aY W μ H h)(k:∀b o,h.get? b=F5 o->h'.get? b=F5 o):aY W μ H h':=N.to ((nY k).kp .none) (λy o y e=>k _ o e) (λy o y e=>k _ o e)
def wM(k:∀b o,h.get? b=F5 o->h'.get? b=F5 o)(hn:∀a∈adr p,h.get? a=L3):Ext μ h (μ.push p) h':=
 ⟨qO _ _,rfl,λa m=>(AX m).imp id (hn a),λb o e y y=>k b o e,λb o e=>⟨⟨k b o e,λy=>⟨rfl,rfl⟩⟩⟩,λi q hq=>
  have e:(μ.push p).st i=μ.st i:=aD (ee (dT.mp hq).1)
  ⟨bX e.symm,λy o e=>k _ o e⟩,λy y o e=>k _ o e⟩
def aY.push(N:aY W μ H h)(k:∀b o,h.get? b=F5 o->h'.get? b=F5 o){c:Cell}(hn:∀a∈adr p,h.get? a=L3)(hd:(adr p).Nodup)(hc:CR W (μ.push p) h' p c)(hst:∀st,stampOf c=F5 st->0=st):aY W (μ.push p) (H++[c]) h' where
 base:=λb o e=>k b o (N.base b o e)
 fresh:=λa m=>(AX m).elim (N.fresh a) λm=>N.o6 (hn a m)
 apart:=AY μ p▸fm.mpr ⟨N.apart,hd,λa ha b hb e=>by obtain⟨o,ho⟩:=N.alive a ha;exact ai ((hn a (e▸hb)).symm.trans ho)⟩
 jE:=λa m=>(N.jE a m).elim λo e=>⟨o,k a o e⟩
 len:=by show(μ.l++[p]).length=_;rw[a8,a8,N.len];rfl
 cq:=λ{i c'} e=>by
  rcases ER e with e|⟨hi,e⟩
  .exact(N.cq e).kp ((wM k hn).kp .none) (λp hp a ha o=>k a o) (aD (ee (N.len▸(dT.mp e).1)))
  .rw[hi,<-e];exact⟨by rw[<-N.len];exact w8 _ _,hc,λst q=>(aI N.len.symm).trans (hst st q)⟩
def OT(N:aY W μ H h)(hp:μ.l[i]?=F5 p)(hbp:b∈adr p)(hs:∀a o,a≠b->h.get? a=F5 o->h'.get? a=F5 o)(ho:h.get? b=F5 o)(ho':h'.get? b=F5 o')(h1:o'.cls=o.cls)(h2:o'.dict=o.dict):Ext μ h (μ.bump i) h' where
 pre:=nG _
 gs:=rfl
 new:=λy m=>.inl m
 keep:=λx o e n y=>hs x o (λq=>n (q▸wQ hp hbp)) e
 live:=λx o₁ e=>(oT (x=b)).elim (λq=>⟨⟨q▸ho',λy=>ay (ho.symm.trans (q▸e))▸⟨h1,h2⟩⟩⟩) λq=>⟨⟨hs x o₁ q e,λy=>⟨rfl,rfl⟩⟩⟩
 fU:=λj q hq=>by
  show μ.st j<=(if j=i then μ.st j+1 else μ.st j)/\((if j=i then μ.st j+1 else μ.st j)=μ.st j->_)
  split
  .exact⟨cJ _,λz=>absurd z (Nat.succ_ne_self _)⟩
  .rename_i hj;exact⟨au _,λy o e=>hs _ o (λz=>hj (GF N.apart hp hq b hbp (z▸oa)).symm) e⟩
 gk:=λa m o e=>hs a o (λq=>(fm.mp N.apart).2.2 a m b (mE.mpr ⟨p,d8 hp,hbp⟩) q) e
def aY.set(N:aY W μ H h)(hp:μ.l[i]?=F5 p)(hbp:b∈adr p)(hs:∀a o,a≠b->h.get? a=F5 o->h'.get? a=F5 o)(E:Ext μ h (μ.bump i) h'){c:Cell}
  (hc:CR W (μ.bump i) h' p c) (hst:∀st,stampOf c=F5 st->μ.st i+1=st):aY W (μ.bump i) (H.set i c) h' where
 base:=λx o e=>hs x o (λq=>ai ((N.fresh _ (wQ hp hbp)).symm.trans (q▸e))) (N.base x o e)
 fresh:=N.fresh
 apart:=N.apart
 jE:=λa m=>(N.jE a m).elim λo e=>⟨o,E.gk a m o e⟩
 len:=by rw[List.length_set];exact N.len
 cq:=λ{j c'} e=>by
  rcases Y5 e with ⟨hij,e⟩|⟨hij,e⟩
  .exact(N.cq e).kp (E.kp .none) (λq hq a ha o=>hs a o λz=>hij (GF N.apart hp hq b hbp (z▸ha))) (aD (kE hij))
  .rw[<-hij,<-e];exact⟨hp,hc,λst q=>(aI rfl).trans (hst st q)⟩
abbrev F0:G7->R5->Prop:=λy y=>False
abbrev Wp(W:Wd)(A:Around)(m:Sem α)(R:α->R5->Prop)(s:R5):Prop:=wpAny (model W.prog W.w) A m R F0 s
structure kN(W:Wd):Prop where
 uE:W.K.In W.h₀
 g:W.h₀.Ns mainGlobals W.mg
 b:W.h₀.Ns builtinsNs W.mb
 lim:W.h₀.NoLimit
 Kx:W.h₀.get? sysModules≠L3
 blt:∀x:Str,x≠"__name__"->W.mb x=bootBuiltins x
 zk:∀c cA,W.cls c=F5 cA->hasDictIn W.K cA=F6
 cover:∀c cA,W.cls c=F5 cA->plainOver W.K cA=F6
 FG:∀c cA,W.cls c=F5 cA->findIn W.K (.ref cA) "__setattr__"=F5 (F5 (.builtin "object.__setattr__"))
 zu:∀c cA (nm:Str),W.cls c=F5 cA->plainGet W.K cA nm=F6
 E7:∀c cA,W.cls c=F5 cA->makesIn W.K cA=F6
 zj:∀c cA nm,W.cls c=F5 cA->nm∈W.attrs->gK c (aV nm)=L0->findIn W.K (.ref cA) nm=F5 L3
 vi:∀nm∈W.attrs,dX nm
 int:∀x i,W.lM x=F5 i->∃t,W.mg x=F5 (.int i t)
 fn:∀x f,W.lL x=F5 f->∃a,W.mV f=F5 a/\W.mg x=F5 (.ref a)
 AW:∀f a,W.mV f=F5 a->keepIn W.K (.ref a)=F6
 Eu:∀x c,W.lK x=F5 c->∃cA,W.cls c=F5 cA/\W.mg x=F5 (.ref cA)/\keepIn W.K (.ref cA)=F6
 free:∀x∈W.fI,W.mg x=L3/\x≠"__name__"
 pQ:∀c nm f cA,W.cls c=F5 cA->nm∈W.kb->W.T.pQ c (aV nm)=F5 f->∃a,W.mV f=F5 a/\findIn W.K (.ref cA) nm=F5 (F5 (.ref a))/\isFn W.K (.ref a)=F6
 Il:∀nm∈W.kb,dX nm
 init:∀c f cA,W.cls c=F5 cA->W.T.init c=F5 f->∃a,W.mV f=F5 a/\findIn W.K (.ref cA) "__init__"=F5 (F5 (.ref a))/\isFn W.K (.ref a)=F6
structure Rm(A:Around)(n:Nat):Prop where
 u:A.units+20*n+1300<cLine
 d:A.depth+3*n+2<recursionLimit
 hd:A.handled=L3
structure Ok(W:Wd)(n:Nat)(A:Around)(μ:Mu)(H:AH)(s:R5):Prop where
 wk:kN W
 rm:Rm A n
 N:aY W μ H s.heap
structure bR(W:Wd)(μ:Mu)(s:R5)(H':AH)(μ':Mu)(s':R5):Prop where
 g:s'.gens=s.gens
 o:s'.os=s.os
 E:Ext μ s.heap μ' s'.heap
 N:aY W μ' H' s'.heap
def Kc(W:Wd)(μ:Mu)(s:R5)(H':AH)(v:V)(R:G7->R5->Prop):Prop:=∀{cv:G7} {s':R5} {μ':Mu},bR W μ s H' μ' s'->VR μ' s'.heap v cv->R cv s'
def Ku(W:Wd)(μ:Mu)(s:R5)(H':AH)(R:Unit->R5->Prop):Prop:=∀{s':R5} {μ':Mu},bR W μ s H' μ' s'->R () s'
def Cg:aJ<=sizeLine:=by decide
def fR(h:n<=aJ):n<=sizeLine:=aA h Cg
def m6(h:n<=aJ):(n:Int)<2 ^ 63:=yj (mC.mpr h) ⋯
variable{A:Around}{H' H'':AH}{s s' s'':R5}{v:V}{cv:G7}{R:G7->R5->Prop}{items':List G7}{P:G7->Prop}{q:List Int}{k:Nat}
section
variable{l':List V}{tk:Nat}
def Rm.lt(r:Rm A n):A.units<cLine:=bp (aA (aW _ _) (aW _ _)) r.u
def bR.of(N:aY W μ' H' h')(E:Ext μ s.heap μ' h'):bR W μ s H' μ' {s with heap:=h',toks:=tk}:=⟨rfl,rfl,E,N⟩
def bR.refl(N:aY W μ H s.heap):bR W μ s H μ {s with toks:=tk}:=⟨rfl,rfl,.refl,N⟩
def bR.grow(N:aY W μ H s.heap)(k:∀b o,s.heap.get? b=F5 o->h'.get? b=F5 o):bR W μ s H μ {s with heap:=h',toks:=tk}:=.of (N.grow k) (nY k)
def bR.trans(x:bR W μ s H μ' s')(y:bR W μ' s' H' μ'' s''):bR W μ s H' μ'' s'':=⟨y.g.trans x.g,y.o.trans x.o,x.E.trans y.E,y.N⟩
def bR.up(x:bR W μ s H μ' s')(r:VR μ s.heap v cv):VR μ' s'.heap v cv:=VR.ext x.E .none v r
def bR.ups(x:bR W μ s H μ' s')(r:aM μ s.heap l items):aM μ' s'.heap l items:=aM.ext x.E .none l r
def Kc.here(k:Kc W μ s H v R)(N:aY W μ H s.heap)(r:VR μ s.heap v cv):R cv {s with toks:=tk}:=k (bR.refl N) r
inductive LR(l:List V)(H:AH):V->AH->Prop
 |val:LR l H (.lst l) H|cell:LR l H (.obj H.length) (H++[.lst l])
def Ki(a:lb):(adr (a,L3)).Nodup:=bo.mpr ⟨dZ,dU⟩
def Ce(hn:h.get? a=L3):∀b∈adr (a,L3),h.get? b=L3:=λb m=>(bB.mp m)▸hn
def Jq(N:aY W μ H s.heap)(p:lb×Option lb):(μ.push p).l[H.length]?=F5 p:=by rw[<-N.len];exact w8 _ _
def xF(N:aY W μ H s.heap){c:Cell}(k:∀b o,s.heap.get? b=F5 o->h'.get? b=F5 o)(hn:s.heap.get? a=L3)(hc:CR W (μ.push (a,L3)) h' (a,L3) c)(hst:∀st,stampOf c=F5 st->0=st)(K:Kc W μ s (H++[c]) (.obj H.length) R):R (.ref a) {s with heap:=h',toks:=tk}:=
 K (.of (N.push k (Ce hn) (Ki a) hc hst) (wM k (Ce hn))) (.uT (Jq N (a,L3)))
def mZ(q:LR l H v H')(N:aY W μ H s.heap)(hl:aM μ s.heap l items)(z:l.length<=aJ)(k:∀b o,s.heap.get? b=F5 o->h'.get? b=F5 o)(hn:s.heap.get? a=L3)(ho:XL h' a items)(K:Kc W μ s H' v R):R (.ref a) {s with heap:=h',toks:=tk}:=by
 cases q with
 |val=>exact K (.grow N k) ⟨rfl,N.out hn,ho,z,aM.ext (nY k) .none l hl⟩|cell=>exact xF (c:=.lst l) N k hn ⟨rfl,z,ho,aM.ext (wM k (Ce hn)) .none l hl⟩ (λy e=>ai e) K
def Bp(N:aY W μ H s.heap)(hl:aM μ s.heap l items)(z:l.length<=aJ)(k:∀b o,s.heap.get? b=F5 o->h'.get? b=F5 o)(hn:s.heap.get? a=L3)(ho:XT h' a items)(K:Kc W μ s H (.tup l) R):R (.ref a) {s with heap:=h',toks:=tk}:=
 K (.grow N k) ⟨rfl,N.out hn,ho,z,aM.ext (nY k) .none l hl⟩
def none_of(e:p.2=L3):p=(p.1,L3):=iQ rfl e
def ij(N:aY W μ H s.heap)(hc:H[i]?=F5 (.lst l))(hv:VR μ s.heap (.obj i) cv)(k:∀a items,μ.l[i]?=F5 (a,L3)->XL s.heap a items->aM μ s.heap l items->l.length<=aJ->P (.ref a)):P cv:=
 hv.p4 λp hp=>(N.cq hc).casesOn λhp' ζ' y=>ζ'.casesOn λe z x r=>pW hp' hp (P:=λp=>P (.ref p.1)) (k _ _ (none_of e▸hp') x r z)
def kR{kvs:List (Atom×V)}{st:Nat}(N:aY W μ H s.heap)(hc:H[i]?=F5 (.dict kvs st))(hv:VR μ s.heap (.obj i) cv)(k:∀a cs,μ.l[i]?=F5 (a,L3)->s.heap.DictOf (cM W.prog W.w) a cs->PR μ s.heap kvs cs->P (.ref a)):P cv:=
 hv.p4 λp hp=>(N.cq hc).casesOn λhp' ζ' y=>ζ'.casesOn λe d r=>pW hp' hp (P:=λp=>P (.ref p.1)) (k _ _ (none_of e▸hp') d r)
def pv{kvs:List (List Atom×V)}{st:Nat}(N:aY W μ H s.heap)(hc:H[i]?=F5 (.aX kvs st))(hv:VR μ s.heap (.obj i) cv)(k:∀a cs,μ.l[i]?=F5 (a,L3)->s.heap.DictOfH (tupleKind (cM W.prog W.w)) a cs->TR μ s.heap kvs cs->P (.ref a)):P cv:=
 hv.p4 λp hp=>(N.cq hc).casesOn λhp' ζ' y=>ζ'.casesOn λe d r=>pW hp' hp (P:=λp=>P (.ref p.1)) (k _ _ (none_of e▸hp') d r)
def sC(N:aY W μ H s.heap)(hc:H[i]?=F5 (.set q))(hv:VR μ s.heap (.obj i) cv)(k:∀a,μ.l[i]?=F5 (a,L3)->s.heap.SetOf (intKind W.prog W.w) a (λk=>q.contains k) q.length->q.Nodup->P (.ref a)):P cv:=
 hv.p4 λp hp=>(N.cq hc).casesOn λhp' ζ' y=>ζ'.casesOn λe d r=>pW hp' hp (P:=λp=>P (.ref p.1)) (k _ (none_of e▸hp') d r)
def turn(N:aY W μ H s.heap)(hp:μ.l[i]?=F5 p)(hb:b∈adr p)(hs:∀x o,x≠b->s.heap.get? x=F5 o->h'.get? x=F5 o)(ho:s.heap.get? b=F5 o)(ho':h'.get? b=F5 o')(h1:o'.cls=o.cls)(h2:o'.dict=o.dict){c:Cell}
  (hc:Ext μ s.heap (μ.bump i) h'->CR W (μ.bump i) h' p c) (hst:∀st,stampOf c=F5 st->μ.st i+1=st):bR W μ s (H.set i c) (μ.bump i) {s with heap:=h',toks:=tk}:=
 have E:=OT N hp hb hs ho ho' h1 h2;.of (N.set hp hb hs E (hc E) hst) E
def mz(hs:Heap.SameBut b h h'):∀x o,x≠b->h.get? x=F5 o->h'.get? x=F5 o:=λx y n e=>(hs.2 x n).trans e
def Cw(N:aY W μ H s.heap)(hp:μ.l[i]?=F5 (a,L3))(hs:Heap.SameBut a s.heap h')(x:mI s.heap a T)(x':mI h' a T){c:Cell}(hc:Ext μ s.heap (μ.bump i) h'->CR W (μ.bump i) h' (a,L3) c)(hst:∀st,stampOf c=F5 st->μ.st i+1=st):
  bR W μ s (H.set i c) (μ.bump i) {s with heap:=h',toks:=tk}:=by
 cases x with|mk ho c1 d1=>cases x' with|mk ho' c2 d2=>exact turn N hp (.head _) (mz hs) ho ho' (c2.trans c1.symm) (d2.trans d1.symm) hc hst
def sM(N:aY W μ H s.heap)(hp:μ.l[i]?=F5 (a,L3))(hx:XL s.heap a items)(hs:∀x o,x≠a->s.heap.get? x=F5 o->h'.get? x=F5 o)(hx':XL h' a items')(hr:aM μ s.heap l' items')(z:l'.length<=aJ):bR W μ s (H.set i (.lst l')) (μ.bump i) {s with heap:=h',toks:=tk}:=
 let ⟨ho⟩:=hx;hx'.casesOn λho'=>turn N hp (.head _) hs ho ho' rfl rfl (λE=>⟨rfl,z,⟨ho'⟩,aM.ext E .none l' hr⟩) λy e=>ai e
def Km{c c':Cell}(N:aY W μ H s.heap)(hc:H[i]?=F5 c)(h1:stampOf c=F5 k)(h2:stampOf c'=F5 (k+1)):∀st,stampOf c'=F5 st->μ.st i+1=st:=λst e=>
 let ⟨_,_,q⟩:=N.cq hc;(aF (·+1) (q k h1)).trans (ay (h2.symm.trans e))
def LK{cs:List (Atom×G7)}{kvs:List (Atom×V)}{cs₁:List (Atom×G7)}{c:Cell}{st:Nat}(N:aY W μ H s.heap)(hc:H[i]?=F5 c)(hst:stampOf c=F5 st)(hp:μ.l[i]?=F5 (a,L3))(hd:s.heap.DictOf (cM W.prog W.w) a cs)(hs:Heap.SameBut a s.heap h')(hd':h'.DictOf (cM W.prog W.w) a cs₁)(hr:PR μ s.heap kvs cs₁):
  bR W μ s (H.set i (.dict kvs (st+1))) (μ.bump i) {s with heap:=h',toks:=tk}:=
 Cw N hp hs (td hd) (td hd') (λE=>⟨rfl,hd',hr.kp (E.kp .none)⟩) (Km N hc hst rfl)
def LM{q':List Int}(N:aY W μ H s.heap)(hp:μ.l[i]?=F5 (a,L3))(hd:s.heap.SetOf (intKind W.prog W.w) a (λk=>q.contains k) q.length)(hs:Heap.SameBut a s.heap h')(hd':h'.SetOf (intKind W.prog W.w) a (λk=>q'.contains k) q'.length)(hn:q'.Nodup):
  bR W μ s (H.set i (.set q')) (μ.bump i) {s with heap:=h',toks:=tk}:=
 Cw N hp hs (ug hd) (ug hd') (λy=>⟨rfl,hd',hn⟩) λy e=>ai e
def aAl{kvs:List (List Atom×V)}{cs':List (List Atom×lb×G7)}{c:Cell}{st:Nat}(N:aY W μ H s.heap)(hc:H[i]?=F5 c)(hst:stampOf c=F5 st)(hp:μ.l[i]?=F5 (a,L3))(hd:s.heap.DictOfH (tupleKind (cM W.prog W.w)) a cs)(hs:Heap.SameBut a s.heap h')(hd':h'.DictOfH (tupleKind (cM W.prog W.w)) a cs')(hr:Ext μ s.heap (μ.bump i) h'->TR (μ.bump i) h' kvs cs'):
  bR W μ s (H.set i (.aX kvs (st+1))) (μ.bump i) {s with heap:=h',toks:=tk}:=
 Cw N hp hs (ux hd) (ux hd') (λE=>⟨rfl,hd',hr E⟩) (Km N hc hst rfl)
end
section
variable(W:Wd)(u v x:V)(H H':AH)
def P1(f:G7->Sem G7):Prop:=∀{n:Nat} {A:Around} {s:R5} {μ:Mu} {cu:G7} {R:G7->R5->Prop},Ok W n A μ H s->VR μ s.heap u cu->Kc W μ s H' v R->Wp W A (f cu) R s
def P2(f:G7->G7->Sem G7):Prop:=∀{n:Nat} {A:Around} {s:R5} {μ:Mu} {cu cx:G7} {R:G7->R5->Prop},Ok W n A μ H s->VR μ s.heap u cu->VR μ s.heap x cx->Kc W μ s H' v R->Wp W A (f cu cx) R s
end
inductive cU(W:Wd)(A:Around)(s:R5)(cu:G7)(g:Sem G7)(R:G7->R5->Prop):Prop
 |mk {T id:String} (hT:s.TypeIs cu T) (hl:typeLookup (.type T) "__getitem__"=pure (F5 (.builtin id))) (w:Wp W A g R s)
def eO(W:Wd)(u x:V)(H:AH)(v:V):Prop:=∀{n:Nat} {A:Around} {s:R5} {μ:Mu} {cu cx:G7} {R:G7->R5->Prop},Ok W n A μ H s->VR μ s.heap u cu->VR μ s.heap x cx->Kc W μ s H v R->cU W A s cu (getItem cu cx) R
def hO(W:Wd)(u x v:V)(H H':AH):Prop:=∀{n:Nat} {A:Around} {s:R5} {μ:Mu} {cu cx cv:G7} {R:Unit->R5->Prop},Ok W n A μ H s->VR μ s.heap u cu->VR μ s.heap x cx->VR μ s.heap v cv->Ku W μ s H' R->Wp W A (setItem cu cx cv) R s
def KX(h:k<n):seqIndex? (k:Int) n=F5 k:=by
 unfold seqIndex?;rw[aD (mB.mpr (fD k)),aI (by rw[d5,nT,nT];exact⟨fD k,gV.mpr h⟩)]
 rfl
theorem Iy:∀{n:Nat},1<=n->((-1:Int)+(n:Int)).toNat=n-1
 |n+1,_=>by rw[Int.natCast_add,Int.add_comm (n:Int),<-Int.add_assoc];exact(aF Int.toNat (Int.zero_add _)).trans (sq n)
def k5(x:XL s.heap a items):s.TypeIs (.ref a) "list":=x.casesOn λe=>⟨_,e,rfl⟩
def LQ(x:XT s.heap a items):s.TypeIs (.ref a) "tuple":=x.casesOn λe=>⟨_,e,rfl⟩
def pP{l:List α}{x:α}(h:l[k]?=F5 x):k<l.length:=(dT.mp h).1
def xC(h:k<n)(z:n<=aJ):(k:Int)<2 ^ 63:=Int.lt_trans (gV.mpr h) (m6 z)
def Iz(k:Nat):-(2 ^ 63:Int)<=(k:Int):=j8 ⋯ (fD k)
variable{x ck:G7}{p:lb×G7}{b:Option G7}{d:V}
def GX(hx:XL s.heap a items)(z:items.length<=aJ)(e:items[k]?=F5 x)(q:R x s):cU W A s (.ref a) (getItem (.ref a) (.int k t)) R:=
 ⟨k5 hx,xt.lookup,wpAny_getItem_list hx.is (fD k) (xC (pP e) z) (by rw[sq,mD];exact e) q⟩
def QU(hx:XT s.heap a items)(z:items.length<=aJ)(e:items[k]?=F5 x)(q:R x s):cU W A s (.ref a) (getItem (.ref a) (.int k t)) R:=
 ⟨LQ hx,zG.lookup,getItem_tuple hx.is (Iz k) (xC (pP e) z) (KX (by rw[bQ];exact pP e)) (by rw[mD];exact e) q⟩
def QT(hx:XL s.heap a items)(z:items.length<=aJ)(e:items.getLast?=F5 x)(q:R x s):cU W A s (.ref a) (getItem (.ref a) (.int (-1) t)) R:=by
 rw[vR] at e;have h1:1<=items.length:=Dz (bp (ba _) (pP e));refine⟨k5 hx,xt.lookup,wpAny_getItem_list_neg hx.is ⋯ (Int.neg_le_neg (mC.mpr h1)) ⋯ ?_ q⟩
 rw[bQ,Iy h1,mD];exact e
def eO.tup(e:l[k]?=F5 v):eO W (.tup l) (.int k) H v:=λ{y A s y y y R} K hu hx c=>
 hx.b7 (P:=λcx=>cU W A s _ (getItem _ cx) R) λy=>hu.gS (P:=λcu=>cU W A s cu (getItem cu _) R) λy y nf x z r=>(r.get e).casesOn λζ'=>ζ'.casesOn λe' hv=>QU x (r.length▸z) e' (c.here K.N hv)
def eO.lst(e:l[k]?=F5 v):eO W (.lst l) (.int k) H v:=λ{y A s y y y R} K hu hx c=>
 hx.b7 (P:=λcx=>cU W A s _ (getItem _ cx) R) λy=>hu.sO (P:=λcu=>cU W A s cu (getItem cu _) R) λy y nf x z r=>(r.get e).casesOn λζ'=>ζ'.casesOn λe' hv=>GX x (r.length▸z) e' (c.here K.N hv)
def eO.cell(hc:H[i]?=F5 (.lst l))(e:l[k]?=F5 v):eO W (.obj i) (.int k) H v:=λ{y A s y y y R} K hu hx c=>
 hx.b7 (P:=λcx=>cU W A s _ (getItem _ cx) R) λy=>ij K.N hc hu (P:=λcu=>cU W A s cu (getItem cu _) R) λy y y x r z=>(r.get e).casesOn λζ'=>ζ'.casesOn λe' hv=>GX x (r.length▸z) e' (c.here K.N hv)
def eO.last(hc:H[i]?=F5 (.lst l))(e:l.getLast?=F5 v):eO W (.obj i) (.int (-1)) H v:=λ{y A s y y y R} K hu hx c=>
 hx.b7 (P:=λcx=>cU W A s _ (getItem _ cx) R) λy=>ij K.N hc hu (P:=λcu=>cU W A s cu (getItem cu _) R) λy y y x r z=>
  let ⟨⟨e',hv⟩⟩:=r.get (vR.symm.trans e)
  QT x (r.length▸z) (vR.trans (r.length▸e')) (c.here K.N hv)
def key_is{a:Atom}(hv:VR μ h (cN a) ck):(cM prog w).is a ck=F6:=by
 cases a
 .exact hv.b7 (P:=λck=>tR _ ck=F6) λy=>jx.int.is
 .exact hv.gR (P:=λck=>tR _ ck=F6) λy=>jx.str.is
theorem G6:∀{k:List Atom} {vs:List G7},aM μ h (k.map cN) vs->ItemsAre (cM prog w) k vs
 | []=>λhv=>hv.jP (P:=λvs=>ItemsAre (cM prog w) [] vs) .nil|_::k=>λhv=>hv.eY (P:=λvs=>ItemsAre (cM prog w) (_::k) vs) λy y h1 h2=>.cons (key_is h1) (G6 h2)
def uy{k:List Atom}(hv:VR μ h (.tup (k.map cN)) ck)(q:∀a,(tupleKind (cM prog w)).is h k a->VR μ h (.tup (k.map cN)) (.ref a)->P (.ref a)):P ck:=
 hv.gS λa items nf x z r=>q a (x.casesOn λho=>⟨_,items.toArray,_,ho,rfl,rfl,by rw[tA];exact G6 r⟩) ⟨rfl,nf,x,z,r⟩
section
variable{K B:Type}[DecidableEq K]{l:List (K×B)}{k k':K}{v:B}
def uC:aR ((k,v)::l) k=F5 v:=by
 unfold aR;rw[List.find?_cons_of_pos (p:=λp:K×B=>decide (p.1=k)) (bE (p:=k=k) rfl)];rfl
def uD(e:k'≠k):aR ((k',v)::l) k=aR l k:=by
 unfold aR;rw[List.find?_cons_of_neg (p:=λp:K×B=>decide (p.1=k)) (λq=>e (dG q))]
end
def aAw{K:Type}[DecidableEq K]{r:List (K×G7)}{k:K}{v:G7}:valueAt ((k,v)::r) k=F5 v:=uC
def aAx{K:Type}[DecidableEq K]{r:List (K×G7)}{k k':K}{v:G7}(e:k'≠k):valueAt ((k',v)::r) k=valueAt r k:=uD (l:=r) e
def EL{K:Type}[DecidableEq K]{r:List (K×lb×G7)}{k:K}:atKey ((k,p)::r) k=F5 p:=uC
def EM{K:Type}[DecidableEq K]{r:List (K×lb×G7)}{k k':K}(e:k'≠k):atKey ((k',p)::r) k=atKey r k:=uD (l:=r) e
inductive l8(μ:Mu)(h:Heap):Option V->Option G7->Prop
 |no:l8 μ h L3 L3|yes {v:V} {c:G7}:VR μ h v c->l8 μ h (F5 v) (F5 c)
def l8.is{a:Option V}(x:l8 μ h a b):b.isSome=a.isSome:=by cases x<;>rfl
def l8.or{a:Option V}(x:l8 μ h a b){c:G7}(r:VR μ h d c):VR μ h (a.getD d) (b.getD c):=by
 cases x with
 |no=>exact r|yes r=>exact r
def PR.get{l:List (Atom×V)}{r:List (Atom×G7)}(x:PR μ h l r)(k:Atom):l8 μ h (aR l k) (valueAt r k):=by
 induction x with
 |nil=>exact .no|@cons k' y cv r r' hv _ ih=>
  by_cases hk:k'=k
  .rw[hk,uC,aAw];exact .yes hv
  .rw[uD hk,aAx hk];exact ih
def TR.get{l:List (List Atom×V)}(x:TR μ h l r)(k:List Atom):l8 μ h (aR l k) ((atKey r k).map (·.2)):=by
 induction x with
 |nil=>exact .no|@cons k' y a cv r r' hv ha _ ih=>
  by_cases hk:k'=k
  .rw[hk,uC,EL];exact .yes hv
  .rw[uD hk,EM hk];exact ih
def PR.find{l:List (Atom×V)}{r:List (Atom×G7)}(x:PR μ h l r){k:Atom}(e:aR l k=F5 v):Ex λc=>aw (valueAt r k=F5 c) (VR μ h v c):=by
 have g:=x.get k;rw[e] at g;generalize valueAt r k=q at g;cases g with|yes hv=>exact⟨⟨rfl,hv⟩⟩
def TR.find{l:List (List Atom×V)}(x:TR μ h l r){k:List Atom}(e:aR l k=F5 v):Ex λp=>aw (atKey r k=F5 p) (VR μ h v p.2):=by
 have g:=x.get k;rw[e] at g;generalize atKey r k=q at g
 cases q with
 |none=>cases g|some p=>cases g with|yes hv=>exact⟨⟨rfl,hv⟩⟩
def mY(wk:kN W)(N:aY W μ H h){p:lb×Option lb}(hp:μ.l[i]?=F5 p):(p.1 == sysModules)=L0:=
 tV.mpr λe=>wk.Kx (e▸N.fresh _ (wR hp))
def Rm.VU(r:Rm A n):A.units+1<cLine:=bp (eb (aW _ _) ⋯) r.u
def room(r:Rm A n):(tupleKind (cM W.prog W.w)).room A.in1:=tupleKind_room_in1 r.VU
def K8(d:s.heap.DictOfH (tupleKind (cM W.prog W.w)) a cs):s.TypeIs (.ref a) "dict":=(ux d).casesOn λho c y=>⟨_,ho,c⟩
def eO.dict{st:Nat}{kvs:List (Atom×V)}{k:Atom}(hc:H[i]?=F5 (.dict kvs st))(e:aR kvs k=F5 v):eO W (.obj i) (cN k) H v:=λ{y A s y y y R} K hu hx c=>
 kR K.N hc hu (P:=λcu=>cU W A s cu (getItem cu _) R) λy y y d r=>(r.find e).casesOn λζ'=>ζ'.casesOn λhq hv=>⟨d.typeIs,slot_dict_getitem.lookup,wpAny_getItem_of (key_is hx) d.mapOf hq (c.here K.N hv)⟩
def eO.aX{st:Nat}{kvs:List (List Atom×V)}{k:List Atom}(hc:H[i]?=F5 (.aX kvs st))(e:aR kvs k=F5 v):eO W (.obj i) (.tup (k.map cN)) H v:=λ{y A s y y y R} K hu hx c=>
 uy hx (P:=λcx=>cU W A s _ (getItem _ cx) R) λa hk y=>pv K.N hc hu (P:=λcu=>cU W A s cu (getItem cu _) R) λy y y d r=>(r.find e).casesOn λζ'=>ζ'.casesOn λhq hv=>⟨K8 d,slot_dict_getitem.lookup,wpAny_getItem_heap (room K.rm) hk d hq (c.here K.N hv)⟩
variable{l:List (Atom×V)}{k:Atom}
def PR.length{l:List (Atom×V)}{r:List (Atom×G7)}(x:PR μ h l r):r.length=l.length:=by
 induction x with
 |nil=>rfl|cons _ _ ih=>exact aF (·+1) ih
def TR.length{l:List (List Atom×V)}(x:TR μ h l r):r.length=l.length:=by
 induction x with
 |nil=>rfl|cons _ _ _ ih=>exact aF (·+1) ih
def PR.any{r:List (Atom×G7)}(x:PR μ h l r)(k:Atom):(r.any λkv=>decide (kv.1=k))=l.any λp=>decide (p.1=k):=by
 induction x with
 |nil=>rfl|cons _ _ ih=>exact aF (_||·) ih
def PR.append{l':List (Atom×V)}{r r':List (Atom×G7)}(x:PR μ h l r)(y:PR μ h l' r'):PR μ h (l++l') (r++r'):=by
 induction x with
 |nil=>exact y|cons a _ ih=>exact .cons a ih
def PR.map{r:List (Atom×G7)}(x:PR μ h l r)(hv:VR μ h v cv):
  PR μ h (l.map λp=>if p.1=k then(p.1,v) else p) (r.map λkv=>if kv.1=k then(kv.1,cv) else kv):=by
 induction x with
 |nil=>exact .nil|@cons k' y c r r' hy _ ih=>
  rw[cV,cV];by_cases e:k'=k
  .rw[aI e,aI e];exact .cons hv ih
  .rw[aD e,aD e];exact .cons hy ih
def PR.put{r:List (Atom×G7)}(x:PR μ h l r)(hv:VR μ h v cv):PR μ h (bS l k v) (stored r k cv):=by
 unfold bS stored;rw[x.any k];split
 .exact x.map hv
 .exact x.append (.cons hv .nil)
def PR.del{r:List (Atom×G7)}(x:PR μ h l r)(k:Atom):PR μ h (pI l k) (without r k):=by
 unfold pI without
 induction x with
 |nil=>exact .nil|@cons k' y c r r' hy _ ih=>
  by_cases hk:k'=k
  .rw[s7,s7,bC (p:=k'≠k) λq=>q hk];exact ih
  .rw[s7,s7,bE (p:=k'≠k) hk];exact .cons hy ih
def TR.append{l l':List (List Atom×V)}{r':List (List Atom×lb×G7)}(x:TR μ h l r)(y:TR μ h l' r'):TR μ h (l++l') (r++r'):=by
 induction x with
 |nil=>exact y|cons a b _ ih=>exact .cons a b ih
def TR.any{l:List (List Atom×V)}(x:TR μ h l r)(k:List Atom):(atKey r k).isSome=l.any λp=>decide (p.1=k):=by
 induction x with
 |nil=>rfl|@cons k' y a c r r' _ _ _ ih=>
  rw[qG];by_cases hk:k'=k
  .rw[hk,EL,bE rfl];rfl
  .rw[EM hk,ih,bC hk];rfl
def TR.map{l:List (List Atom×V)}(x:TR μ h l r){k:List Atom}(hv:VR μ h v cv):
  TR μ h (l.map λp=>if p.1=k then(p.1,v) else p) (r.map (putAt k cv)):=by
 induction x with
 |nil=>exact .nil|@cons k' y b c r r' hy hb _ ih=>
  rw[cV,cV];unfold putAt;by_cases e:k'=k
  .rw[aI e,aI e];exact .cons hv hb ih
  .rw[aD e,aD e];exact .cons hy hb ih
def TR.put{l:List (List Atom×V)}(x:TR μ h l r){k:List Atom}(hv:VR μ h v cv)(ha:VR μ h (.tup (k.map cN)) (.ref a)):TR μ h (bS l k v) (storedH r k a cv):=by
 unfold bS storedH;rw[x.any k];split
 .exact x.map hv
 .exact x.append (.cons hv ha .nil)
def u5{f:Array G7->Array G7}(ho:h.get? a=F5 {cls:=.type "list",data:=.seq items.toArray n})(hf:f items.toArray=items'.toArray):
  XL (h.update a (Obj.mapSeq f)) a items':=
 ⟨(mA (Obj.mapSeq f) ho rfl).trans (aF F5 (by unfold Obj.mapSeq;dsimp only;rw[hf]))⟩
def Y3{k:Int}{v:G7}{R:Unit->R5->Prop}(e:k=j)(hl:XL s.heap a items)(hz:items.length<=aJ)(hj:j<items.length)
  (hQ:∀h',XL h' a (items.set j v)->Heap.SameBut a s.heap h'->R () {s with heap:=h'}):wpAny (model W.prog W.w) A (setItem (.ref a) (.int k t) v) R F0 s:=by
 obtain⟨ho⟩:=hl;have hT:s.TypeIs (.ref a) "list":=⟨_,ho,rfl⟩;have fin:=u5 (f:=(·.setIfInBounds j v)) (items':=items.set j v) ho (by rw[List.setIfInBounds_toArray])
 have hx:items.toArray[j]?=F5 items[j]:=by rw[mD];exact bu hj
 unfold setItem
 try with_reducible refine fB ?_
 first|refine aG (aj ?_)|skip
 refine aG (wpAny_sequenceKey hT ⋯ ?_)
 refine aG (C8 (name:=Str.ofString "__setitem__") hT slot_list_setitem
  (oP slot_list_setitem hT entry_list_setitem ?_ (args_list_setitem _ _ _)))
 show wpAny _ _ (Builtin.List.listSubscript? (.int k t) >>= _) _ _ s;refine aG (wpAny_listSubscript_int (fitsIndex_of (e▸fD j) (e▸xC hj hz)) ?_);subst e;show wpAny _ _ ((seqItemAt a j >>= λr=>pure (r.map (j,·))) >>= _) _ _ s;refine aG (aG (wpAny_seqItemAt ho rfl (aj ?_)));rw[hx];show wpAny _ _ (setSeqItemAt a j v >>= _) _ _ s;refine aG (wpAny_setSeqItemAt ho rfl ?_)
 first
  |exact aG (aj (aj ⟨.none,rfl,aj (hQ _ fin (lB ..))⟩))|exact aj ⟨.none,rfl,aj (hQ _ fin (lB ..))⟩
def hO.lst{k:Nat}{l:List V}(hc:H[i]?=F5 (.lst l))(hk:k<l.length):hO W (.obj i) (.int k) v H (H.set i (.lst (l.set k v))):=λ{y A s y y y cv R} K hu hx hv c=>
 hx.b7 (P:=λcx=>Wp W A (setItem _ cx cv) R s) λy=>ij K.N hc hu (P:=λcu=>Wp W A (setItem cu _ cv) R s) λy y hp x r z=>
  Y3 rfl x (r.length▸z) (r.length▸hk) λy hl' hs=>c (sM (tk:=s.toks) K.N hp x (mz hs) hl' (r.set k hv) (by rw[List.length_set];exact z))
def hO.dict{st:Nat}{kvs:List (Atom×V)}(hc:H[i]?=F5 (.dict kvs st))(z:kvs.length<=aJ):hO W (.obj i) (cN k) v H (H.set i (.dict (bS kvs k v) (st+1))):=λ{y A s y y cx cv R} K hu hx hv c=>
 kR K.N hc hu (P:=λcu=>Wp W A (setItem cu cx cv) R s) λy y hp d r=>
  wpAny_setItem_pairs (key_is hx) d (λy hd' hs=>c (LK K.N hc rfl hp d hs hd' (r.put hv))) (r.length▸fR z)
def hO.aX{st:Nat}{k:List Atom}{kvs:List (List Atom×V)}(hc:H[i]?=F5 (.aX kvs st))(z:kvs.length<=aJ):hO W (.obj i) (.tup (k.map cN)) v H (H.set i (.aX (bS kvs k v) (st+1))):=λ{y A s y y y cv R} K hu hx hv c=>
 uy hx (P:=λcx=>Wp W A (setItem _ cx cv) R s) λa hk ha=>pv K.N hc hu (P:=λcu=>Wp W A (setItem cu _ cv) R s) λy y hp d r=>
  wpAny_setItem_heap (room K.rm) hk d (λy hd' hs=>c (aAl K.N hc rfl hp d hs hd' λE=>(r.kp (E.kp .none) (Cr d)).put (VR.ext E .none v hv) (VR.ext E .none _ ha))) (r.length▸fR z)
mutual
noncomputable def Vd:Nat->V->Prop
 |_,.obj _=>False|n+1,.tup l=>mO n l|n+1,.lst l=>mO n l|0,.tup _=>False|0,.lst _=>False|_,_=>True
noncomputable def mO:Nat->List V->Prop
 |_,[]=>True|n,v::l=>Vd n v/\mO n l
end
variable{xs ys:List G7}{p q:lb}{a b:List Nat}{l t t':List V}{u:V}{i j:Int}
def lH{k:Nat}(h:k<xs.toArray.size):xs[k]?=F5 xs.toArray[k]:=by rw[<-mD];exact Array.getElem?_eq_getElem h
def all_true:∀(n:Nat),(List.range n).all (λy=>F6)=F6:=λn=>d7.mpr λy y=>rfl
def Gp(h:A.units+(n+1)<cLine):A.in1.units+n<cLine:=by show A.units+1+n<cLine;rw[bT,bW 1 n];exact h
def LV(h:A.units+n<cLine):A.units<cLine:=bp (aW _ _) h
def Yx(hp:XT s.heap p xs)(hq:XT s.heap q ys)(hl:xs.length=ys.length)(hu:A.units<cLine)(h:∀(j:Nat) (x y:G7),xs[j]?=F5 x->ys[j]?=F5 y->EqAt A.in1 s x y F6):RcAt A s (.ref p) (.ref q) F6:=by
 have:=RcAt.tuples (e:=λz=>F6) hp.is hq.is hu λj h1 h2=>h j _ _ (lH h1) (lH h2)
 rw[all_true,bQ,bQ,hl,jb] at this;exact this
def KR(hp:XL s.heap p xs)(hq:XL s.heap q ys)(hl:xs.length=ys.length)(hu:A.units<cLine)(h:∀(j:Nat) (x y:G7),xs[j]?=F5 x->ys[j]?=F5 y->EqAt A.in1 s x y F6):RcAt A s (.ref p) (.ref q) F6:=by
 have:=RcAt.lists (e:=λz=>F6) hp.is hq.is (by rw[bQ,bQ,hl]) hu λj h1 h2=>h j _ _ (lH h1) (lH h2)
 rw[all_true] at this;exact this
mutual
theorem Yy:∀(n:Nat) (v:V) {A:Around} {ca cb:G7},Vd n v->A.units+n<cLine->VR μ s.heap v ca->VR μ s.heap v cb->EqAt A s ca cb F6
 |n,.none,A,ca,cb=>λy y ra rb=>ra.sQ (P:=λca=>EqAt A s ca cb F6) <| rb.sQ (P:=λcb=>EqAt A s _ cb F6) <| EqAt.same _|n,.bool b,A,ca,cb=>λy y ra rb=>ra.p0 (P:=λca=>EqAt A s ca cb F6) <| rb.p0 (P:=λcb=>EqAt A s _ cb F6) <| EqAt.same _|n,.int i,A,ca,cb=>λy y ra rb=>ra.b7 (P:=λca=>EqAt A s ca cb F6) λt=>rb.b7 (P:=λcb=>EqAt A s _ cb F6) λu=>(jb i)▸EqAt.int_int i t i u|n,.str x,A,ca,cb=>λy y ra rb=>ra.gR (P:=λca=>EqAt A s ca cb F6) λt=>rb.gR (P:=λcb=>EqAt A s _ cb F6) λu=>(jb (⟨x.toArray⟩:Str))▸EqAt.str_str _ t _ u|n,.obj i,A,ca,cb=>λh y y y=>by cases n<;>exact h.elim|0,.tup l,A,ca,cb=>λh y y y=>h.elim|0,.lst l,A,ca,cb=>λh y y y=>h.elim|n+1,.tup l,A,ca,cb=>λh hu ra rb=>ra.gS (P:=λca=>EqAt A s ca cb F6) λp xs y hp y hx=>rb.gS (P:=λcb=>EqAt A s (.ref p) cb F6) λq ys y hq y hy=>
  (oT (p=q)).elim (λe=>e▸EqAt.same _) λe=>EqAt.of_refs e (Yx hp hq (hx.length.trans hy.length.symm) (LV hu) (ub n l h (Gp hu) hx hy))
 |n+1,.lst l,A,ca,cb=>λh hu ra rb=>ra.sO (P:=λca=>EqAt A s ca cb F6) λp xs y hp y hx=>rb.sO (P:=λcb=>EqAt A s (.ref p) cb F6) λq ys y hq y hy=>
  (oT (p=q)).elim (λe=>e▸EqAt.same _) λe=>EqAt.of_refs e (KR hp hq (hx.length.trans hy.length.symm) (LV hu) (ub n l h (Gp hu) hx hy))
theorem ub:∀(n:Nat) (l:List V) {A:Around} {xs ys:List G7},mO n l->A.units+n<cLine->aM μ s.heap l xs->aM μ s.heap l ys->∀(j:Nat) (x y:G7),xs[j]?=F5 x->ys[j]?=F5 y->EqAt A s x y F6
 |n,[],A,xs,ys=>λz z hx z=>hx.jP (P:=λxs=>∀(j:Nat) (x y:G7),xs[j]?=F5 x->ys[j]?=F5 y->EqAt A s x y F6) λz z z e=>ai e|n,v::l,A,xs,ys=>λh hu hx hy=>hx.eY (P:=λxs=>∀(j:Nat) (x y:G7),xs[j]?=F5 x->ys[j]?=F5 y->EqAt A s x y F6) λa r ha hr=>hy.eY (P:=λys=>∀(j:Nat) (x y:G7),(a::r)[j]?=F5 x->ys[j]?=F5 y->EqAt A s x y F6) λb r' hb hr' j x y=>
  match j with
  |0=>λe e'=>ay e▸ay e'▸Yy n v h.1 hu ha hb|j+1=>ub n l h.2 hu hr hr' j x y
end
def N0(hp:XL s.heap p xs)(hq:XL s.heap q ys)(hl:xs.length=ys.length)(hu:A.units<cLine)(h:∀(j:Nat) (x y:G7),xs[j]?=F5 x->ys[j]?=F5 y->EqAt A.in1 s x y F6):RcNeAt A s (.ref p) (.ref q) L0:=by
 have:=RcNeAt.lists (e:=λz=>F6) hp.is hq.is (by rw[bQ,bQ,hl]) hu λj h1 h2=>h j _ _ (lH h1) (lH h2)
 rw[all_true] at this;exact this
def Rm.IZ(r:Rm A n):A.in1.units+1200<cLine:=by have:=r.u;show A.units+1+1200<cLine;exact bp (by rw[bT];exact eb (aW _ _) ⋯) this
def yD:((⟨a.toArray⟩:Str) == ⟨b.toArray⟩)=decide (a=b):=Ec ⟨str_inj,aF λl:List Nat=>(⟨l.toArray⟩:Str)⟩
def nJ.str:P2 W (.str a) (.bool (decide (a=b))) (.str b) H H (compareOp .Eq):=λ{y A s y y cx R} K hu hx c=>
 hu.gR (P:=λcu=>Wp W A (compareOp .Eq cu cx) R s) λt=>hx.gR (P:=λcx=>Wp W A (compareOp .Eq _ cx) R s) λu=>RcAt.str_str _ t _ u _ _ _ _ (c.here (tk:=s.toks) K.N (yD▸rfl))
def kG.str:P2 W (.str a) (.bool (!decide (a=b))) (.str b) H H (compareOp .NotEq):=λ{y A s y y cx R} K hu hx c=>
 hu.gR (P:=λcu=>Wp W A (compareOp .NotEq cu cx) R s) λt=>hx.gR (P:=λcx=>Wp W A (compareOp .NotEq _ cx) R s) λu=>RcNeAt.str_str _ t _ u _ _ _ _ (c.here (tk:=s.toks) K.N (yD▸rfl))
def nJ.int{a b:Int}:P2 W (.int a) (.bool (decide (a=b))) (.int b) H H (compareOp .Eq):=λ{y A s y y cx R} K hu hx c=>
 hu.b7 (P:=λcu=>Wp W A (compareOp .Eq cu cx) R s) λt=>hx.b7 (P:=λcx=>Wp W A (compareOp .Eq _ cx) R s) λu=>RcAt.int_int a t b u _ _ _ _ (c.here (tk:=s.toks) K.N rfl)
def kG.int{a b:Int}:P2 W (.int a) (.bool (!decide (a=b))) (.int b) H H (compareOp .NotEq):=λ{y A s y y cx R} K hu hx c=>
 hu.b7 (P:=λcu=>Wp W A (compareOp .NotEq cu cx) R s) λt=>hx.b7 (P:=λcx=>Wp W A (compareOp .NotEq _ cx) R s) λu=>RcNeAt.int_int a t b u _ _ _ _ (c.here (tk:=s.toks) K.N rfl)
def kG.bool{a b:Bool}:P2 W (.bool a) (.bool (!(a == b))) (.bool b) H H (compareOp .NotEq):=λ{y A s y y cx R} K hu hx c=>
 hu.p0 (P:=λcu=>Wp W A (compareOp .NotEq cu cx) R s) <| hx.p0 (P:=λcx=>Wp W A (compareOp .NotEq _ cx) R s) <| RcNeAt.bool_bool a b _ _ _ _ (c.here (tk:=s.toks) K.N rfl)
inductive IsL(H:AH)(l:List V):V->Prop
 |val:IsL H l (.lst l)|cell {i:Nat} (hc:H[i]?=F5 (.lst l)):IsL H l (.obj i)
def IsL.at(x:IsL H l v)(N:aY W μ H s.heap)(hv:VR μ s.heap v cv)(k:∀a items,XL s.heap a items->aM μ s.heap l items->l.length<=aJ->P (.ref a)):P cv:=by
 cases x with
 |val=>exact hv.sO λa items y x z r=>k a items x r z|cell hc=>exact ij N hc hv λa items y x r z=>k a items x r z
def nJ.lst(hu:IsL H l u)(hv:IsL H l v)(hd:mO 1200 l):P2 W u (.bool F6) v H H (compareOp .Eq):=λ{y A s y y cx R} K ru rv c=>
 hu.at K.N ru (P:=λcu=>Wp W A (compareOp .Eq cu cx) R s) λy y x r y=>hv.at K.N rv (P:=λcx=>Wp W A (compareOp .Eq _ cx) R s) λy y x' r' y=>
  KR x x' (r.length.trans r'.length.symm) K.rm.lt (ub 1200 l hd K.rm.IZ r r') _ _ _ _ (c.here (tk:=s.toks) K.N rfl)
def kG.lst(hu:IsL H l u)(hv:IsL H l v)(hd:mO 1200 l):P2 W u (.bool L0) v H H (compareOp .NotEq):=λ{y A s y y cx R} K ru rv c=>
 hu.at K.N ru (P:=λcu=>Wp W A (compareOp .NotEq cu cx) R s) λy y x r y=>hv.at K.N rv (P:=λcx=>Wp W A (compareOp .NotEq _ cx) R s) λy y x' r' y=>
  N0 x x' (r.length.trans r'.length.symm) K.rm.lt (ub 1200 l hd K.rm.IZ r r') _ _ _ _ (c.here (tk:=s.toks) K.N rfl)
def nZ(a b:List Nat)(i j:Int):Nat->Bool
 |0=>decide (a=b)|_=>decide (i=j)
def Fv(hx:aM μ s.heap (.str a::.int i::t) xs)(hy:aM μ s.heap (.str b::.int j::t') ys)(ht:t=[]\/t'=[]):∀(k:Nat) (x y:G7),xs[k]?=F5 x->ys[k]?=F5 y->EqAt A s x y (nZ a b i j k):=
 hx.eY (P:=λxs=>∀(k:Nat) (x y:G7),xs[k]?=F5 x->ys[k]?=F5 y->EqAt A s x y (nZ a b i j k)) λz z h1 hx=>hx.eY (P:=λxs=>∀(k:Nat) (x y:G7),(_::xs)[k]?=F5 x->ys[k]?=F5 y->EqAt A s x y (nZ a b i j k)) λz r h2 hx=>
 hy.eY (P:=λys=>∀(k:Nat) (x y:G7),(_::_::r)[k]?=F5 x->ys[k]?=F5 y->EqAt A s x y (nZ a b i j k)) λz z g1 hy=>hy.eY (P:=λys=>∀(k:Nat) (x y:G7),(_::_::r)[k]?=F5 x->(_::ys)[k]?=F5 y->EqAt A s x y (nZ a b i j k)) λz r' g2 hy k x y e e'=>
 match k,e,e' with
 |0,e,e'=>ay e▸ay e'▸h1.gR (P:=λc=>EqAt A s c _ _) λt=>g1.gR (P:=λc=>EqAt A s _ c _) λu=>(yD▸EqAt.str_str _ t _ u:EqAt A s _ _ (decide (a=b)))|1,e,e'=>ay e▸ay e'▸h2.b7 (P:=λc=>EqAt A s c _ _) λt=>g2.b7 (P:=λc=>EqAt A s _ c _) λu=>EqAt.int_int i t j u|k+2,e,e'=>ht.elim (λq=>(q▸hx:aM μ s.heap [] r).jP (P:=λr=>r[k]?=F5 x->EqAt A s x y _) (λe=>ai e) e) λq=>(q▸hy:aM μ s.heap [] r').jP (P:=λr=>r[k]?=F5 y->EqAt A s x y _) (λe=>ai e) e'
def min_two{m:Nat}(h:n=0\/m=0):min (n+1+1) (m+1+1)=2:=by
 rcases h with rfl|rfl
 .exact tD (cI _ _)
 .exact yz (cI _ _)
def iA(a b:List Nat)(i j:Int)(t t':List V):Bool:=(decide (a=b)&&(decide (i=j)&&F6))&&(t.length+1+1 == t'.length+1+1)
def Fw(hx:aM μ s.heap (.str a::.int i::t) xs)(hy:aM μ s.heap (.str b::.int j::t') ys)(ht:t=[]\/t'=[]):((List.range (min xs.toArray.size ys.toArray.size)).all (nZ a b i j)&&xs.toArray.size == ys.toArray.size)=iA a b i j t t':=by
 rw[bQ,bQ,hx.length,hy.length,dY,dY,dY,dY,min_two (ht.imp (λq=>by rw[q];rfl) λq=>by rw[q];rfl)]
 rfl
def nJ.flat(ht:t=[]\/t'=[]):P2 W (.tup (.str a::.int i::t)) (.bool (iA a b i j t t')) (.tup (.str b::.int j::t')) H H (compareOp .Eq):=λ{y A s y y cx R} K hu hx c=>
 hu.gS (P:=λcu=>Wp W A (compareOp .Eq cu cx) R s) λy y y x y r=>hx.gS (P:=λcx=>Wp W A (compareOp .Eq _ cx) R s) λy y y x' y r'=>
  RcAt.tuples (e:=nZ a b i j) x.is x'.is K.rm.lt (λk h1 h2=>Fv r r' ht k _ _ (lH h1) (lH h2)) _ _ _ _ (Fw r r' ht▸c.here (tk:=s.toks) K.N rfl)
def kG.flat(ht:t=[]\/t'=[]):P2 W (.tup (.str a::.int i::t)) (.bool (!iA a b i j t t')) (.tup (.str b::.int j::t')) H H (compareOp .NotEq):=λ{y A s y y cx R} K hu hx c=>
 hu.gS (P:=λcu=>Wp W A (compareOp .NotEq cu cx) R s) λy y y x y r=>hx.gS (P:=λcx=>Wp W A (compareOp .NotEq _ cx) R s) λy y y x' y r'=>
  RcNeAt.tuples (e:=nZ a b i j) x.is x'.is K.rm.lt (λk h1 h2=>Fv r r' ht k _ _ (lH h1) (lH h2)) _ _ _ _ (Fw r r' ht▸c.here (tk:=s.toks) K.N rfl)
variable{t:Tok}{i:Nat}{kvs:List (Atom×V)}{q l:List Int}{a b:Int}{cu:G7}{r:List V}
def int_is{k:Int}:(intKind prog w).is k (.int k t)=F6:=jb k
def tH.dict{st:Nat}(hc:H[i]?=F5 (.dict kvs st)):P2 W (cN k) (.bool (aR kvs k).isSome) (.obj i) H H (compareOp .In):=λ{y A s y cu y R} K hu hx c=>
 kR K.N hc hx (P:=λcx=>Wp W A (compareOp .In cu cx) R s) λy y hp d r=>wpAny_in_of (key_is hu) (mY K.wk K.N hp) d.mapOf (c.here K.N ((r.get k).is▸rfl))
def oo.dict{st:Nat}(hc:H[i]?=F5 (.dict kvs st)):P2 W (cN k) (.bool (!(aR kvs k).isSome)) (.obj i) H H (compareOp .NotIn):=λ{y A s y cu y R} K hu hx c=>
 kR K.N hc hx (P:=λcx=>Wp W A (compareOp .NotIn cu cx) R s) λy y hp d r=>wpAny_notIn_of (key_is hu) (mY K.wk K.N hp) d.mapOf (c.here K.N ((r.get k).is▸rfl))
def map_some{f:α->β}{o:Option α}:(o.map f).isSome=o.isSome:=by cases o<;>rfl
def tH.aX{st:Nat}{kvs:List (List Atom×V)}{k:List Atom}(hc:H[i]?=F5 (.aX kvs st)):P2 W (.tup (k.map cN)) (.bool (aR kvs k).isSome) (.obj i) H H (compareOp .In):=λ{y A s y y cx R} K hu hx c=>
 uy hu (P:=λcu=>Wp W A (compareOp .In cu cx) R s) λy hk y=>pv K.N hc hx (P:=λcx=>Wp W A (compareOp .In _ cx) R s) λy y hp d r=>wpAny_in_heap (room K.rm) hk (mY K.wk K.N hp) d (c.here K.N (((r.get k).is.symm.trans map_some)▸rfl))
def oo.aX{st:Nat}{kvs:List (List Atom×V)}{k:List Atom}(hc:H[i]?=F5 (.aX kvs st)):P2 W (.tup (k.map cN)) (.bool (!(aR kvs k).isSome)) (.obj i) H H (compareOp .NotIn):=λ{y A s y y cx R} K hu hx c=>
 uy hu (P:=λcu=>Wp W A (compareOp .NotIn cu cx) R s) λy hk y=>pv K.N hc hx (P:=λcx=>Wp W A (compareOp .NotIn _ cx) R s) λy y hp d r=>PyProof.Rows.wpAny_notIn_heap (room K.rm) hk (mY K.wk K.N hp) d (c.here K.N (((r.get k).is.symm.trans map_some)▸rfl))
def tH.set{k:Int}(hc:H[i]?=F5 (.set q)):P2 W (.int k) (.bool (q.contains k)) (.obj i) H H (compareOp .In):=λ{y A s y y cx R} K hu hx c=>
 hu.b7 (P:=λcu=>Wp W A (compareOp .In cu cx) R s) λy=>sC K.N hc hx (P:=λcx=>Wp W A (compareOp .In _ cx) R s) λy hp d y=>wpAny_inSet_of int_is rfl d (c.here K.N rfl)
def oo.set{k:Int}(hc:H[i]?=F5 (.set q)):P2 W (.int k) (.bool (!q.contains k)) (.obj i) H H (compareOp .NotIn):=λ{y A s y y cx R} K hu hx c=>
 hu.b7 (P:=λcu=>Wp W A (compareOp .NotIn cu cx) R s) λy=>sC K.N hc hx (P:=λcx=>Wp W A (compareOp .NotIn _ cx) R s) λy hp d y=>wpAny_notInSet_of int_is rfl d (c.here K.N rfl)
def t9(k:Int):G7->Bool
 | .int j _=>j == k|_=>L0
theorem wc:∀{l:List Int} {vs:List G7},aM μ s.heap (l.map V.int) vs->(∀y∈vs,∃j t,y=Value.int j t)/\∀k,vs.any (t9 k)=l.any (· == k)
 | []=>λhl=>hl.jP (P:=λvs=>(∀y∈vs,∃j t,y=Value.int j t)/\∀k,vs.any (t9 k)=[].any (· == k)) ⟨(λz q=>memN q),λz=>rfl⟩|j::l=>λhl=>hl.eY (P:=λvs=>(∀y∈vs,∃j t,y=Value.int j t)/\∀k,vs.any (t9 k)=(j::l).any (· == k)) λz r hv hr=>hv.b7 (P:=λv=>(∀y∈v::r,∃j t,y=Value.int j t)/\∀k,(v::r).any (t9 k)=(j::l).any (· == k)) λt=>
  ⟨λy q=>(bD.mp q).elim (λe=>⟨j,t,e⟩) ((wc hr).1 y),λk=>aF ((j == k)||·) ((wc hr).2 k)⟩
def RY(hl:aM μ s.heap (l.map V.int) vs)(k:Int)(t:Tok):∀y∈vs.toArray,EqAt A s y (.int k t) (t9 k y):=λy hy=>
 let ⟨j,u,e⟩:=(wc hl).1 y (Array.mem_toArray.mp hy);e▸EqAt.int_int j u k t
def oo.ints{k:Int}(hl:IsL H (l.map V.int) u):P2 W (.int k) (.bool (!l.any (· == k))) u H H (compareOp .NotIn):=λ{y A s y y cx R} K hu hx c=>
 hu.b7 (P:=λcu=>Wp W A (compareOp .NotIn cu cx) R s) λt=>hl.at K.N hx (P:=λcx=>Wp W A (compareOp .NotIn _ cx) R s) λy y x r y=>notIn_listAt _ x.is (RY r k t) (by rw[List.any_toArray,(wc r).2 k];exact c.here (tk:=s.toks) K.N rfl)
def ly{cx:G7}{P:G7->G7->Prop}(hu:VR μ s.heap (.int a) cu)(hx:VR μ s.heap (.int b) cx)(k:∀t u,P (.int a t) (.int b u)):P cu cx:=hu.b7 (P:=λcu=>P cu cx) λt=>hx.b7 (k t)
def Lz.int:P2 W (.int a) (.bool (decide (a<b))) (.int b) H H (compareOp .Lt):=λ{z A s z z z R} K hu hx c=>ly hu hx (P:=λx y=>Wp W A (compareOp .Lt x y) R s) λz z=>lt_int (c.here (tk:=s.toks) K.N rfl)
def Ly.int:P2 W (.int a) (.bool (decide (a<=b))) (.int b) H H (compareOp .LtE):=λ{z A s z z z R} K hu hx c=>ly hu hx (P:=λx y=>Wp W A (compareOp .LtE x y) R s) λz z=>le_int (c.here (tk:=s.toks) K.N rfl)
def Lx.int:P2 W (.int a) (.bool (decide (b<a))) (.int b) H H (compareOp .Gt):=λ{z A s z z z R} K hu hx c=>ly hu hx (P:=λx y=>Wp W A (compareOp .Gt x y) R s) λz z=>gt_int (c.here (tk:=s.toks) K.N rfl)
def Lw.int:P2 W (.int a) (.bool (decide (b<=a))) (.int b) H H (compareOp .GtE):=λ{z A s z z z R} K hu hx c=>ly hu hx (P:=λx y=>Wp W A (compareOp .GtE x y) R s) λz z=>ge_int (c.here (tk:=s.toks) K.N rfl)
def mJ.int:P2 W (.int a) (.int (a+b)) (.int b) H H (binaryOp .Add):=λ{z A s z z z R} K hu hx c=>ly hu hx (P:=λx y=>Wp W A (binaryOp .Add x y) R s) λz z=>add_int (c.here K.N .f7)
def L5.int:P2 W (.int a) (.int (a-b)) (.int b) H H (binaryOp .Sub):=λ{z A s z z z R} K hu hx c=>ly hu hx (P:=λx y=>Wp W A (binaryOp .Sub x y) R s) λz z=>sub_int' (c.here K.N .f7)
def zE.int(ha:Builtin.Int.intBits a<=4096)(hb:Builtin.Int.intBits b<=4096):P2 W (.int a) (.int (a*b)) (.int b) H H (binaryOp .Mult):=λ{z A s z z z R} K hu hx c=>ly hu hx (P:=λx y=>Wp W A (binaryOp .Mult x y) R s) λz z=>
 mul_int (c.here K.N .f7) (IntMulOk.of_bits (aA ha ⋯) (aA hb ⋯))
def Lv.int(h0:0<b)(h1:b<1073741824):P2 W (.int a) (.int (Int.fdiv a b)) (.int b) H H (binaryOp .FloorDiv):=λ{z A s z z z R} K hu hx c=>ly hu hx (P:=λx y=>Wp W A (binaryOp .FloorDiv x y) R s) λz z=>
 floordiv_int (Int.ne_of_gt h0) (c.here K.N .f7) (.inl (PyProof.noPylong_small (Int.natAbs_lt_natAbs_of_nonneg_of_lt (Int.le_of_lt h0) h1)))
def tI.int(h0:0<b):P2 W (.int a) (.int (Int.fmod a b)) (.int b) H H (binaryOp .Mod):=λ{z A s z z z R} K hu hx c=>ly hu hx (P:=λx y=>Wp W A (binaryOp .Mod x y) R s) λz z=>
 mod_int' (Int.ne_of_gt h0) (c.here K.N .f7)
def zF.int(h0:0<=b)(h1:b<=60):P2 W (.int 10) (.int (10 ^ b.toNat)) (.int b) H H (binaryOp .Pow):=λ{z A s z z z R} K hu hx c=>ly hu hx (P:=λx y=>Wp W A (binaryOp .Pow x y) R s) λz z=>
 pow_int h0 (j8 (Int.mul_le_mul (mC.mpr (PyProof.Rows.intBits_le (a:=10) (k:=4) ⋯)) h1 h0 ⋯) ⋯) (c.here K.N .f7)
def mJ.str{a b:List Nat}(h:a.length+b.length<=aJ):P2 W (.str a) (.str (a++b)) (.str b) H H (binaryOp .Add):=λ{y A s y y cx R} K hu hx c=>
 hu.gR (P:=λcu=>Wp W A (binaryOp .Add cu cx) R s) λy=>hx.gR (P:=λcx=>Wp W A (binaryOp .Add _ cx) R s) λy=>
  add_str (λy y=>c.here K.N ⟨aF (λx:Str=>Value.str x _) (show(⟨a.toArray++b.toArray⟩:Str)=_ by rw[DU])⟩) (show a.toArray.size+b.toArray.size<=_ by rw[bQ,bQ];exact fR h)
def iC(h:Heap):h.get? h.objs.size=L3:=by
 cases e:h.get? h.objs.size with
 |none=>rfl|some o=>exact absurd (hJ e) (ed _)
def rF(k:∀b o,h.get? b=F5 o->h'.get? b=F5 o):h.get? h'.objs.size=L3:=by
 cases e:h.get? h'.objs.size with
 |none=>rfl|some o=>exact absurd (hJ (k _ _ e)) (ed _)
def cH(h:Heap)(x:Obj):∀b o,h.get? b=F5 o->(h.push x).get? b=F5 o:=λb o e=>oV _ e
def XL.new:XL (h.push {cls:=.type "list",data:=.seq vs.toArray}) h.objs.size vs:=⟨dv _ rfl⟩
def XT.new:XT (h.push {cls:=.type "tuple",data:=.seq vs.toArray}) h.objs.size vs:=⟨dv _ rfl⟩
def MI{l b:lb}{ws:List G7}(hl:XL s.heap l vs)(hb:XL s.heap b ws)(hsz:vs.length+ws.length<=aJ)
  (h:R (.ref s.heap.objs.size) {s with heap:=s.heap.push {cls:=.type "list",data:=.seq (vs++ws).toArray}}):Wp W A (binaryOp .Add (.ref l) (.ref b)) R s:=by
 obtain⟨ho⟩:=hl;obtain⟨ho2⟩:=hb;rw[<-DU] at h;exact concat_meets ⟨_,ho,rfl⟩ ⟨_,ho2,rfl⟩ noFill_list_add seq_list_add PySem.F.slot_list_add PySem.F.entry_list_add (PySem.F.args_list_add_2 _ _) (list_addW l b vs.toArray ws.toArray _ _ L3 L3 #[] #[] (by rw[bQ,bQ];exact fR hsz)) ⟨ho,ho2,h⟩
def mJ.lst{l:List V}{x:V}(hl:IsL H l u)(hr:IsL H r x)(z:(l++r).length<=aJ)(q:LR (l++r) H v H'):P2 W u v x H H' (binaryOp .Add):=λ{y A s y y cx R} K hu hx c=>
 hl.at K.N hu (P:=λcu=>Wp W A (binaryOp .Add cu cx) R s) λy y x r y=>hr.at K.N hx (P:=λcx=>Wp W A (binaryOp .Add _ cx) R s) λy y x' r' y=>
  MI x x' (by rw[r.length,r'.length,<-a8];exact z) (mZ (tk:=s.toks) q K.N (r.append r') z (cH _ _) (iC _) .new c)
def F1.fv:F1->G7
 | .len=>.builtin "len"| .sorted=>.builtin "sorted"| .list=>.type "list"| .tuple=>.type "tuple"| .str=>.type "str"
variable{l:List V}
def qX.tup:P1 W (.tup l) (.int l.length) H H (λa=>call (.builtin "len") [a]):=λ{y A s y y R} K hu c=>
 hu.gS (P:=λcu=>Wp W A (call (.builtin "len") [cu]) R s) λy xs y x z r=>by
  have e:((xs.toArray.size:Nat):Int)=(l.length:Int):=by rw[bQ,r.length]
  exact len_tuple x.is (e▸m6 z) (e▸c.here K.N .f7)
def qX.lst(hl:IsL H l u):P1 W u (.int l.length) H H (λa=>call (.builtin "len") [a]):=λ{y A s y y R} K hu c=>
 hl.at K.N hu (P:=λcu=>Wp W A (call (.builtin "len") [cu]) R s) λy xs x r z=>by
  have e:((xs.toArray.size:Nat):Int)=(l.length:Int):=by rw[bQ,r.length]
  exact call_len_list x.is (e▸m6 z) (e▸c.here K.N .f7)
def qX.dict{st:Nat}(hc:H[i]?=F5 (.dict kvs st))(z:kvs.length<=aJ):P1 W (.obj i) (.int kvs.length) H H (λa=>call (.builtin "len") [a]):=λ{y A s y y R} K hu c=>
 kR K.N hc hu (P:=λcu=>Wp W A (call (.builtin "len") [cu]) R s) λy y hp d r=>call_len_dict (mY K.wk K.N hp) d (r.length▸m6 z) (r.length▸c.here K.N .f7)
def mL.tup(q:LR l H v H'):P1 W (.tup l) v H H' (λa=>call (.type "list") [a]):=λ{y A s y y R} K hu c=>
 hu.gS (P:=λcu=>Wp W A (call (.type "list") [cu]) R s) λa xs y x z r=>let ⟨ho⟩:=x
  call_list_seq a (.inr rfl) ho rfl rfl (λy y hk hn=>mZ (tk:=s.toks) q K.N r z hk (iC _) ⟨hn⟩ c) (by rw[bQ,r.length];exact fR z)
def mL.lst(hl:IsL H l u)(q:LR l H v H'):P1 W u v H H' (λa=>call (.type "list") [a]):=λ{y A s y y R} K hu c=>
 hl.at K.N hu (P:=λcu=>Wp W A (call (.type "list") [cu]) R s) λa xs x r z=>let ⟨ho⟩:=x
  call_list_seq a (.inl rfl) ho rfl rfl (λy y hk hn=>mZ (tk:=s.toks) q K.N r z hk (iC _) ⟨hn⟩ c) (by rw[bQ,r.length];exact fR z)
def L8.lst(hl:IsL H l u):P1 W u (.tup l) H H (λa=>call (.type "tuple") [a]):=λ{y A s y y R} K hu c=>
 hl.at K.N hu (P:=λcu=>Wp W A (call (.type "tuple") [cu]) R s) λa xs x r z=>
  call_tuple_list x.is (λy hk=>Bp (tk:=s.toks) K.N r z (λb o e=>oV _ (hk b o e)) (rF hk) .new c) (by rw[bQ,r.length];exact fR z)
def P0(W:Wd)(H:AH)(v:V)(H':AH)(m:Sem G7):Prop:=∀{n:Nat} {A:Around} {s:R5} {μ:Mu} {R:G7->R5->Prop},Ok W n A μ H s->Kc W μ s H' v R->Wp W A m R s
def L6.new:P0 W H (.obj H.length) (H++[.set []]) (call (.type "set") []):=λ{y A s y R} K c=>
 call_set_0 λled=>xF (tk:=s.toks) (c:=.set []) K.N (cH _ _) (iC _) ⟨rfl,⟨_,_,_,_,dv _ rfl,⟨rfl,rfl,rfl⟩,rfl,(λy q=>memN q),(λk=>⟨(λq=>(az q).elim),(λζ=>ζ.elim λy ζ'=>ζ'.elim λq y=>memN q)⟩),by decide,by cases led<;>rfl,rfl⟩,dU⟩ (λy e=>ai e) c
inductive DR(H:AH):V->AH->Prop
 |dict:DR H (.obj H.length) (H++[.dict [] 0])|aX:DR H (.obj H.length) (H++[.aX [] 0])
def Vq(q:DR H v H')(N:aY W μ H s.heap)(c:Kc W μ s H' v R):R (.ref s.heap.objs.size) {s with heap:=s.heap.push {cls:=.type "dict",data:=.dict #[]}}:=by
 cases q with
 |dict=>exact xF (tk:=s.toks) (c:=.dict [] 0) N (cH _ _) (iC _) ⟨rfl,Heap.DictOf.new _,.nil⟩ (λy e=>ay e) c|aX=>exact xF (tk:=s.toks) (c:=.aX [] 0) N (cH _ _) (iC _) ⟨rfl,Heap.DictOfH.new _,.nil⟩ (λy e=>ay e) c
inductive zK(vs:List V)(H:AH):V->AH->Prop
 |mk (z:vs.length<=aJ):zK vs H (.tup vs) H
def we:V->Bool
 | .none=>L0|_=>F6
inductive zB(u:V)(H:AH):V->AH->Prop
 |mk:zB u H (.bool (we u)) H
inductive zA(u:V)(H:AH):V->AH->Prop
 |mk {l:List V} (x:IsL H l u):zA u H (.bool (!l.isEmpty)) H
inductive ym(l:List (List Nat))(H:AH):V->V->AH->Prop
 |mk {x:List Nat}:ym l H (.str x) (.bool (l.contains x)) H
inductive BM(s:R5)(ov:G7)(name:Str)(id:String):Prop
 |mk {T:String} (pa:PlainAttrs T) (slot:Slot T name id) (ty:typeOf (.builtin id)=pure (.type "method_descriptor")) (hT:s.TypeIs ov T) (hd:∀a,ov=.ref a->∃ob,s.heap.get? a=F5 ob/\ob.dict=L3)
def Mt.nm:Mt->Str
 | .append=>"append"| .pop=>"pop"| .insert=>"insert"| .add=>"add"| .discard=>"discard"| .ew=>"get"| .gM=>"pop"
def Mt.id:Mt->String
 | .append=>"list.append"| .pop=>"list.pop"| .insert=>"list.insert"| .add=>"set.add"| .discard=>"set.discard"| .ew=>"dict.get"| .gM=>"dict.pop"
def Recv(W:Wd)(m:Mt)(u:V)(H:AH):Prop:=∀{μ:Mu} {s:R5} {cu:G7},aY W μ H s.heap->VR μ s.heap u cu->BM s cu m.nm m.id
def b9(W:Wd)(m:Mt)(us:List V)(H:AH)(v:V)(H':AH):Prop:=∀{n:Nat} {A:Around} {s:R5} {μ:Mu} {cus:List G7} {R:G7->R5->Prop},Ok W n A μ H s->aM μ s.heap us cus->Kc W μ s H' v R->Wp W A (call (.builtin m.id) cus) R s
variable{a:lb}{name:Str}{j:Nat}
def BM.of{id:String}(x:mI s.heap a T)(pa:PlainAttrs T)(slot:Slot T name id)(ty:typeOf (.builtin id)=pure (.type "method_descriptor")):BM s (.ref a) name id:=by
 cases x with|mk ho c d=>exact⟨pa,slot,ty,⟨_,ho,c⟩,λb e=>⟨_,Value.ref.inj e▸ho,d⟩⟩
def XL.obj(x:XL s.heap a items):mI s.heap a "list":=x.casesOn λe=>⟨e,rfl,rfl⟩
def Recv.append(hc:H[i]?=F5 (.lst l)):Recv W .append (.obj i) H:=λ{y s y} N hu=>ij N hc hu (P:=λc=>BM s c _ _) λy y y x y y=>.of x.obj yc F.slot_list_append F.type_list_append
def Recv.pop(hc:H[i]?=F5 (.lst l)):Recv W .pop (.obj i) H:=λ{y s y} N hu=>ij N hc hu (P:=λc=>BM s c _ _) λy y y x y y=>.of x.obj yc F.slot_list_pop F.type_list_pop
def Recv.insert(hc:H[i]?=F5 (.lst l)):Recv W .insert (.obj i) H:=λ{y s y} N hu=>ij N hc hu (P:=λc=>BM s c _ _) λy y y x y y=>.of x.obj yc F.slot_list_insert F.type_list_insert
def Recv.add(hc:H[i]?=F5 (.set q)):Recv W .add (.obj i) H:=λ{y s y} N hu=>sC N hc hu (P:=λc=>BM s c _ _) λy y d y=>.of (ug d) F.plainAttrs_set F.slot_set_add F.type_set_add
def Recv.discard(hc:H[i]?=F5 (.set q)):Recv W .discard (.obj i) H:=λ{y s y} N hu=>sC N hc hu (P:=λc=>BM s c _ _) λy y d y=>.of (ug d) F.plainAttrs_set F.slot_set_discard F.type_set_discard
def Recv.get{st:Nat}(hc:H[i]?=F5 (.dict kvs st)):Recv W .ew (.obj i) H:=λ{y s y} N hu=>kR N hc hu (P:=λc=>BM s c _ _) λy y y d y=>.of (td d) DH yd F.type_dict_get
def Recv.Cv{kvs:List (List Atom×V)}{st:Nat}(hc:H[i]?=F5 (.aX kvs st)):Recv W .ew (.obj i) H:=λ{y s y} N hu=>pv N hc hu (P:=λc=>BM s c _ _) λy y y d y=>.of (ux d) DH yd F.type_dict_get
def Recv.gM{st:Nat}(hc:H[i]?=F5 (.dict kvs st)):Recv W .gM (.obj i) H:=λ{y s y} N hu=>kR N hc hu (P:=λc=>BM s c _ _) λy y y d y=>.of (td d) DH F.slot_dict_pop F.type_dict_pop
def b9.append(hc:H[i]?=F5 (.lst l))(z:(l++[v]).length<=aJ):b9 W .append [.obj i,v] H .none (H.set i (.lst (l++[v]))):=λ{y A s y y R} K hus c=>
 hus.sN (P:=λcus=>Wp W A (call (.builtin "list.append") cus) R s) λy cv hu hv=>ij K.N hc hu (P:=λcu=>Wp W A (call (.builtin "list.append") [cu,cv]) R s) λy items hp x r y=>let ⟨ho⟩:=x
  append_at ho (λh' hs ho'=>c (sM (tk:=s.toks) K.N hp x (mz hs) ⟨Dk items cv▸ho'⟩ (r.append (.one hv)) z) .of_none) (by rw[bQ,r.length];exact fR (aA (aW _ _) (a8▸z)))
def ON(items:List G7):items.toArray.eraseIdxIfInBounds (items.toArray.size-1)=items.dropLast.toArray:=by
 apply Array.ext'
 rw[bQ,Array.eraseIdxIfInBounds];split
 .rw[List.eraseIdx_toArray,tA,List.eraseIdx_length_sub_one]
 .rename_i q;rw[bQ] at q
  have:items=[]:=nE.mp (Nat.eq_zero_of_not_pos λh=>q (Nat.sub_lt h Nat.one_pos))
  rw[this];rfl
def b9.pop(hc:H[i]?=F5 (.lst l))(hv:l.getLast?=F5 v):b9 W .pop [.obj i] H v (H.set i (.lst l.dropLast)):=λ{y A s y y R} K hus c=>
 hus.LU (P:=λcus=>Wp W A (call (.builtin "list.pop") cus) R s) λy hu=>ij K.N hc hu (P:=λcu=>Wp W A (call (.builtin "list.pop") [cu]) R s) λa items hp x r z=>x.casesOn λho=>by
  rw[vR] at hv;obtain⟨⟨hcy,hvy⟩⟩:=r.get hv;have T:=sM (tk:=s.toks) K.N hp x (mz (lB ..)) (u5 (f:=λxs=>xs.eraseIdxIfInBounds (items.toArray.size-1)) ho (ON items)) (by rw[List.dropLast_eq_take,List.dropLast_eq_take,r.length];exact r.take _) (aA (List.length_dropLast▸oj _ _) z)
  exact call_meets F.slot_list_pop (k5 x) F.entry_list_pop (F.args_list_pop_1 _) (PySem.MeetsSeq.list_pop_last a items.toArray _ _ (by rw[bQ,mD,r.length];exact hcy) (by rw[bQ,r.length];exact fR z)) ⟨ho,c T (T.up hvy)⟩
def RJ(items:List G7)(cb:G7)(hj:j<=items.length):(let k':=if ((j:Int)<0) then((j:Int)+(items.toArray.size:Int)).toNat else min (j:Int).toNat items.toArray.size;(items.toArray.extract 0 k').push cb++items.toArray.extract k')=(items.take j++cb::items.drop j).toArray:=by
 have h0:¬((j:Int)<0):=mB.mpr (fD j);simp only[h0,if_false,sq,bQ,tD hj];apply Array.ext'
 simp
 exact s9 (by simp)
def RK(hj:j<=n)(z:n<=aJ):¬(!Builtin.List.listFitsIndex (j:Int))=F6:=by
 rw[fitsIndex_of (fD j) (yj (mC.mpr hj) (m6 z))];decide
def RT{k:Int}(e:k=j)(x:XL s.heap a items)(hj:j<=items.length)(z:items.length<=aJ)
  (q:∀h',Heap.SameBut a s.heap h'->XL h' a (items.take j++cv::items.drop j)->R .none {s with heap:=h'}):wpAny (model W.prog W.w) A (call (.builtin "list.insert") [.ref a,.int k t,cv]) R F0 s:=by
 obtain⟨ho⟩:=x;have hfit:¬(!Builtin.List.listFitsIndex k)=F6:=e▸RK hj z;refine call_meets F.slot_list_insert (k5 ⟨ho⟩) F.entry_list_insert (F.args_list_insert_3 _ _ _) (AutoSeq1.list_insert_list_int_val_1 a items.toArray _ k t cv hfit (by rw[bQ];exact fR z)) ⟨ho,?_⟩
 subst e;exact q _ (lB ..) (u5 (f:=λxs=>let k':=if ((j:Int)<0) then((j:Int)+(xs.size:Int)).toNat else min (j:Int).toNat xs.size;(xs.extract 0 k').push cv++xs.extract k') ho (RJ items cv hj))
def b9.insert(hc:H[i]?=F5 (.lst l))(hj:j<=l.length)(z:l.length+1<=aJ):b9 W .insert [.obj i,.int j,v] H .none (H.set i (.lst (l.take j++v::l.drop j))):=λ{y A s y y R} K hus c=>
 hus.Cz (P:=λcus=>Wp W A (call (.builtin "list.insert") cus) R s) λy cj cv hu hk hv=>hk.b7 (P:=λck=>Wp W A (call (.builtin "list.insert") [_,ck,cv]) R s) λt=>ij K.N hc hu (P:=λcu=>Wp W A (call (.builtin "list.insert") [cu,_,cv]) R s) λa items hp x r z'=>
  RT rfl x (r.length▸hj) (r.length▸z') λh' hs x'=>c (sM (tk:=s.toks) K.N hp x (mz hs) x' ((r.take j).append (.cons hv (r.drop j))) (by rw[a8,dY,<-bT,<-a8,List.take_append_drop];exact z)) .of_none
def b9.get{st:Nat}(hc:H[i]?=F5 (.dict kvs st)):b9 W .ew [.obj i,cN k,d] H ((aR kvs k).getD d) H:=λ{y A s y y R} K hus c=>
 hus.Cz (P:=λcus=>Wp W A (call (.builtin "dict.get") cus) R s) λy ck cd hu hk hd=>kR K.N hc hu (P:=λcu=>Wp W A (call (.builtin "dict.get") [cu,ck,cd]) R s) λa cs hp D r=>
  call_meetsIn yd D.typeIs F.entry_dict_get (F.args_dict_get_3 _ _ _) (meets_dict_get_default (cM W.prog W.w) a (key_is hk) (mY K.wk K.N hp) cd) ⟨_,D.mapOf,c.here K.N ((r.get k).or hd)⟩
def b9.Cv{kvs:List (List Atom×V)}{st:Nat}{k:List Atom}(hc:H[i]?=F5 (.aX kvs st)):b9 W .ew [.obj i,.tup (k.map cN),d] H ((aR kvs k).getD d) H:=λ{y A s y y R} K hus c=>
 hus.Cz (P:=λcus=>Wp W A (call (.builtin "dict.get") cus) R s) λy ck cd hu hk hd=>uy hk (P:=λck=>Wp W A (call (.builtin "dict.get") [_,ck,cd]) R s) λka hki y=>pv K.N hc hu (P:=λcu=>Wp W A (call (.builtin "dict.get") [cu,_,cd]) R s) λa cs hp D r=>
  call_meetsIn yd (K8 D) F.entry_dict_get (F.args_dict_get_3 _ _ _) (meetsH_dict_get_default (tupleKind (cM W.prog W.w)) a ka (mY K.wk K.N hp) cd) ⟨room K.rm,k,cs,hki,D,c.here K.N (by
   have q:=(r.get k).or hd
   revert q
   cases atKey cs k<;>exact λq=>q)⟩
def Tw{a:Atom}(hv:VR μ h (cN a) ck):(keyPart ck).isSome=F6:=by
 cases a
 .exact hv.b7 (P:=λck=>(keyPart ck).isSome=F6) λy=>rfl
 .exact hv.gR (P:=λck=>(keyPart ck).isSome=F6) λy=>rfl
def b9.gM{st:Nat}(hc:H[i]?=F5 (.dict kvs st))(hv:aR kvs k=F5 v)(z:kvs.length<=aJ):b9 W .gM [.obj i,cN k] H v (H.set i (.dict (pI kvs k) (st+1))):=λ{y A s y y R} K hus c=>
 hus.sN (P:=λcus=>Wp W A (call (.builtin "dict.pop") cus) R s) λy ck hu hk=>kR K.N hc hu (P:=λcu=>Wp W A (call (.builtin "dict.pop") [cu,ck]) R s) λa cs hp D r=>let ⟨⟨h1,h2⟩⟩:=r.find hv
  call_meetsIn F.slot_dict_pop D.typeIs F.entry_dict_pop (F.args_dict_pop_2 _ _) (meets_dict_pop_there (cM W.prog W.w) a (key_is hk) [] (.inl rfl) (Tw hk)) ⟨cs,_,D,r.length▸fR z,h1,λh' hd' hs=>have T:=LK K.N hc rfl hp D hs hd' (r.del k);c T (T.up h2)⟩
theorem JG:∀{q M:List Int},q.Nodup->(∀x∈q,x∈M)->q.length<=M.length
 | [],M=>λz z=>ba _|x::q,M=>λh hs=>by
  rw[bo] at h;have h1:x∈M:=hs x (.head _);have h2:=JG (M:=M.erase x) h.2 λy hy=>(List.mem_erase_of_ne (λe:y=x=>h.1 (e▸hy))).mpr (hs y (.tail _ hy));rw[Di h1] at h2;exact aA (cP h2) (bX (y9 (List.length_pos_of_mem h1)))
def rO(e:Int×G7):Int:=match e.2 with
 | .int i _=>i|_=>0
theorem Ic(f:α->β):∀(l:List α) (j:Nat),(l.eraseIdx j).map f=(l.map f).eraseIdx j
 | [],_=>rfl|_::_,0=>rfl|x::l,j+1=>aF (f x::·) (Ic f l j)
variable{k:Int}
def WS{L:List Int}(hn:q.Nodup)(h:∀x∈q,x∈L)(hl:L.length=q.length)(hj:L[j]?=F5 k):k∉L.eraseIdx j:=λhk=>by
 have:=JG hn (M:=L.eraseIdx j) λx hx=>(oT (x=k)).elim (λe=>e▸hk) λe=>by
  obtain⟨i,hi⟩:=jS.mp (h x hx);exact List.mem_eraseIdx_iff_getElem?.mpr ⟨i,λq=>e (ay (hi.symm.trans (q▸hj))),hi⟩
 rw[List.length_eraseIdx_of_lt (pP hj),hl] at this;exact absurd this (qS.mpr (Nat.sub_lt (hl▸bp (ba _) (pP hj)) Nat.one_pos))
def AK(xs:Array α)(p:Nat):(SetTable.eraseAt xs p).toList=xs.toList.eraseIdx p:=by
 rw[List.eraseIdx_eq_take_drop_succ];simp [SetTable.eraseAt]
 exact s9 (by simp)
def q9(xs:Array α){p:Nat}(h:p<xs.size):(SetTable.eraseAt xs p).size=xs.size-1:=by
 rw[<-oR,AK,List.length_eraseIdx_of_lt (by rw[oR];exact h),oR]
def RQ(xs:Array α)(p:Nat)(x:α):(SetTable.insertAt xs p x).size=xs.size+1:=by
 unfold SetTable.insertAt;rw[Array.size_append,Array.size_push,Array.size_extract,Array.size_extract,Nat.sub_zero,y0,iy,bW (min _ _),Nat.min_comm,Nat.sub_add_min_cancel]
def N6{t:SetTable}(h:t.fits n=F6)(hi:i<n):(t.drop i).fits (n-1)=F6:=by
 unfold SetTable.fits at h ⊢;rw[d5,eB,nT] at h ⊢;have hp:i<t.place.size:=h.1▸hi;unfold SetTable.drop;rw[Array.getElem?_eq_getElem hp];refine⟨by rw[<-h.1];exact q9 _ hp,?_⟩
 have h2:=h.2;unfold SetTable.fill at h2 ⊢
 dsimp only
 rw[q9 _ hp,RQ,<-bT,iy,y9 (Dz hp)];exact h2
variable{E Q:G7->R5->Prop}{ep:Nat}{M:Model}
def Y2{Q:Option Nat->R5->Prop}{es:Array (Int×G7)}{tb:SetTable}
  (ho:s.heap.get? a=F5 o) (hd:o.data=.set es ep tb) (hel:ElemsOf (intKind prog w) es.toList) (hb:es.size<scanBound) (hf:tb.fits es.size=F6)
  (h:Q (es.toList.findIdx? λe=>Value.isInt k e.2) s):wpAny (model prog w) A (setFind a (.int k t) (hashInt k)) Q E s:=by
 unfold setFind setFindIn;refine aG (wpAny_setState_of ho hd hf ?_)
 dsimp only
 rw[byScan_of (knd:=intKind prog w) (x:=.int k t) rfl hb hel];simp only[↓reduceIte];refine aG (yQ ?_);refine aG (wpAny_setScan_of (knd:=intKind prog w) (k:=k) int_is ho hd hf hel ?_);show wpAny _ _ (match (match es.toList.findIdx? (λe=>Value.isInt k e.2) with|some j=>ScanMet.found (0+j)|none=>.absent) with| .found i=>_| .absent=>_| .anew=>_) _ _ _
 generalize es.toList.findIdx? (λe=>Value.isInt k e.2)=r at h
 cases r with
 |none=>exact aj h|some j=>dsimp only;rw[cW];exact aj h
def q5{l:List (Int×G7)}(hel:ElemsOf (intKind prog w) l){e:Int×G7}(he:e∈l)(k:Int):Value.isInt k e.2=F6↔rO e=k:=by
 obtain⟨⟨k₁,h1,_⟩,_⟩:=hel e he;obtain⟨u,e2⟩:=D9 h1;unfold rO;rw[e2];exact eB
def N3{L:List (Int×G7)}(hn:q.Nodup)(qL:∀x,x∈q↔x∈L.map rO)(hl:L.length=q.length)(hkj:(L.map rO)[j]?=F5 k)(hel:ElemsOf (intKind prog w) L)(k':Int):
  (q.filter (· != k)).contains k'=F6↔∃e∈L.eraseIdx j,Value.isInt k' e.2=F6:=by
 have notk:=WS hn (λx hx=>(qL x).mp hx) (by rw[aQ];exact hl) hkj
 rw[<-Ic] at notk;refine(lC (a:=k')).trans (gX.trans ⟨λζ=>ζ.elim λh1 h2=>?_,λζ=>ζ.elim λe ζ'=>ζ'.elim λhe hk=>?_⟩)
 .obtain⟨e,he,hke⟩:=dB.mp ((qL k').mp h1);obtain⟨i,hi⟩:=jS.mp he;refine⟨e,List.mem_eraseIdx_iff_getElem?.mpr ⟨i,λz=>nP.mp h2 ?_,hi⟩,(q5 hel he k').mpr hke⟩;rw[gC,<-z,hi] at hkj;exact hke.symm.trans (ay hkj)
 .have sub:=List.mem_of_mem_eraseIdx he;have hke:=(q5 hel sub k').mp hk;exact⟨(qL k').mpr (dB.mpr ⟨e,sub,hke⟩),nP.mpr λz=>notk (dB.mpr ⟨e,he,hke.trans z⟩)⟩
def MS{m:Sem α}{Q:α->R5->Prop}{E':G7->R5->Prop}(h:∀E,wpAny M A m Q E s):wpAny M A m Q E' s:=h _
def N2{Q:Bool->R5->Prop}(hS:s.heap.SetOf (intKind prog w) a (λk=>q.contains k) q.length)(hn:q.Nodup)
  (h:∀h' b,Heap.SameBut a s.heap h'->h'.SetOf (intKind prog w) a (λk'=>(q.filter (· != k)).contains k') (q.filter (· != k)).length->Q b {s with heap:=h'}):wpAny (model prog w) A (setDiscardHashed a (.int k t) (hashInt k)) Q E s:=by
 obtain⟨o,es,ep,tb,ho,hex,hd,hel,hmem,hb,hf,hsz⟩:=id hS;have qL:∀x,x∈q↔x∈es.toList.map rO:=λx=>
  (lC (a:=x) (as:=q)).symm.trans ((hmem x).trans ⟨λζ=>ζ.elim λe ζ'=>ζ'.elim λhe hk=>dB.mpr ⟨e,he,(q5 hel he x).mp hk⟩,λm=>(dB.mp m).elim λe ζ'=>ζ'.elim λhe hk=>⟨e,he,(q5 hel he x).mpr hk⟩⟩)
 clear hmem;unfold setDiscardHashed;refine aG (Y2 ho hd hel hb hf ?_)
 cases hr:List.findIdx? (λe:Int×G7=>Value.isInt k e.2) es.toList with
 |none=>
  have hk:k∉q:=λhk=>by
   obtain⟨e,he,hke⟩:=dB.mp ((qL k).mp hk)
   have:=List.findIdx?_eq_none_iff.mp hr e he
   rw[(q5 hel he k).mpr hke] at this;cases this
  have hq:q.filter (· != k)=q:=List.filter_eq_self.mpr λx hx=>nP.mpr λe=>hk (e▸hx);exact aj (h s.heap L0 (Heap.SameBut.refl a s.heap) (hq.symm▸hS))
 |some j=>
  dsimp only
  obtain⟨hj,hpj,_⟩:=List.findIdx?_eq_some_iff_getElem.mp hr;have hjs:j<es.size:=oR▸hj;have hkj:(es.toList.map rO)[j]?=F5 k:=by rw[gC,bu hj];exact aF F5 ((q5 hel (jR hj) k).mp hpj)
  clear hr hpj;have ho':=mA (Obj.putSet (SetTable.eraseAt es j) (tb.drop j)) ho (by rw[putSet_of _ _ hd];rfl)
  rw[putSet_of _ _ hd] at ho';refine aG (wpAny_setState_of ho hd hf (aG (wpAny_storeSet_of ho hd (aG (wpAny_point (aj (h _ F6 (lB ..) ⟨_,SetTable.eraseAt es j,ep+1,tb.drop j,ho',hex,rfl,?_,?_,?_,?_,?_⟩)))) (by rw[q9 _ hjs];exact aA (oj _ _) (aA (d9 hb) ⋯)))))
  .exact λe he=>hel e (List.mem_of_mem_eraseIdx (AK es j▸he))
  .rw[AK];exact λk'=>N3 hn qL (by rw[oR];exact hsz) hkj hel k'
  .rw[q9 _ hjs];exact bp (oj _ _) hb
  .rw[q9 _ hjs];exact N6 hf hjs
  .rw[q9 _ hjs,<-List.Nodup.erase_eq_filter hn k,Di ((qL k).mpr (d8 hkj)),hsz]
def NO(hS:s.heap.SetOf (intKind prog w) a (λk=>q.contains k) q.length)(hn:q.Nodup)
  (h:∀h',Heap.SameBut a s.heap h'->h'.SetOf (intKind prog w) a (λk'=>(q.filter (· != k)).contains k') (q.filter (· != k)).length->Q .none {s with heap:=h',toks:=s.toks+1}):
  wpAny (model prog w) A (call (.builtin "set.discard") [.ref a,.int k t]) Q E s:=by
 refine oP F.slot_set_discard hS.typeIs F.entry_set_discard ?_ (F.args_set_discard_2 _ _);unfold Builtin.«set.discard» Builtin.Frozenset.oneOther;simp only[List.isEmpty_nil,bind_assoc];unfold Builtin.Frozenset.addrOf Builtin.Frozenset.withSetAsKey setDiscard;refine aG (aj ?_)
 try dsimp only
 refine aG (aj ?_)
 try dsimp only
 refine aG (wpAny_tryCatch (MS λE'=>?_));exact fB (aG ((intKind prog w).pyHash int_is (N2 (s:={s with toks:=s.toks+1}) hS hn λh' b hs hd=>aj ⟨_,rfl,h h' hs hd⟩)))
def b9.discard(hc:H[i]?=F5 (.set q)):b9 W .discard [.obj i,.int k] H .none (H.set i (.set (q.filter (· != k)))):=λ{y A s y y R} K hus c=>
 hus.sN (P:=λcus=>Wp W A (call (.builtin "set.discard") cus) R s) λy ck hu hk=>hk.b7 (P:=λck=>Wp W A (call (.builtin "set.discard") [_,ck]) R s) λt=>sC K.N hc hu (P:=λcu=>Wp W A (call (.builtin "set.discard") [cu,_]) R s) λa hp d n=>
  NO d n λh' hs hd'=>c (LM K.N hp d hs hd' (n.filter _)) .of_none
def MG(q:List Int)(k:Int):(λk'=>q.contains k'||decide (k'=k))=λk'=>(if q.contains k then q else q++[k]).contains k':=by
 funext k'
 rw[oS,vB,lC,nT,lC];split
 .rename_i h;exact⟨λx=>x.elim id λe=>e▸lC.mp h,.inl⟩
 .rw[cD,bB]
def MF(q:List Int)(k:Int):(if q.contains k=F6 then q.length else q.length+1)=(if q.contains k then q else q++[k]).length:=by
 split
 .rfl
 .rw[a8];rfl
def MH(n:q.Nodup):(if q.contains k then q else q++[k]).Nodup:=by
 split
 .exact n
 .rename_i h;exact fm.mpr ⟨n,bo.mpr ⟨dZ,dU⟩,λx hx y hy e=>h (lC.mpr (bB.mp hy▸e▸hx))⟩
def b9.add(hc:H[i]?=F5 (.set q))(z:q.length<4000):b9 W .add [.obj i,.int k] H .none (H.set i (.set (if q.contains k then q else q++[k]))):=λ{y A s y y R} K hus c=>
 hus.sN (P:=λcus=>Wp W A (call (.builtin "set.add") cus) R s) λy ck hu hk=>hk.b7 (P:=λck=>Wp W A (call (.builtin "set.add") [_,ck]) R s) λt=>sC K.N hc hu (P:=λcu=>Wp W A (call (.builtin "set.add") [cu,_]) R s) λa hp d n=>
  call_set_add int_is rfl d (bp z ⋯) λh' hs hd'=>c (LM K.N hp d hs (MG q k▸MF q k▸hd') (MH n)) .of_none
def VN:Slot "reversed" "__init__" "object.__init__":=
 .of (owner:="object") (n:="__init__") (by rw[oM,nQ];kernel_rfl) (by decide+kernel) (by decide+kernel) (by decide+kernel)
  (by first|exact .inl (by decide+kernel)|exact .inr (by decide+kernel)) (by rw[rI];kernel_rfl)
def NQ:TypeCalled "reversed" "reversed.__new__" "object.__init__":=
 ⟨by decide+kernel,by decide+kernel,⟨_,_,F.mro_reversed⟩,madeBy_type F.mro_reversed F.lookup_reversed_new (by decide+kernel),by decide+kernel,by rw[rI];kernel_rfl,VN⟩
def aAk:typeLookup (.type "tuple") "__reversed__"=pure L3:=by rw[oM,nQ];kernel_rfl
def CI:Manifest.owners.lookup (String.ofList ['d','e','s','r','e','v','e','r'].reverse)=F5 Manifest.sig_reversed:=by kernel_rfl
def uk:Slot "reversed" "__next__" "reversed.__next__":=
 .of (owner:="reversed") (n:="__next__") (by rw[oM,nQ];kernel_rfl) (by decide+kernel) (by decide+kernel) (by decide+kernel)
  (by first|exact .inl (by decide+kernel)|exact .inr (by decide+kernel)) (by rw[rI];kernel_rfl)
def Fe:entryFor table "reversed.__next__"=F5 Builtin.«reversed.__next__»:=entryFor_of_tree (by kernel_rfl)
def EX(a:G7):argsOk "reversed.__next__" ⟨[a],[]⟩:=by
 unfold argsOk;rw[signature?_of (id:="reversed.__next__") (n:=['_','_','t','x','e','n','_','_']) (o:=['d','e','s','r','e','v','e','r']) (by kernel_rfl) CI];kernel_rfl
def Kj:Slot "reversed" "__iter__" "reversed.__iter__":=
 .of (owner:="reversed") (n:="__iter__") (by rw[oM,nQ];kernel_rfl) (by decide+kernel) (by decide+kernel) (by decide+kernel)
  (by first|exact .inl (by decide+kernel)|exact .inr (by decide+kernel)) (by rw[rI];kernel_rfl)
def MX(a:G7):argsOk "reversed.__iter__" ⟨[a],[]⟩:=by
 unfold argsOk;rw[signature?_of (id:="reversed.__iter__") (n:=['_','_','r','e','t','i','_','_']) (o:=['d','e','s','r','e','v','e','r']) (by kernel_rfl) CI];kernel_rfl
def OL:entryFor table "reversed.__iter__"=F5 Builtin.«dict_keyiterator.__iter__»:=
 entryFor_alias (id':="dict_keyiterator.__iter__") (by kernel_rfl) (by first|rfl|decide+kernel|(unfold String.splitOn;simp+decide [String.splitOnAux])) (by decide+kernel) (by kernel_rfl)
def uZ(l:lb)(i:Int):Obj:={cls:=.type "reversed",data:=.fields #[.ref l,rawInt i]}
variable{l it:lb}{items:Array G7}{i:Int}
def sub_tuple_dict:isSubtype (.type "tuple") (.type "dict")=pure L0:=by rw[rI];kernel_rfl
def G5(h:s.heap.IsTuple l items):s.TypeIs (.ref l) "tuple":=h.elim λo ζ'=>ζ'.elim λho ζ''=>ζ''.elim λhc y=>⟨o,ho,hc⟩
def Yb(l:lb)(items:Array G7):MeetsIn prog w (Builtin.«reversed.__new__» ⟨[.type "reversed",.ref l],[]⟩)
  (λy R s=>s.heap.IsTuple l items/\(items.size:Int)<2 ^ 63/\R (.ok (.ret (.ref s.heap.objs.size))) {s with heap:=s.heap.push (uZ l ((items.size:Int)-1)),toks:=s.toks+1+1}):=
 .of_wp λA R s h=>by
  obtain⟨ht,hz,h⟩:=h;have hT:s.TypeIs (.ref l) "tuple":=G5 ht;unfold Builtin.«reversed.__new__»;refine aG (iK (newClass_reversed _) ?_)
  try dsimp only
  refine aG (iK (a:=()) (by first|rfl|kernel_rfl) ?_)
  refine aG (iK (a:=()) (by first|rfl|kernel_rfl) ?_)
  try dsimp only
  refine aG (sW hT aAk ?_)
  try dsimp only
  refine aG ?_
  wp_delta
  refine aG (yO hT sub_tuple_dict ?_);rw[aD ⋯]
  refine aG (sW hT zG.lookup ?_)
  try dsimp only
  rw[aI (by decide+kernel)]
  refine aj ?_;show wpAny _ _ (call (Value.builtin "len") [Value.ref l] >>= _) _ _ _;refine aG (len_tuple (ht.elim λo ζ'=>ζ'.elim λho ζ''=>ζ''.elim λhc ζ'''=>ζ'''.elim λn hd=>⟨o,ho,hc,n,hd⟩) hz ?_);refine aG (iK (a:=F5 (items.size:Int)) rfl ?_);show wpAny _ _ (Builtin.SmallTypes.newRecord (Value.type "reversed") [Value.ref l,rawInt ((items.size:Int)-1)] >>= _) _ _ _;refine aG ?_;unfold Builtin.SmallTypes.newRecord;refine jw ?_ (by size_fits)
  exact aj ⟨_,rfl,h⟩
def aAp(a:G7):checkTypeCall "reversed" ⟨[a],[]⟩=pure ():=F.typeCall_reversed_1 a
def NN(hl:s.heap.IsTuple l items)(hz:(items.size:Int)<2 ^ 63)
  (h:Q (.ref s.heap.objs.size) {s with heap:=s.heap.push (uZ l ((items.size:Int)-1)),toks:=s.toks+1+1}):wpAny (model prog w) A (call (.type "reversed") [.ref l]) Q E s:=
 callType_newIn NQ ⋯ (aAp _) (F.newCall_reversed_1 _) (λobj=>F.args_object_init_2 obj _) F.entry_reversed_new (Yb l items)
  ⟨hl,hz,⟨_,dv _ rfl,rfl⟩,h⟩
def iN(h:Heap)(a l:lb)(i:Int):Prop:=∃o,h.get? a=F5 o/\o.cls=.type "reversed"/\o.data=.fields #[.ref l,rawInt i]
def iN.typeIs(x:iN s.heap a l i):s.TypeIs (.ref a) "reversed":=x.elim λo ζ'=>ζ'.elim λho ζ''=>ζ''.elim λhc y=>⟨o,ho,hc⟩
def iN.at(x:iN h a l i)(e:∀o,h.get? a=F5 o->h'.get? a=F5 o):iN h' a l i:=x.elim λo ζ'=>ζ'.elim λho r=>⟨o,e _ ho,r⟩
def X1{i:Nat}{Q:Option G7->R5->Prop}(hit:iN s.heap it l (i:Int))(hl:s.heap.IsTuple l items)(hx:items[i]?=F5 x)(hz:items.size<=aJ)
  (hQ:∀h' tk,iN h' it l ((i:Int)-1)->Heap.SameBut it s.heap h'->Q (F5 x) {s with heap:=h',toks:=tk}):wpAny (model prog w) A (pyNext (.ref it)) Q E s:=by
 obtain⟨o,ho,hc,hd⟩:=id hit;unfold pyNext;refine aG (yN (C8 (name:=Str.ofString "__next__") hit.typeIs uk
  (oP uk hit.typeIs Fe ?_ (EX _))))
 unfold Builtin.«reversed.__next__»;refine aG (iK (a:=(Value.ref it,[])) rfl ?_)
 try dsimp only
 refine aG (sV ho hd (x:=.ref l) rfl ?_);refine aG (sV ho hd (x:=rawInt (i:Int)) rfl ?_);show wpAny _ _ (if (i:Int)<0 then _ else _) _ _ s
 rw[aD (mB.mpr (fD i))];refine aG (sW (G5 hl) zG.lookup ?_);show wpAny _ _ (mkInt (i:Int) >>= _) _ _ s;refine aG (wpAny_mkInt ?_);have hlt:i<items.size:=(Array.getElem?_eq_some_iff.mp hx).1;refine aG (yN (getItem_tuple (j:=i) (x:=x) hl (Iz i) (xC hlt hz) (KX hlt) hx ?_))
 try dsimp only
 refine aG (sV ho hd (x:=rawInt (i:Int)) rfl ?_)
 try dsimp only
 show wpAny _ _ (setField (Value.ref it) 1 (rawInt ((i:Int)-1)) >>= _) _ _ _;refine aG (yR ho hd (by simp) ?_)
 first
 |refine aj ⟨x,rfl,aj (hQ _ _ ?_ (lB ..))⟩|refine aG (aj (aj ⟨x,rfl,aj (hQ _ _ ?_ (lB ..))⟩))
 exact⟨_,mA _ ho (D0 (tG hd _)),(Obj.cls_mapFields ..).trans hc,by
  rw[tG hd];simp⟩
def Xz{Q:Option G7->R5->Prop}(hh:A.handled=L3)(hit:iN s.heap it l (-1))
  (hQ:∀h',Heap.ExtBut it s.heap h'->Q L3 {s with heap:=h'}):wpAny (model prog w) A (pyNext (.ref it)) Q E s:=by
 obtain⟨o,ho,hc,hd⟩:=id hit;unfold pyNext;refine aG (yN (C8 (name:=Str.ofString "__next__") hit.typeIs uk
  (oP uk hit.typeIs Fe ?_ (EX _))))
 unfold Builtin.«reversed.__next__»;refine aG (iK (a:=(Value.ref it,[])) rfl ?_)
 try dsimp only
 refine aG (sV ho hd (x:=.ref l) rfl ?_);refine aG (sV ho hd (x:=rawInt (-1)) rfl ?_);show wpAny _ _ (if (-1:Int)<0 then _ else _) _ _ s
 rw[aI ⋯]
 refine aG (yQ ?_);refine aG ?_
 wp_delta
 refine aG (yR ho hd (by simp) ?_)
 have ho':=mA (Obj.mapFields (·.set! 1 (rawInt (-1)))) ho (D0 (tG hd _));have hd':=tG hd (·.set! 1 (rawInt (-1)));refine yR ho' hd' (by simp) ?_
 refine aG ?_
 first
 |show wpAny _ _ (newExc (.type "StopIteration") [] >>= _) _ _ _|(refine aG ?_;show wpAny _ _ (newExc (.type "StopIteration") [] >>= _) _ _ _)
 refine aG ?_;simp only[newExc,newTuple];refine aG (jw ?_ (by size_fits))
 refine aG (m:=firstArgMember _ _) (iK (a:=Value.none) (by first|rfl|(simp only[firstArgMember];rfl)) ?_)
 refine jw ?_ (by size_fits)
 refine aG (wpAny_handled ?_)
 first|rw[show A.in1.handled=L3 from hh]|rw[hh]
 refine aG (aj (wpAny_throw ?_));refine aG (yO (T:="StopIteration") (b:=F6) ⟨_,dv _ rfl,rfl⟩ isSubtype_stop ?_);exact aj (hQ _ λb o hb e=>oV _ (oV _ ((qF _ _ (kE hb)).trans ((qF _ _ (kE hb)).trans e))))
def Jx(hit:iN s.heap it l i)(h:Q (.ref it) s):wpAny (model prog w) A (pyIter (.ref it)) Q E s:=by
 refine wpAny_pyIter_slot hit.typeIs Kj (oP Kj hit.typeIs OL ?_ (MX _));show wpAny _ _ (ret (.ref it)) _ _ s;exact aj ⟨_,rfl,"reversed",_,hit.typeIs,uk.lookup,h⟩
def aA5(hh:A.handled=L3)(I l:lb)(hne:l≠I)(items:List G7)(hz:items.length<=aJ):
  Walks prog w A I [I,l] [I] items.reverse.length (λi v=>items.reverse[i]?=F5 v) (λi h=>i<=items.length/\iN h I l ((items.length:Int)-1-(i:Int))/\h.IsTuple l items.toArray) where
 sub:=λb hb=>by simp at hb;simp [hb]
 frame:=λy y y x hk=>⟨x.1,x.2.1.at λo e=>hk I (by simp) o e,(x.2.2.elim λo ζ'=>ζ'.elim λho r=>⟨o,hk l (by simp) o ho,r⟩)⟩
 item:=λi s Q E hi x hQ=>by
  rw[lD] at hi;have hp:0<items.length:=bp (ba _) hi;have e:(items.length:Int)-1-(i:Int)=((items.length-1-i:Nat):Int):=by
   rw[Int.ofNat_sub (Nat.le_sub_one_of_lt hi),Int.ofNat_sub hp];rfl
  have hit:=x.2.1;rw[e] at hit;have hx:items.toArray[items.length-1-i]?=F5 (items[items.length-1-i]'(bp (oj _ _) (Nat.sub_lt hp Nat.one_pos))):=(mD ..).trans (bu _);refine X1 hit x.2.2 hx (by simpa using hz) λh' tk hit' hs'=>?_
  have e2:((items.length-1-i:Nat):Int)-1=(items.length:Int)-1-((i+1:Nat):Int):=by
   rw[<-e];exact Int.sub_sub _ _ _
  rw[e2] at hit';exact hQ _ h' tk (by rw[List.getElem?_reverse hi];simpa using hx) ⟨hi,hit',(x.2.2.elim λo ζ'=>ζ'.elim λho r=>⟨o,(hs'.2 l hne).trans ho,r⟩)⟩ λb o hb eo=>hs'.extBut b o (λh=>hb (by simp [h])) eo
 done:=λs Q E x hQ=>by
  have hit:=x.2.1;rw[lD] at hit;have e:(items.length:Int)-1-(items.length:Int)=-1:=by
   rw[Int.sub_sub,Int.add_comm,<-Int.sub_sub,Int.sub_self];rfl
  rw[e] at hit;exact Xz hh hit λh' he'=>hQ h' s.toks λb o hb eo=>he' b o (λh=>hb (by simp [h])) eo
 self:=λy y y y x hQ=>Jx x.2.1 hQ
variable{R:Result->R5->Prop}{S:lb}{acc:List G7}{res:G7}
def Fp{fp wr:List lb}{outs:List G7}{St:Nat->Heap->Prop}(W:Walks prog w A.in1 I fp wr outs.length (λi v=>outs[i]?=F5 v) St)(S:lb)(hSf:S∉fp)(res:G7):
  ∀(k i:Nat) (s:R5) (acc:List G7),outs.length-i=k->i<=outs.length->St i s.heap->XL s.heap S acc->acc.length+k<=aJ->
  (∀h' tk,XL h' S (acc++outs.drop i)->(∀b o,b∉S::wr->s.heap.get? b=F5 o->h'.get? b=F5 o)->R (.ok (.ret res)) {s with heap:=h',toks:=tk})->
  codeAny (model prog w) A (.builtin "list.extend.loop" ⟨[.ref S,.ref I,res],[]⟩) R s:=by
 have sz:=Cg;have hSw:S∉wr:=λh=>hSf (W.sub _ h);intro k
 induction k with
 |zero=>
  intro i s acc hk hi hst hS hz hR;have hin:i=outs.length:=vU hi (Nat.le_of_sub_eq_zero hk);subst hin;refine codeAny_builtin F.entry_extend_loop ?_;rw[Around.under_plainId vG _];show wpAny _ A.in1 (pyNext (.ref I) >>= _) _ _ s;refine aG (W.done s _ _ hst λh' tk hm=>?_);exact aj (hR h' tk (by rw[DY,fj];exact hS.at λo e=>hm S o hSw e) λb o hb e=>hm b o (λq=>hb (.tail _ q)) e)
 |succ k ih=>
  intro i s acc hk hi hst hS hz hR;have hlt:i<outs.length:=Nat.lt_of_sub_pos (hk▸om k);refine codeAny_builtin F.entry_extend_loop ?_;rw[Around.under_plainId vG _];show wpAny _ A.in1 (pyNext (.ref I) >>= _) _ _ s;refine aG (W.item i s _ _ hlt hst λv h' tk hP hst' hm=>?_);obtain⟨hS⟩:=hS;have hS':=hm S _ hSw hS;show wpAny _ A.in1 (updateSeq S (·.push v) >>= _) _ _ _;refine aG ?_;have hS2:=mA (Obj.mapSeq (·.push v)) hS' rfl;refine DA hS' rfl (aj ⟨plainId_quiet vG _,ih (i+1) _ (acc++[v]) ((Nat.sub_succ _ _).trans (aF Nat.pred hk)) hlt (W.frame _ _ _ hst' λb hb o e=>?_) (u5 (f:=(·.push v)) hS' (Dk acc v)) (by rw[a8];exact aA (bX (iy ..)) hz) λh'' tk' hS'' hm''=>?_⟩)
   (by rw[bQ];exact aA (aA (aW _ _) hz) sz) (by rw[Array.size_push,bQ];exact cP (aA (aA (aW _ _) hz) sz))
  .exact(qF _ _ (λh:S=b=>hSf (by rw[h];exact hb))).trans e
  .refine hR h'' tk' ?_ λb o hb e=>hm'' b o hb ?_
   .have:outs.drop i=v::outs.drop (i+1):=by
     have h1:=List.drop_eq_getElem_cons hlt;have h2:outs[i]=v:=by
      have:=bu hlt
      rw[hP] at this;exact(ay this).symm
     rw[h1,h2]
    rw[this];rw[dw] at hS'';exact hS''
   .exact(qF _ _ (λh:S=b=>hb (by rw[h];exact oa))).trans (hm b o (λq=>hb (.tail _ q)) e)
def Ya:typeLookup (.type "reversed") "__len__"=pure L3:=by rw[oM,nQ];kernel_rfl
def Cj:Slot "reversed" "__length_hint__" "reversed.__length_hint__":=
 .of (owner:="reversed") (n:="__length_hint__") (by rw[oM,nQ];kernel_rfl) (by decide+kernel) (by decide+kernel) (by decide+kernel)
  (by first|exact .inl (by decide+kernel)|exact .inr (by decide+kernel)) (by rw[rI];kernel_rfl)
def OK:entryFor table "reversed.__length_hint__"=F5 Builtin.«reversed.__length_hint__»:=entryFor_of_tree (by kernel_rfl)
def MW(a:G7):argsOk "reversed.__length_hint__" ⟨[a],[]⟩:=by
 unfold argsOk;rw[signature?_of (id:="reversed.__length_hint__") (n:=['_','_','t','n','i','h','_','h','t','g','n','e','l','_','_']) (o:=['d','e','s','r','e','v','e','r']) (by kernel_rfl) CI];kernel_rfl
def Ze:isSubtype (.type "reversed") (.type "reversed")=pure F6:=F.sub_reversed_self
def NM(hit:iN s.heap it l ((items.size:Int)-1))(hl:s.heap.IsTuple l items)(hz:(items.size:Int)<2 ^ 63)
  (h:∀t tk,Q (.int (items.size:Int) t) {s with toks:=tk}):wpAny (model prog w) A (call (.builtin "reversed.__length_hint__") [.ref it]) Q E s:=by
 obtain⟨o,ho,hc,hd⟩:=id hit;refine oP Cj hit.typeIs OK ?_ (MW _);unfold Builtin.«reversed.__length_hint__»;refine aG (iK (a:=Value.ref it) rfl ?_);refine aG (sV ho hd (x:=.ref l) rfl ?_);rw[aD (show ¬((Value.ref l == Value.none)=F6) from az)]
 refine aG (len_tuple (hl.elim λo ζ'=>ζ'.elim λho ζ''=>ζ''.elim λhc ζ'''=>ζ'''.elim λn hd=>⟨o,ho,hc,n,hd⟩) hz ?_);refine aG (iK (a:=F5 (items.size:Int)) rfl ?_)
 try dsimp only
 refine aG (sV (s:={s with toks:=s.toks+1+1}) ho hd (x:=rawInt ((items.size:Int)-1)) rfl ?_);show wpAny _ _ (if (items.size:Int)<(items.size:Int)-1+1 then _ else _) _ _ _
 have en:(items.size:Int)-1+1=(items.size:Int):=Int.sub_add_cancel _ _;rw[aD (by rw[en];exact Int.lt_irrefl _)]
 show wpAny _ _ (retInt _) _ _ _;unfold retInt;refine aG (wpAny_mkInt (aj ⟨_,rfl,?_⟩));rw[en];exact h _ _
def B7(h1:S≠I)(h2:S≠l):S∉[I,l]:=λm=>(bD.mp m).elim h1 λm=>h2 (bB.mp m)
def JI{b:lb}(h1:b≠S)(h2:b≠I):b∉[S,I]:=B7 h1 h2
def KU(h:S≠I):Builtin.List.listSameRef (.ref S) (.ref I)=L0:=by unfold Builtin.List.listSameRef;simpa using h
def OU{Q:Fin->R5->Prop}{items:List G7}(hS:XL s.heap S acc)(hit:iN s.heap I l ((items.length:Int)-1))(hl:s.heap.IsTuple l items.toArray)
  (hSI:S≠I) (hz:acc.length+items.length<=aJ)
  (hq:∀h' tk,XL h' S acc->(∀b o,b≠S->s.heap.get? b=F5 o->h'.get? b=F5 o)->Q (.again (.builtin "list.extend.loop" ⟨[.ref S,.ref I,res],[]⟩)) {s with heap:=h',toks:=tk}):
  wpAny (model prog w) A.in1 (Builtin.List.listExtendWith (.ref S) (.ref I) res) Q E s:=by
 have hT:=hit.typeIs;have hn:items.length<=aJ:=aA (cI _ _) hz;unfold Builtin.List.listExtendWith;refine aG (wpAny_typeOf hT ?_);rw[aD (by rw[KU hSI];decide)]
 refine aG (Jx hit ?_);refine aG (fB ?_);unfold Builtin.List.listLengthHint;refine aG (sW hT Ya ?_);show wpAny _ A.in1 (specialOf (Value.ref I) (Str.ofString "__length_hint__") >>= _) _ _ _;refine aG (sW hT Cj.lookup ?_);generalize hid:("reversed.__length_hint__":String)=id0
 wp_delta
 rw[show splitId id0=F5 ("reversed","__length_hint__") from by subst hid;decide+kernel]
 subst hid;refine aG (yO (b:=F6) hT Ze ?_);rw[aD ⋯]
 dsimp only
 rw[aD (by decide+kernel)]
 refine aG (yQ ?_);refine aG (iK (Cj.bind _) ?_)
 dsimp only
 have hsz:(items.toArray.size:Int)=(items.length:Int):=by rw[bQ]
 refine aG (yN (NM (items:=items.toArray) (hsz.symm▸hit) hl (hsz▸m6 hn) λt tk=>?_))
 dsimp only
 rw[hsz];have hneg:¬((items.length:Int)<0):=mB.mpr (fD _);have hlong:¬Builtin.List.listTooLong (items.length:Int).toNat=F6:=by
  unfold Builtin.List.listTooLong;rw[nT,sq];exact gF.mpr (aA hn ⋯)
 have hfit:Builtin.List.listFitsIndex (items.length:Int)=F6:=fitsIndex_of (fD _) (m6 hn);generalize (items.length:Int)=z at hfit hneg hlong;refine aG (iK (a:=F5 z) rfl ?_)
 dsimp only
 rw[aD (by rw[hfit];decide),aD hneg,aD hlong]
 refine aj ?_;by_cases h0:z=0
 .rw[h0];rw[aD (by decide+kernel)]
  exact aj (hq s.heap tk hS λb o y e=>e)
 .rw[show(z != 0)=F6 from nP.mpr h0]
  rw[aI (by decide+kernel)]
  refine aG (yQ (aG ?_));have hlen:acc.toArray.size<=aJ:=by rw[bQ];exact aA (aW _ _) hz
  have hlen1:(acc.toArray.push Value.none).size<=sizeLine:=by rw[Array.size_push];exact aA (cP hlen) ⋯
  obtain⟨hS⟩:=hS;show wpAny _ A.in1 (updateSeq S (·.push .none) >>= λy=>updateSeq S (·.pop)) _ _ _;refine aG (DA hS rfl ?_ (fR hlen) (fE hlen1));have hS₂:=mA (Obj.mapSeq (·.push Value.none)) hS rfl;refine DA hS₂ rfl ?_ hlen1 (by rw[Array.pop_push];exact fE (fR hlen))
  have hS₃:=mA (Obj.mapSeq (·.pop)) hS₂ rfl;exact aj (hq _ tk ⟨hS₃.trans (aF F5 (by unfold Obj.mapSeq;dsimp only;rw[Array.pop_push]))⟩ λb o hb e=>(qF _ _ (kE hb)).trans ((qF _ _ (kE hb)).trans e))
def OW(hh:A.handled=L3){items:List G7}(hS:XL s.heap S acc)(hit:iN s.heap I l ((items.length:Int)-1))(hl:s.heap.IsTuple l items.toArray)
  (hSI:S≠I) (hSl:S≠l) (hlI:l≠I) (hz:acc.length+items.length<=aJ)
  (hR:∀h' tk,XL h' S (acc++items.reverse)->(∀b o,b≠S->b≠I->s.heap.get? b=F5 o->h'.get? b=F5 o)->R (.ok (.ret res)) {s with heap:=h',toks:=tk}):
  wpAny (model prog w) A.in1 (Builtin.List.listExtendWith (.ref S) (.ref I) res)
   (λfin s'=>match fin with| .done f=>R (.ok f) s'| .again c'=>c'.quiet=F6/\codeAny (model prog w) A c' R s') (λe s'=>R (.error e) s') s:=
 OU hS hit hl hSI hz λh₁ tk hS₁ hk₁=>⟨plainId_quiet vG _,
  Fp (aA5 (prog:=prog) (w:=w) (A:=A.in1) hh I l hlI items (aA (cI _ _) hz)) S (B7 hSI hSl) res items.reverse.length 0 _ acc rfl (ba _)
   ⟨ba _,by rw[Int.natCast_zero,Int.sub_zero];exact hit.at λo e=>hk₁ _ o (kE hSI) e,(hl.elim λo ζ'=>ζ'.elim λho r=>⟨o,hk₁ l o (kE hSl) ho,r⟩)⟩ hS₁ (by rw[lD];exact hz) λh' tk' hS' hk'=>
  hR h' tk' hS' λb o h1 h2 e=>hk' b o (JI h1 h2) (hk₁ b o h1 e)⟩
def VS:typeLookup (.type "list_reverseiterator") "__len__"=pure L3:=by rw[oM,nQ];kernel_rfl
def VQ:typeLookup (.type "list_reverseiterator") "__length_hint__"=pure (F5 (.builtin "list_reverseiterator.__length_hint__")):=by rw[oM,nQ];kernel_rfl
def OV(hh:A.handled=L3){items:List G7}(hS:XL s.heap S acc)(hit:s.heap.IsRevIter I l ((items.length:Int)-1))(hl:s.heap.IsList l items.toArray)
  (hSI:S≠I) (hSl:S≠l) (hlI:l≠I) (hz:acc.length+items.length<=aJ)
  (hR:∀h' tk,XL h' S (acc++items.reverse)->(∀b o,b≠S->b≠I->s.heap.get? b=F5 o->h'.get? b=F5 o)->R (.ok (.ret res)) {s with heap:=h',toks:=tk}):
  wpAny (model prog w) A.in1 (Builtin.List.listExtendWith (.ref S) (.ref I) res)
   (λfin s'=>match fin with| .done f=>R (.ok f) s'| .again c'=>c'.quiet=F6/\codeAny (model prog w) A c' R s') (λe s'=>R (.error e) s') s:=by
 have hT:=hit.typeIs;unfold Builtin.List.listExtendWith;refine aG (wpAny_typeOf hT ?_);rw[aD (by rw[KU hSI];decide)]
 refine aG (wpAny_pyIter_revIter hit ?_);refine aG (fB ?_);unfold Builtin.List.listLengthHint;refine aG (sW hT VS ?_);show wpAny _ A.in1 (specialOf (Value.ref I) (Str.ofString "__length_hint__") >>= _) _ _ _;refine aG (sW hT VQ ?_);generalize hid:("list_reverseiterator.__length_hint__":String)=id0
 wp_delta
 rw[show splitId id0=F5 ("list_reverseiterator","__length_hint__") from by subst hid;decide+kernel]
 subst hid;refine aG (yO (b:=F6) hT (by rw[rI];kernel_rfl) ?_)
 refine aj ?_;rw[aD ⋯]
 have W0:=Walks.listRev (prog:=prog) (w:=w) (A:=A.in1) hh I l hlI items.toArray;have W:Walks prog w A.in1 I [I,l] [I] items.reverse.length (λi v=>items.reverse[i]?=F5 v) (λi h=>i<=items.toArray.size/\h.IsRevIter I l ((items.toArray.size:Int)-1-(i:Int))/\h.IsList l items.toArray):=by
  have e:items.toArray.size=items.reverse.length:=by simp
  refine⟨W0.sub,W0.frame,λi s Q E hi st hQ=>W0.item i s Q E (by rw[e];exact hi) st λv h' tk hP=>hQ v h' tk ?_,λs Q E st hQ=>W0.done s Q E (by rw[e];rw[<-e];simpa using st) hQ,W0.self⟩
  rw[lD] at hi;rw[List.getElem?_reverse hi]
  simpa using hP
 refine aj ⟨plainId_quiet vG _,Fp W S (B7 hSI hSl) res items.reverse.length 0 _ acc rfl (ba _) ⟨ba _,by simpa using hit,hl⟩ hS (by rw[lD];exact hz) λh' tk' hS' hk'=>hR h' tk' hS' λb o h1 h2 e=>hk' b o (JI h1 h2) e⟩
variable{items:List G7}
def NK(hh:A.handled=L3)(hit:s.heap.IsRevIter I l ((items.length:Int)-1))(hl:s.heap.IsList l items.toArray)(hlI:l≠I)(hz:items.length<=aJ)
  (hQ:∀h' tk,(∀b o,b≠I->s.heap.get? b=F5 o->h'.get? b=F5 o)->XL h' s.heap.objs.size items.reverse->Q (.ref s.heap.objs.size) {s with heap:=h',toks:=tk}):
  wpAny (model prog w) A (call (.type "list") [.ref I]) Q E s:=by
 refine callType_codes (Q₁:=λobj s₁=>obj=.ref s.heap.objs.size/\s₁={s with heap:=s.heap.push {cls:=.type "list",data:=.seq #[]}}) F.called_list (F.typeCall_list_1 _) F.entry_list_init
  (code_list_new _ ⟨rfl,rfl⟩) λobj s₁ h₁=>?_
 obtain⟨rfl,rfl⟩:=h₁;have hS:(s.heap.push {cls:=.type "list",data:=.seq #[]}).get? s.heap.objs.size=F5 {cls:=.type "list",data:=.seq #[]}:=dv _ rfl;refine⟨⟨_,hS,rfl⟩,F.args_list_init_2 _ _,?_⟩;show wpAny _ _ (do let old <-Builtin.List.listItems (.ref s.heap.objs.size);Builtin.List.listUpdate (.ref s.heap.objs.size) (λy=>#[]);letGo old.toList.reverse;Builtin.List.listExtendWith (.ref s.heap.objs.size) (.ref I) .none) _ _ _;refine aG ?_;unfold Builtin.List.listItems;refine aG (wpAny_seqItems hS rfl (aj ?_));show wpAny _ _ (updateSeq s.heap.objs.size (λy=>#[]) >>= λy=>letGo (#[]:Array G7).toList.reverse >>= λy=>Builtin.List.listExtendWith (.ref s.heap.objs.size) (.ref I) .none) _ _ _;refine aG (DA hS rfl ?_);have hS₂:=mA (Obj.mapSeq (λy=>(#[]:Array G7))) hS rfl;have oth:∀b o,s.heap.get? b=F5 o->((s.heap.push {cls:=.type "list",data:=.seq #[]}).update s.heap.objs.size (Obj.mapSeq (λy=>(#[]:Array G7)))).get? b=F5 o:=
  λb o e=>(qF _ _ (fq (hJ e))).trans (oV _ e)
 refine aG (wpAny_letGo ?_);obtain⟨oi,hoi,hi1,hi2⟩:=id hit;obtain⟨ol,hol,hl1⟩:=id hl;refine OV (A:=A.in1) (acc:=[]) hh ⟨hS₂⟩ ⟨oi,oth _ _ hoi,hi1,hi2⟩ ⟨ol,oth _ _ hol,hl1⟩ (fq (hJ hoi)) (fq (hJ hol)) hlI (by rw[nF,cW];exact hz) λh' tk hX hk=>⟨rfl,hQ h' tk (λb o hb e=>hk b o (ee (hJ e)) hb (oth b o e)) hX⟩
def NJ(hh:A.handled=L3)(hS:XL s.heap S acc)(hit:iN s.heap I l ((items.length:Int)-1))(hl:s.heap.IsTuple l items.toArray)
  (hSI:S≠I) (hSl:S≠l) (hlI:l≠I) (hz:acc.length+items.length<=aJ)
  (hQ:∀h' tk,XL h' S (acc++items.reverse)->(∀b o,b≠S->b≠I->s.heap.get? b=F5 o->h'.get? b=F5 o)->Q .none {s with heap:=h',toks:=tk}):
  wpAny (model prog w) A (call (.builtin "list.extend") [.ref S,.ref I]) Q E s:=by
 refine wpAny_call (codeAny_call_builtin DJ.plain F.entry_list_extend (DJ.check _ _ _ _ _ _ _ _ (k5 hS) (F.args_list_extend_2 _ _) ?_));unfold Builtin.«list.extend»;refine aG (iK (a:=(Value.ref S,Value.ref I)) (by rfl) ?_)
 exact OW (R:=wants Q E) hh hS hit hl hSI hSl hlI hz λh' tk hX hk=>hQ h' tk hX hk
variable{cv:List (Atom×G7)}{ns:List Int}
inductive IntKeys:List (Atom×G7)->List Int->Prop
 |nil:IntKeys [] []|cons {n:Int} {x:G7} {r:List (Atom×G7)} {l:List Int}:IntKeys r l->IntKeys ((.int n,x)::r) (n::l)
def RX(h:IntKeys cv ns):∀{vs:List G7},vs.length=cv.length->(∀(j:Nat) (v:G7),vs[j]?=F5 v->∃k x,cv[j]?=F5 (k,x)/\(cM prog w).is k v=F6)->IntsAre vs ns:=by
 induction h with
 |nil=>intro vs h _;rw[nE.mp h];exact .nil|@cons n x r l _ ih=>
  intro vs h1 h3
  cases vs with
  |nil=>cases h1|cons v vs=>
   obtain⟨k,y,e1,e2⟩:=h3 0 v rfl;have e1:=aF Prod.fst (ay e1)
   dsimp only at e1
   subst e1;obtain⟨t,e3⟩:=D9 (show Value.isInt n v=F6 from e2)
   exact e3▸.cons n t (ih (qU h1) λj u hu=>h3 (j+1) u hu)
def NP(hh:A.handled=L3){d:lb}(hsm:(d == sysModules)=L0)(hd:s.heap.DictOf (cM prog w) d cv)
  (hns:IntKeys cv ns) (h64:cv.length<64)
  (h:∀h' tk a vs,(∀b o,s.heap.get? b=F5 o->h'.get? b=F5 o)->s.heap.get? a=L3->XL h' a vs->IntsAre vs (pf ns)->Q (.ref a) {s with heap:=h',toks:=tk}):
  wpAny (model prog w) A (call (.builtin "sorted") [.ref d]) Q E s:=by
 have hml:sizeLine=2 ^ 24:=rfl;obtain⟨ep,hat⟩:=hd.dictAt;refine Calls.call_function_entry kind_sorted plain_sorted entry_sorted (args_sorted1 _) ?_;unfold Builtin.«sorted»;refine aG (m:=checkCount "sorted" 1 1 _) (aj ?_);refine aG (kdu_collect (A:=A.in1) (kdl_dict (knd:=cM prog w) (kvs:=cv) (ep:=ep) hsm) hh hat (aA (d9 h64) ⋯) λh' tk acc hk hacc=>?_)
 have hl:acc.toList.length=cv.length:=by rw[oR];exact hacc.1
 have hI:IntsAre acc.toList ns:=RX hns hl λj v e=>hacc.2 j v (by rw[<-Array.getElem?_toList];exact e)
 refine aG (wpAny_newList ?_ (by rw[hl];exact aA (d9 h64) ⋯))
 have hoL:(h'.push {cls:=.type "list",data:=.seq acc.toList.toArray}).get? h'.objs.size=F5 (seqObj "list" acc.toList.toArray 0):=dv _ rfl;refine aG (fB (oP slot_list_sort ⟨_,hoL,rfl⟩ entry_list_sort (list_sort_tree hoL hI (by rw[hl];exact h64) λout ns' a1 a2 a3=>⟨_,rfl,?_⟩) (args_list_sort _)))
 obtain⟨e,he⟩:=sortedHeap_at (out:=out) hoL;have hns':ns'=pf ns:=by
  refine List.Perm.eq_of_pairwise (le:=(·<=·)) (λa b y y h1 h2=>Int.le_antisymm h1 h2) a3 ?_ (a2.trans (List.mergeSort_perm ..).symm)
  have:=List.pairwise_mergeSort (le:=λa b:Int=>decide (a<=b)) (λa b c h1 h2=>bE (j8 (dG h1) (dG h2))) (λa b=>by rw[vB,nT,nT];exact Int.le_total a b) ns
  exact this.imp λh=>dG h
 refine aj ⟨_,rfl,h _ _ h'.objs.size out.toList (λb o eo=>?_) (rF hk) ⟨he⟩ (hns'▸a1)⟩;have hb:b<h'.objs.size:=hJ (hk b o eo);rw[sortedHeap_old (ee hb) (by rw[vK];exact yy hb)]
 exact oV _ (hk b o eo)
variable{i:Nat}{l:List V}{cs:List (Atom×G7)}
def tJ(W:Wd)(u v:V)(H H':AH):Prop:=∀{n:Nat} {A:Around} {s:R5} {μ:Mu} {cu:G7} {R:G7->R5->Prop},Ok W n A μ H s->VR μ s.heap u cu->Kc W μ s H' v R->Wp W A (call (.type "reversed") [cu]) (λI s₁=>Wp W A (call (.type "list") [I]) R s₁) s
def KC(xs:List G7):((xs.toArray.size:Nat):Int)-1=(xs.length:Int)-1:=by rw[bQ]
def tJ.lst(hl:IsL H l u)(q:LR l.reverse H v H'):tJ W u v H H':=λ{y A s y y R} K hu c=>
 hl.at K.N hu (P:=λcu=>Wp W A (call (.type "reversed") [cu]) (λI s₁=>Wp W A (call (.type "list") [I]) R s₁) s) λx xs hx r z=>by
  obtain⟨hx'⟩:=id hx;refine call_reversed_list hx.is ?_;rw[KC];have ho:(s.heap.push (revObj x ((xs.length:Int)-1))).get? s.heap.objs.size=F5 (revObj x ((xs.length:Int)-1)):=dv _ rfl;refine NK (s:={s with heap:=s.heap.push (revObj x ((xs.length:Int)-1))}) K.rm.hd ⟨_,ho,rfl,rfl⟩ ⟨_,cH _ _ _ _ hx',rfl,_,rfl⟩ (ee (hJ hx')) (r.length▸z) λh' tk hk hX=>?_;refine mZ (s:=s) (tk:=tk) q K.N r.rev (lD.symm▸z) (λb o e=>hk b o (ee (hJ e)) (cH _ _ b o e)) ?_ hX c
  cases e:s.heap.get? (s.heap.push (revObj x ((xs.length:Int)-1))).objs.size with
  |none=>rfl|some o=>
   have h1:=hJ e;rw[vK] at h1;exact absurd h1 (gF.mpr (cJ _))
def mK(W:Wd)(u x:V)(H H':AH):Prop:=∀{n:Nat} {A:Around} {s:R5} {μ:Mu} {cu cx:G7} {R:G7->R5->Prop},Ok W n A μ H s->VR μ s.heap u cu->VR μ s.heap x cx->Kc W μ s H' .none R->Wp W A (call (.type "reversed") [cx]) (λI s₁=>Wp W A (call (.builtin "list.extend") [cu,I]) R s₁) s
def ow(W:Wd)(u:V)(H:AH):Prop:=∀{μ:Mu} {s:R5} {cu:G7},aY W μ H s.heap->VR μ s.heap u cu->BM s cu "extend" "list.extend"
def ow.lst(hc:H[i]?=F5 (.lst l)):ow W (.obj i) H:=λ{y s y} N hu=>ij N hc hu (P:=λc=>BM s c _ _) λy y y x y y=>.of x.obj yc DJ F.type_list_extend
def mK.tup(hc:H[i]?=F5 (.lst l))(z:l.length+r.length<=aJ):mK W (.obj i) (.tup r) H (H.set i (.lst (l++r.reverse))):=λ{j A s j cu cx R} K hu hx c=>
 ij K.N hc hu (P:=λcu=>Wp W A (call (.type "reversed") [cx]) (λI s₁=>Wp W A (call (.builtin "list.extend") [cu,I]) R s₁) s) λx items hp hl hv j=>
 hx.gS (P:=λcx=>Wp W A (call (.type "reversed") [cx]) (λI s₁=>Wp W A (call (.builtin "list.extend") [.ref x,I]) R s₁) s) λy ys ny hy zy hys=>by
  obtain⟨hx'⟩:=id hl;obtain⟨hy'⟩:=id hy;refine NN hy.is (by rw[bQ,hys.length];exact m6 zy) ?_
  rw[KC];have ho:(s.heap.push (uZ y ((ys.length:Int)-1))).get? s.heap.objs.size=F5 (uZ y ((ys.length:Int)-1)):=dv _ rfl;refine NJ (s:={s with heap:=s.heap.push (uZ y ((ys.length:Int)-1)),toks:=s.toks+1+1}) K.rm.hd (acc:=items) (items:=ys) ⟨cH _ _ _ _ hx'⟩ ⟨_,ho,rfl,rfl⟩ ⟨_,cH _ _ _ _ hy',rfl,_,rfl⟩
   (ee (hJ hx')) (λq=>ny (q▸wR hp)) (ee (hJ hy')) (by rw[hv.length,hys.length];exact z) λh' tk hX hk=>?_
  exact c (sM (tk:=tk) K.N hp hl (λb o hb e=>hk b o hb (ee (hJ e)) (cH _ _ b o e)) hX (hv.append hys.rev) (by rw[a8,lD];exact z)) .of_none
def PR.ints(r:PR μ h kvs cs):∀{ns:List Int},kvs.map (·.1)=ns.map Atom.int->IntKeys cs ns:=by
 induction r with
 |nil=>
  intro ns e
  cases ns with
  |nil=>exact .nil|cons=>exact nomatch e
 |cons _ x ih=>
  intro ns e
  cases ns with
  |nil=>exact nomatch e
  |cons n ns=>
   have e1:=(qH e).1;subst e1;exact .cons (ih (qH e).2)
def RZ(x:IntsAre vs ns):aM μ h (ns.map V.int) vs:=by
 induction x with
 |nil=>exact .nil|cons n t _ ih=>exact .cons .f7 ih
def L7.dict{st:Nat}(hc:H[i]?=F5 (.dict kvs st))(hn:kvs.map (·.1)=ns.map Atom.int)(h64:kvs.length<64)(q:LR ((pf ns).map V.int) H v H'):P1 W (.obj i) v H H' (λa=>call (.builtin "sorted") [a]):=λ{y A s y y R} K hu c=>
 kR K.N hc hu (P:=λcu=>Wp W A (call (.builtin "sorted") [cu]) R s) λy y hp d r=>NP K.rm.hd (mY K.wk K.N hp) d (r.ints hn) (r.length▸h64) λh' tk a vs hk hnw hX hI=>
  mZ q K.N (RZ hI) (by
   have e:=aF List.length hn;rw[aQ,aQ] at e;rw[aQ];unfold pf;rw[List.length_mergeSort,<-e];exact d9 (jV h64 ⋯)) hk hnw hX c
variable{m:Nat}
def dig{c d:Nat}(hc:c<256)(hd:d<256)(h:n*256+c=m*256+d):n=m/\c=d:=by
 have h1:(256*n+c) / 256=(256*m+d) / 256:=aF (· / 256) (y6 n 256▸y6 m 256▸h);have h2:(256*n+c) % 256=(256*m+d) % 256:=aF (· % 256) (y6 n 256▸y6 m 256▸h);rw[Nat.mul_add_div ⋯,Nat.mul_add_div ⋯,Nat.div_eq_of_lt hc,Nat.div_eq_of_lt hd] at h1
 rw[Nat.mul_add_mod,Nat.mul_add_mod,Nat.mod_eq_of_lt hc,Nat.mod_eq_of_lt hd] at h2;exact⟨h1,h2⟩
def o8:List Nat->Nat
 | []=>1|c::r=>o8 r*256+c
theorem E0:∀(l:List Nat),1<=o8 l
 | []=>au _|c::r=>aA (E0 r) (aA (Du _ ⋯) (aW _ _))
def Ez(c:Nat)(r:List Nat):1≠o8 (c::r):=ee (bw (by decide:1<1*256) (aA (Nat.mul_le_mul_right 256 (E0 r)) (aW _ _)))
theorem Ey:∀(l r:List Nat),(∀c∈l,c<256)->(∀c∈r,c<256)->o8 l=o8 r->l=r
 | [],[]=>λy y y=>rfl| [],c::r=>λy y h=>absurd h (Ez c r)|c::l,[]=>λy y h=>absurd h.symm (Ez c l)|c::l,d::r=>λhl hr h=>by
  obtain⟨h1,h2⟩:=dig (hl c (.head _)) (hr d (.head _)) h;rw[h2,Ey l r (λx m=>hl x (.tail _ m)) (λx m=>hr x (.tail _ m)) h1]
theorem GD:∀(l:List Nat),l.foldr (λc n=>n*256+c) 1=o8 l
 | []=>rfl|c::l=>aF (·*256+c) (GD l)
def E8(a:Str):aV a=o8 a.cps.toList.reverse:=by unfold aV;rw[List.foldl_eq_foldr_reverse,GD]
def wB{a b:Str}(ha:dX a)(hb:dX b)(h:aV a=aV b):a=b:=by
 rw[E8,E8] at h;have e:=List.reverse_inj.mp (Ey _ _ (λc q=>(ha c (List.mem_reverse.mp q)).1) (λc q=>(hb c (List.mem_reverse.mp q)).1) h);cases a;cases b;exact aF Str.mk (Array.ext' e)
variable{nm':Str}{hsh:Int}{k k':Nat}{cv:G7}
section
variable{P:Params}{fl:List (Nat×V)}{nm:Str}
def wg{nm:Str}:(Value.str nm' t).isStr nm=F6↔nm'=nm:=by
 show(nm' == nm)=F6↔_;exact eB
def QP{c:G7}:getL nm (⟨hsh,.str nm t,c⟩::es)=F5 (F5 c):=by
 unfold getL;rw[List.find?_cons_of_pos (p:=λx:DictEntry=>x.key.isStr nm) (wg.mpr rfl)]
def QR{c:G7}(e:nm'≠nm):getL nm (⟨hsh,.str nm' t,c⟩::es)=getL nm es:=by
 unfold getL;rw[List.find?_cons_of_neg (p:=λx:DictEntry=>x.key.isStr nm) (λq=>e (wg.mp q))];rfl
def FR.get(x:FR P μ h fl es)(hn:dX nm):Ex λo=>aw (getL nm es=F5 o) (l8 μ h (aR fl (aV nm)) o):=by
 induction x with
 |nil=>exact⟨⟨rfl,.no⟩⟩|@cons nm' t y cv r r' hok hv _ ih=>
  by_cases hk:nm'=nm
  .subst hk;rw[QP,uC];exact⟨⟨rfl,.yes hv⟩⟩
  .rw[QR hk,uD λq=>hk (wB hok hn q)];exact ih
def FR.len(x:FR P μ h fl es):es.length=fl.length:=by
 induction x with
 |nil=>rfl|cons _ _ _ ih=>exact aF (·+1) ih
def UB(hn:k∉fl.map (·.1)):bS ((k,y)::fl) k v=(k,v)::fl:=by
 unfold bS;rw[qG,bE rfl,Bool.true_or,aI rfl,cV,aI rfl];refine aF _ ((ix (g:=id) λp hp=>aD λq=>hn (dB.mpr ⟨p,hp,q⟩)).trans (List.map_id fl))
def UC(hk:k'≠k):bS ((k',y)::fl) k v=(k',y)::bS fl k v:=by
 unfold bS;rw[qG,bC hk,Bool.false_or,cV,aD hk];split<;>rfl
def FR.put(x:FR P μ h fl es)(hn:dX nm)(hv:VR μ h v cv)(hnd:(fl.map (·.1)).Nodup):FR P μ h (bS fl (aV nm) v) (putL nm (PyData.keyHash P nm) (.str nm t) cv es):=by
 induction x with
 |nil=>exact .cons hn hv .nil|@cons nm' u y c r r' hok hy hr ih=>
  unfold putL;obtain⟨h1,h2⟩:=bo.mp hnd;by_cases hk:nm'=nm
  .subst hk;rw[aI (wg.mpr rfl),UB h1];exact .cons hok hv hr
  .rw[aD (λq=>hk (wg.mp q)),UC λq=>hk (wB hok hn q)];exact .cons hok hy (ih h2)
theorem keys_map:∀(fl:List (Nat×V)),(fl.map λp=>if p.1=k then(p.1,v) else p).map (·.1)=fl.map (·.1)
 | []=>rfl|p::r=>by rw[cV,cV,keys_map r];split<;>rfl
def UD(hnd:(fl.map (·.1)).Nodup):((bS fl k v).map (·.1)).Nodup:=by
 unfold bS;split
 .rw[keys_map];exact hnd
 .rename_i ha;rw[b8];refine fm.mpr ⟨hnd,bo.mpr ⟨dZ,dU⟩,λx hx y hy e=>ha ?_⟩;obtain⟨p,hp,q⟩:=dB.mp hx;exact vM.mpr ⟨p,hp,bE (q.trans (e.trans (bB.mp hy)))⟩
end
def pJ(wk:kN W)(N:aY W μ H s.heap):W.K.In s.heap:=λa o e=>N.base a o (wk.uE a o e)
theorem Qo:∀{v:V} {cv:G7},VR μ h v cv->handedIn cv=F6
 | .none=>λr=>r.sQ (P:=λc=>handedIn c=F6) rfl| .bool _=>λr=>r.p0 (P:=λc=>handedIn c=F6) rfl| .int _=>λr=>r.b7 (P:=λc=>handedIn c=F6) λy=>rfl| .str _=>λr=>r.gR (P:=λc=>handedIn c=F6) λy=>rfl| .tup _=>λr=>r.gS (P:=λc=>handedIn c=F6) λy y y y y y=>rfl| .lst _=>λr=>r.sO (P:=λc=>handedIn c=F6) λy y y y y y=>rfl| .obj _=>λr=>r.p4 (P:=λc=>handedIn c=F6) λy y=>rfl
theorem Jt(name:Str)(hsh:Int)(key v:G7):∀es:List DictEntry,(putL name hsh key v es).length<=es.length+1
 | []=>au _|y::r=>by
  unfold putL;split
  .exact cJ _
  .exact cP (Jt name hsh key v r)
def Au{c:Nat}{fl:List (Nat×V)}(N:aY W μ H s.heap)(hc:H[i]?=F5 (.inst c fl))(hv:VR μ s.heap (.obj i) cv)
  (k:∀a d cA ox es n,μ.l[i]?=F5 (a,F5 d)->W.cls c=F5 cA->ox.dict=F5 d->PySem.W.InstAt s.heap a ox cA (F5 (dictOf es n))->FR W.w.params μ s.heap fl es->(fl.map (·.1)).Nodup->P (.ref a)):P cv:=
 hv.p4 λp hp=>(N.cq hc).casesOn λhp' ζ' y=>ζ'.casesOn λe hc hd I f nd=>pW hp' hp (P:=λp=>P (.ref p.1)) (k _ _ _ _ _ _ (hp'.trans (aF F5 (iQ rfl e))) hc hd I f nd)
inductive sX(a:Nat)(H:AH):V->V->Prop
 |mk {i c:Nat} {fl:List (Nat×V)} {v:V} (hc:H[i]?=F5 (.inst c fl)) (h:gK c a=L0) (g:aR fl a=F5 v):sX a H (.obj i) v
def Ea(wk:kN W)(N:aY W μ H s.heap){nm:Str}(hn:nm∈W.attrs)(hu:VR μ s.heap u cu)(e:sX (aV nm) H u v){expr:Bool}{R:G7->R5->Prop}(c:Kc W μ s H v R):Wp W A (getAttr cu nm expr) R s:=by
 cases e with
 |mk hc hcl g=>
  refine Au N hc hu (P:=λcu=>Wp W A (getAttr cu nm expr) R s) λa d cA ox es n hp hcA hd I f nd=>?_;obtain⟨⟨h1,h2⟩⟩:=f.get (wk.vi _ hn);rw[g] at h2
  cases h2 with
  |yes hv=>exact get_value (pJ wk N) I (plainGet_of (wk.zu _ _ nm hcA)).1 (findObj_own (wk.zk _ _ hcA) (wk.zj _ _ _ hcA hn hcl) rfl h1) (Qo hv) (c.here N hv)
set_option tactic.hygienic true in
def YW(hl:(getL name es).isSome=F6):(!es.toArray.any (·.key.isStr name)&&es.toArray.any (·.refKey))=L0:=by
 rw[<-Array.any_toList,<-Array.any_toList];unfold getL at hl;split at hl
 .rename_i en he;rw[vM.mpr ⟨en,List.mem_of_find?_eq_some he,List.find?_some he⟩];rfl
 .split at hl
  .cases hl
  .rename_i z;rw[Bool.not_eq_true] at z;rw[z,Bool.and_false]
def W5{x dx:lb}{tk:Tok}{v:G7}{K:Frag}(X:K.In s.heap)
  (I:InstAt s.heap x ox cA (F5 (dictOf es n))) (hd:ox.dict=F5 dx) (hp:plainOver K cA=F6) (ht:takerIn K cA name=F5 L3) (hh:(clsIn K cA).any (·.hasDict)=F6)
  (hl:(getL name es).isSome=F6) (hz:es.length<950)
  (h:(s.heap.update dx (Obj.putName name (PyData.keyHash w.params name) (.str name s.toks) v)).get? dx=F5 (dictOf (putL name (PyData.keyHash w.params name) (.str name s.toks) v es) (putN name es n))->
   R (.ok (.ret .none)) {s with heap:=s.heap.update dx (Obj.putName name (PyData.keyHash w.params name) (.str name s.toks) v),toks:=s.toks+1}):
  codeAny (model prog w) A (.call (.builtin "object.__setattr__") ⟨[.ref x,.str name tk,v],[]⟩) R s:=by
 refine osa_open X I hp ht λb=>?_;obtain⟨cd,hc,hd'⟩:=any_some hh;have D:=wb I hd;obtain⟨hx,hcl,hn,-⟩:=I;obtain⟨oc,odi,oda,osl⟩:=ox
 dsimp only at hcl hd
 subst hcl hd;have e:=putName_dict name (PyData.keyHash w.params name) (.str name s.toks) v es n;have D':=mA (Obj.putName name (PyData.keyHash w.params name) (.str name s.toks) v) D (by rw[e];rfl)
 rw[e] at D';refine aG (aj (aG (aG (wpAny_loadPart hx (aG ((looks_clsIn X hc).here ?_))))));rw[hd'];refine aj (a:=F5 dx) (aG (aj (aG ?_)));unfold nsSet;refine aG (aG (wpAny_askSetting (aj (aG (wpAny_mkText (aG (wpAny_loadPart D ?_)))))))
 dsimp only
 rw[aRefKeyMayBeTheName_at,YW hl];refine wpAny_updatePart D (aG (wpAny_lookBehind D' (by exact pastItsLine_dict (by rw[bQ,sizeLine_eq];exact aA (Jt _ _ _ _ es) (aA (cP (d9 hz)) ⋯))) (aj (h D'))))
inductive i7(a:Nat)(H:AH)(v:V):V->AH->Prop
 |mk {i c:Nat} {fl:List (Nat×V)} (hc:H[i]?=F5 (.inst c fl)) (h:gK c a=L0) (z:fl.length<900):i7 a H v (.obj i) (H.set i (.inst c (bS fl a v)))
def aAo{d:lb}(ap:(foot μ).Nodup)(hp:μ.l[i]?=F5 (a,F5 d)):a≠d:=λq=>by
 have h1:=(fm.mp ap).2.1;obtain⟨l1,l2,hl⟩:=List.append_of_mem (d8 hp);rw[hl,vP,List.flatMap_cons] at h1;exact(bo.mp (fm.mp (fm.mp h1).2.1).1).1 (q▸.head _)
def get_some{P:Params}{fl:List (Nat×V)}{nm:Str}(f:FR P μ h fl es)(hn:dX nm):(getL nm es).isSome=F6:=(f.get hn).casesOn λζ'=>ζ'.casesOn λh1 y=>h1▸rfl
def Jw(wk:kN W)(N:aY W μ H s.heap){nm:Str}(hn:nm∈W.attrs)(hu:VR μ s.heap u cu)(hv:VR μ s.heap v cv)(e:i7 (aV nm) H v u H'){R:Unit->R5->Prop}(c:Ku W μ s H' R):Wp W A (setAttr cu nm cv) R s:=by
 cases e with
 |mk hc hcl hz=>
  refine Au N hc hu (P:=λcu=>Wp W A (setAttr cu nm cv) R s) λa d cA ox es n hp hcA hd I f nd=>?_;have ht:takerIn W.K cA nm=F5 L3:=by unfold takerIn;rw[wk.zj _ _ _ hcA hn hcl];rfl
  refine set_plain (pJ wk N) I (wk.FG _ _ hcA) (W5 (s:={s with toks:=s.toks+1}) (pJ wk N) I hd (wk.cover _ _ hcA) ht (wk.zk _ _ hcA) (get_some f (wk.vi _ hn)) (f.len▸jV hz ⋯) λD'=>?_)
  exact c (turn N hp (b:=d) (.tail _ (.head _)) (mz (lB ..)) (wb I hd) D' rfl rfl (λE=>⟨rfl,hcA,hd,⟨(Heap.get?_update_ne _ _ _ _ (aAo N.apart hp)).trans I.at_,I.cls,I.no,by rw[hd];exact D'⟩,(f.kp (E.kp .none)).put (wk.vi _ hn) (VR.ext E .none v hv) nd,UD nd⟩) λy e=>ai e)
def m5(l u:G7):Obj:={cls:=.type "slice",data:=.fields #[l,u,.none]}
def eg(W:Wd)(o:G7->Obj)(u x v:V)(H H':AH):Prop:=∀{n:Nat} {A:Around} {s:R5} {μ:Mu} {cu cx:G7} {R:G7->R5->Prop},Ok W n A μ H s->VR μ s.heap u cu->VR μ s.heap x cx->Kc W μ s H' v R->cU W A {s with heap:=s.heap.push (o cx)} cu (getItem cu (.ref s.heap.objs.size)) R
def qY(W:Wd)(u x y v:V)(H H':AH):Prop:=∀{n:Nat} {A:Around} {s:R5} {μ:Mu} {cu cx cy:G7} {R:G7->R5->Prop},Ok W n A μ H s->VR μ s.heap u cu->VR μ s.heap x cx->VR μ s.heap y cy->Kc W μ s H' v R->cU W A {s with heap:=s.heap.push (m5 cx cy)} cu (getItem cu (.ref s.heap.objs.size)) R
def l5(b:G7):Obj:=m5 .none b
def lJ(b:G7):Obj:=m5 b .none
def E4(k n:Nat):max (0:Int) (min (k:Int) (n:Int))=((min k n:Nat):Int):=by
 rw[Int.max_eq_right (Int.le_min.mpr ⟨fD _,fD _⟩)];rcases Nat.le_total k n with h|h
 .rw[Int.min_eq_left (mC.mpr h),tD h]
 .rw[Int.min_eq_right (mC.mpr h),yz h]
def Zc(n k:Nat):n-min k n=n-k:=by
 rcases Nat.le_total k n with h|h
 .rw[tD h]
 .rw[yz h,qT,Nat.sub_eq_zero_of_le h]
def not_neg(k:Nat):¬((k:Int)<0):=mB.mpr (fD k)
def IB(x:Str):x.length=x.cps.toList.length:=by show x.cps.size=_;rw[oR]
def aAv(n k:Nat):Builtin.Str.strSliceIndices L3 (F5 (k:Int)) 1 n=Builtin.Str.strSliceIndices (F5 ((0:Nat):Int)) (F5 ((min k n:Nat):Int)) 1 n:=by
 unfold Builtin.Str.strSliceIndices;simp only[not_neg,if_false,show((1:Int)>0)=True from eq_true ⋯,if_true,E4,Nat.zero_min,Nat.min_assoc,y0]
 rfl
def O8(n k:Nat):Builtin.Str.strSliceIndices (F5 (k:Int)) L3 1 n=Builtin.Str.strSliceIndices (F5 ((min k n:Nat):Int)) (F5 ((n:Nat):Int)) 1 n:=by
 unfold Builtin.Str.strSliceIndices;simp only[not_neg,if_false,show((1:Int)>0)=True from eq_true ⋯,if_true,E4,Nat.min_assoc,y0]
def Za(x:Str)(k:Nat):(Builtin.Str.strSliceIndices L3 (F5 (k:Int)) 1 x.length).filterMap (x.cps[·]?)=x.cps.toList.take k/\(Builtin.Str.strSliceIndices L3 (F5 (k:Int)) 1 x.length).length=min k x.length:=by
 rw[aAv];refine⟨?_,by rw[PySem.StrLaws.strSliceIndices_plain (ba _) (qR _ _)];simp⟩
 rw[PySem.StrLaws.sliced_plain x (ba _) (qR _ _),List.drop_zero,Nat.sub_zero,IB,<-List.take_take,yu]
def ZY(x:Str)(k:Nat):(Builtin.Str.strSliceIndices (F5 (k:Int)) L3 1 x.length).filterMap (x.cps[·]?)=x.cps.toList.drop k/\(Builtin.Str.strSliceIndices (F5 (k:Int)) L3 1 x.length).length=x.length-k:=by
 rw[O8];refine⟨?_,by rw[PySem.StrLaws.strSliceIndices_plain (qR _ _) (au _),aQ,kB,Zc]⟩
 rw[PySem.StrLaws.sliced_plain x (qR _ _) (au _),IB];rcases Nat.le_total k x.cps.toList.length with h|h
 .rw[tD h,s9 (by rw[qM];exact au _)]
 .rw[yz h,List.drop_of_length_le (au _),List.drop_of_length_le h,List.take_nil]
variable{x:List Nat}
def ZZ{x:Str}(hz:x.length<=aJ)(h:∀t tk,Q (.str x t) {s with toks:=tk}):(Made.str x).post Q s:=⟨fR hz,h _ _⟩
def str_slice{u:Tok}{l r:Option (Int×Tok)}{y:List Nat}{sl:lb}{R:G7->R5->Prop}(N:aY W μ H s.heap)(k:∀b o,s.heap.get? b=F5 o->h'.get? b=F5 o)(z:x.length<=aJ)(hs:h'.IsSlice sl l r L3)
  (h1:(Builtin.Str.strSliceIndices (l.map (·.1)) (r.map (·.1)) 1 (⟨x.toArray⟩:Str).length).filterMap ((⟨x.toArray⟩:Str).cps[·]?)=y/\(Builtin.Str.strSliceIndices (l.map (·.1)) (r.map (·.1)) 1 (⟨x.toArray⟩:Str).length).length=m) (h3:m=x.length->y=x) (h4:y.length<=x.length)
  (c:Kc W μ s H (.str y) R):cU W A {s with heap:=h'} (.str ⟨x.toArray⟩ u) (getItem (.str ⟨x.toArray⟩ u) (.ref sl)) R:=by
 refine⟨typeIs_str _ _ _,PySem.F.slot_str_getitem.lookup,wpAny_getItem_str_slice (s:={s with heap:=h'}) (l:=l) (u:=r) (st:=L3) hs rfl ?_⟩;unfold sliceMade slicePicked;simp only[Option.map_none,Option.getD_none];split
 .rename_i hq;rw[d5] at hq;have hq2:=eB.mp hq.2;rw[h1.2] at hq2;rw[h3 (hq2.trans (show x.toArray.size=_ from bQ ..))] at c
  exact c (.grow (tk:=s.toks) N k) .xV
 .rw[h1.1];exact ZZ (by show y.toArray.size<=_;rw[bQ];exact aA h4 z) λt tk=>c (.grow N k) .xV
theorem N8:∀{x:List Nat},x.length-j=x.length->x.drop j=x
 | []=>λy=>s6|_::_=>λq=>match j,q with
  |0,_=>rfl|_+1,q=>absurd q (ee (Nat.sub_lt (om _) (om _)))
def eg.yC(z:x.length<=aJ):eg W l5 (.str x) (.int j) (.str (x.take j)) H H:=λ{y A s y y y R} K hu hx c=>
 hx.b7 (P:=λcx=>cU W A {s with heap:=s.heap.push (l5 cx)} _ (getItem _ (.ref s.heap.objs.size)) R) λt=>hu.gR (P:=λcu=>cU W A {s with heap:=s.heap.push (l5 (.int j t))} cu (getItem cu (.ref s.heap.objs.size)) R) λu=>
  str_slice (l:=L3) (r:=F5 ((j:Int),t)) K.N (cH _ _) z ⟨_,dv _ rfl,rfl,rfl⟩ (Za ⟨x.toArray⟩ j) (λq=>s9 (by rw[<-q];exact Nat.min_le_left _ _)) (by rw[yr];exact qR _ _) c
def eg.Kv(z:x.length<=aJ):eg W lJ (.str x) (.int j) (.str (x.drop j)) H H:=λ{y A s y y y R} K hu hx c=>
 hx.b7 (P:=λcx=>cU W A {s with heap:=s.heap.push (lJ cx)} _ (getItem _ (.ref s.heap.objs.size)) R) λt=>hu.gR (P:=λcu=>cU W A {s with heap:=s.heap.push (lJ (.int j t))} cu (getItem cu (.ref s.heap.objs.size)) R) λu=>
  str_slice (l:=F5 ((j:Int),t)) (r:=L3) K.N (cH _ _) z ⟨_,dv _ rfl,rfl,rfl⟩ (ZY ⟨x.toArray⟩ j) (λq=>N8 ((show(⟨x.toArray⟩:Str).length=x.length from bQ ..)▸q)) (by rw[qM];exact oj _ _) c
def eg.IY(hl:IsL H l u)(q:LR (l.take j) H v H'):eg W l5 u (.int j) v H H':=λ{y A s y y y R} K hu hx c=>
 hx.b7 (P:=λcx=>cU W A {s with heap:=s.heap.push (l5 cx)} _ (getItem _ (.ref s.heap.objs.size)) R) λt=>hl.at K.N hu (P:=λcu=>cU W A {s with heap:=s.heap.push (l5 (.int j t))} cu (getItem cu (.ref s.heap.objs.size)) R) λa xs x r z=>by
  have hI:=x.at λo e=>cH s.heap (l5 (.int j t)) a o e;refine⟨k5 hI,xt.lookup,Lg (s:={s with heap:=s.heap.push (l5 (.int j t))}) hI.is ⟨_,dv _ rfl,rfl,rfl⟩ .none (.int _ t) .none (by simp) ?_ (by rw[bQ,r.length];exact fR z)⟩
  rw[slicePick_upto',tA];exact mZ (s:=s) (tk:=s.toks) q K.N (r.take j) (by rw[yr];exact aA (qR _ _) z) (λb o e=>cH _ _ _ _ (cH _ _ b o e)) (rF (cH _ _)) .new c
def eg.VT(hl:IsL H l u)(q:LR (l.drop j) H v H'):eg W lJ u (.int j) v H H':=λ{y A s y y y R} K hu hx c=>
 hx.b7 (P:=λcx=>cU W A {s with heap:=s.heap.push (lJ cx)} _ (getItem _ (.ref s.heap.objs.size)) R) λt=>hl.at K.N hu (P:=λcu=>cU W A {s with heap:=s.heap.push (lJ (.int j t))} cu (getItem cu (.ref s.heap.objs.size)) R) λa xs x r z=>by
  have hI:=x.at λo e=>cH s.heap (lJ (.int j t)) a o e;refine⟨k5 hI,xt.lookup,Lg (s:={s with heap:=s.heap.push (lJ (.int j t))}) hI.is ⟨_,dv _ rfl,rfl,rfl⟩ (.int _ t) .none .none (by simp) ?_ (by rw[bQ,r.length];exact fR z)⟩
  rw[slicePick_from',tA];exact mZ (s:=s) (tk:=s.toks) q K.N (r.drop j) (by rw[qM];exact aA (oj _ _) z) (λb o e=>cH _ _ _ _ (cH _ _ b o e)) (rF (cH _ _)) .new c
def qY.lst(hl:IsL H l u)(hjk:j<=k)(hk:k<=l.length)(q:LR ((l.take k).drop j) H v H'):qY W u (.int j) (.int k) v H H':=λ{y A s y y y y R} K hu hx hy c=>
 hx.b7 (P:=λcx=>cU W A {s with heap:=s.heap.push (m5 cx _)} _ (getItem _ (.ref s.heap.objs.size)) R) λt=>hy.b7 (P:=λcy=>cU W A {s with heap:=s.heap.push (m5 (.int j t) cy)} _ (getItem _ (.ref s.heap.objs.size)) R) λt'=>hl.at K.N hu (P:=λcu=>cU W A {s with heap:=s.heap.push (m5 (.int j t) (.int k t'))} cu (getItem cu (.ref s.heap.objs.size)) R) λa xs x r z=>by
  have hI:=x.at λo e=>cH s.heap (m5 (.int j t) (.int k t')) a o e;refine⟨k5 hI,xt.lookup,Lg (s:={s with heap:=s.heap.push (m5 (.int j t) (.int k t'))}) hI.is ⟨_,dv _ rfl,rfl,rfl⟩ (.int _ t) (.int _ t') .none (by simp) ?_ (by rw[bQ,r.length];exact fR z)⟩
  rw[slicePick_run _ _ _ (by rw[bQ,r.length];exact hk) hjk,tA,<-List.drop_take]
  exact mZ (s:=s) (tk:=s.toks) q K.N ((r.take k).drop j) (by rw[qM,yr];exact aA (oj _ _) (aA (qR _ _) z)) (λb o e=>cH _ _ _ _ (cH _ _ b o e)) (rF (cH _ _)) .new c
def q1(vs:List V)(P:V->Prop):Prop:=match vs with
 | [u]=>P u|_=>False
def q2(vs:List V)(P:V->V->Prop):Prop:=match vs with
 | [u,x]=>P u x|_=>False
def q3(vs:List V)(P:V->V->V->Prop):Prop:=match vs with
 | [u,x,y]=>P u x y|_=>False
inductive zJ(W:Wd)(u x:V)(H:AH)(v:V):AH->Prop
 |mk (p:eO W u x H v):zJ W u x H v H
inductive yT(a:Nat)(u:V)(H:AH)(v:V):AH->Prop
 |mk (p:sX a H u v):yT a u H v H
def Prim(W:Wd)(o:Op)(vs:List V)(H:AH)(v:V)(H':AH):Prop:=match o with
 | .tup=>zK vs H v H'| .lst=>aw (vs.length<=aJ) (LR vs H v H')| .f5=>DR H v H'| .oE=>P0 W H v H' (call (.type "set") [])| .sub=>q2 vs λu x=>zJ W u x H v H'| .jv=>q2 vs λu x=>eg W l5 u x v H H'| .iS=>q2 vs λu x=>eg W lJ u x v H H'| .cut=>q3 vs λu x y=>qY W u x y v H H'| .attr a=>q1 vs λu=>yT a u H v H'| .bin op=>q2 vs λu x=>P2 W u v x H H' (binaryOp op)| .cmp op=>q2 vs λu x=>P2 W u v x H H' (compareOp op)| .mm=>q1 vs λu=>zB u H v H'| .fY=>q1 vs λu=>zA u H v H'| .e5 l=>q1 vs λu=>ym l H u v H'| .f1 f=>q1 vs λu=>P1 W u v H H' (λa=>call f.fv [a])| .listRev=>q1 vs λu=>tJ W u v H H'
def Fn(W:Wd)(n:Nat)(f:Nat)(vs:List V)(H:AH)(Q:V->AH->Prop):Prop:=∀{a:lb},W.mV f=F5 a->∀{A:Around} {s:R5} {μ:Mu} {cvs:List G7} {R:G7->R5->Prop},Ok W n A μ H s->aM μ s.heap vs cvs->
 (∀{v:V} {H':AH},Q v H'->Kc W μ s H' v R)->codeAny (model W.prog W.w) A (.call (.ref a) ⟨cvs,[]⟩) (wants R F0) s
inductive Seq(P Q:V->AH->Prop):Prop
 |mk {v:V} {H:AH} (p:P v H) (q:Q v H)
inductive qV(W:Wd)(n c:Nat)(vs:List V)(H:AH)(Q:V->AH->Prop):Prop
 |mk {f:Nat} (h:W.T.init c=F5 f) (k:Fn W n f (.obj H.length::vs) (H++[.inst c []]) (λr H'=>aw (r=.none) (Q (.obj H.length) H')))
inductive nH(W:Wd)(m:Nat)(u:V)(H:AH)(P:Nat->Prop):Prop
 |mk {i c f:Nat} {fl:List (Nat×V)} (e:u=.obj i) (hc:H[i]?=F5 (.inst c fl)) (h:W.T.pQ c m=F5 f) (g:aR fl m=L3) (p:P f)
inductive oh(ws:List V)(H:AH)(Q:V->AH->Prop):Prop
 |mk {v:V} {H':AH} (r:LR ws H v H') (q:Q v H')
set_option genCtorIdx true in
inductive Kd where
 |tup|lst|dict (st:Nat)|aX (st:Nat)
inductive It:Kd->V->List V->AH->Prop
 |tup {l:List V} {H:AH}:It .tup (.tup l) l H|lst {u:V} {l:List V} {H:AH} (h:IsL H l u):It .lst u l H|dict {i st:Nat} {kvs:List (Atom×V)} {H:AH} (hc:H[i]?=F5 (.dict kvs st)):It (.dict st) (.obj i) (kvs.map λp=>cN p.1) H|aX {i st:Nat} {kvs:List (List Atom×V)} {H:AH} (hc:H[i]?=F5 (.aX kvs st)):It (.aX st) (.obj i) (kvs.map λp=>.tup (p.1.map cN)) H
inductive sr(src:V)(H:AH)(P:(AH->Prop)->List V->Prop):Prop
 |mk {k:Kd} {l:List V} (h:It k src l H) (p:P (It k src l) l)
def j0(C:AH->Prop)(el:aT->AH->(V->AH->Prop)->Prop)(x:Nat)(F:aT):List V->AH->(List V->AH->Prop)->Prop
 | [],H,Q=>aw (C H) (Q [] H)|v::r,H,Q=>aw (C H) (el (upd F x v) H λw H=>j0 C el x F r H λws H=>Q (w::ws) H)
inductive yl(v:V)(P:Nat->Prop):Prop
 |mk {k:Nat} (e:v=.int k) (z:k<=aJ) (p:P k)
def jL(k:Nat):List V:=(List.range k).map λ(i:Nat)=>V.int (i:Int)
mutual
noncomputable def a5(W:Wd)(n:Nat):IE->aT->AH->(V->AH->Prop)->Prop
 | .const v,_,H,Q=>Q v H| .var x,F,H,Q=>Sm (F x) λv=>Q v H| .op o es,F,H,Q=>j5 W n es F H λvs H=>Seq (Prim W o vs H) Q| .call f es,F,H,Q=>j5 W n es F H λvs H=>Fn W n f vs H Q| .ak e m es,F,H,Q=>a5 W n e F H λu H=>nH W m u H λf=>j5 W n es F H λvs H=>Fn W n f (u::vs) H Q| .bm m e es,F,H,Q=>a5 W n e F H λu H=>aw (Recv W m u H) (j5 W n es F H λvs H=>Seq (b9 W m (u::vs) H) Q)| .jD e a,F,H,Q=>a5 W n e F H λu H=>aw (ow W u H) (a5 W n a F H λx H=>Ex λH'=>aw (mK W u x H H') (Q .none H'))| .new c es,F,H,Q=>j5 W n es F H λvs H=>qV W n c vs H Q| .and a b,F,H,Q=>a5 W n a F H λv H=>Tq v H λt=>if t=F6 then a5 W n b F H Q else Q v H| .or a b,F,H,Q=>a5 W n a F H λv H=>Tq v H λt=>if t=F6 then Q v H else a5 W n b F H Q| .not a,F,H,Q=>a5 W n a F H λv H=>Tq v H λt=>Q (.bool (!t)) H| .ite c a b,F,H,Q=>a5 W n c F H λv H=>Tq v H λt=>if t=F6 then a5 W n a F H Q else a5 W n b F H Q| .comp e x it,F,H,Q=>a5 W n it F H λsrc H=>sr src H λC l=>aw (l.length<=aJ) (j0 C (λF H Q=>a5 W n e F H Q) x F l H λws H=>oh ws H Q)| .gL e x m,F,H,Q=>a5 W n m F H λv H=>yl v λk=>j0 (λy=>True) (λF H Q=>a5 W n e F H Q) x F (jL k) H λws H=>oh ws H Q
noncomputable def j5(W:Wd)(n:Nat):fC->aT->AH->(List V->AH->Prop)->Prop
 | .nil,_,H,Q=>Q [] H| .cons e es,F,H,Q=>a5 W n e F H λu H=>j5 W n es F H λus H=>Q (u::us) H
end
def Bw(k:aT->AH->Prop)(Q:Fl->aT->AH->Prop):Fl->aT->AH->Prop
 | .aK,F,H=>k F H|fl,F,H=>Q fl F H
def yH(k:aT->AH->Prop)(Q:Fl->aT->AH->Prop):Fl->aT->AH->Prop
 | .aK,F,H=>k F H| .cnt,F,H=>k F H| .brk,F,H=>Q .aK F H| .ret v,F,H=>Q (.ret v) F H
def tK(c:aT->AH->(V->AH->Prop)->Prop)(b:aT->AH->(Fl->aT->AH->Prop)->Prop):Nat->aT->AH->(Fl->aT->AH->Prop)->Prop
 |0,_,_,_=>False|k+1,F,H,Q=>c F H λv H=>Tq v H λt=>if t=F6 then b F H (yH (λF H=>tK c b k F H Q) Q) else Q .aK F H
def lA(C:AH->Prop)(x:Nat)(b:aT->AH->(Fl->aT->AH->Prop)->Prop):List V->aT->AH->(Fl->aT->AH->Prop)->Prop
 | [],F,H,Q=>aw (C H) (Q .aK F H)|v::r,F,H,Q=>aw (C H) (b (upd F x v) H (yH (λF H=>lA C x b r F H Q) Q))
inductive nA(op:Operator)(u:V)(H:AH)(w:V)(Q:V->AH->Prop):Prop
 |add {a b:Int} (o:op=.Add) (e:u=.int a) (e':w=.int b) (q:Q (.int (a+b)) H)|sub {a b:Int} (o:op=.Sub) (e:u=.int a) (e':w=.int b) (q:Q (.int (a-b)) H)|lst {i:Nat} {l l':List V} (o:op=.Add) (e:u=.obj i) (hc:H[i]?=F5 (.lst l)) (hl:IsL H l' w) (z:l.length+l'.length<=aJ) (q:Q (.obj i) (H.set i (.lst (l++l'))))
mutual
noncomputable def ya(W:Wd)(n:Nat):IS->aT->AH->(Fl->aT->AH->Prop)->Prop
 | .asg x e,F,H,Q=>a5 W n e F H λv H=>Q .aK (upd F x v) H| .gf xs e,F,H,Q=>a5 W n e F H λv H=>Ex λl=>aw (v=.tup l) (aw (l.length=xs.length) (Q .aK (iu F xs l) H))| .swap x y a b,F,H,Q=>a5 W n a F H λu H=>a5 W n b F H λw H=>Q .aK (upd (upd F y w) x u) H| .cB a i e,F,H,Q=>a5 W n e F H λv H=>a5 W n a F H λu H=>a5 W n i F H λx H=>Ex λH'=>aw (hO W u x v H H') (Q .aK F H')| .setAttr o a e,F,H,Q=>a5 W n e F H λv H=>a5 W n o F H λu H=>Ex λH'=>aw (i7 a H v u H') (Q .aK F H')| .aug x op e,F,H,Q=>Sm (F x) λu=>a5 W n e F H λw H=>nA op u H w λv H=>Q .aK (upd F x v) H| .lI t a op e,F,H,Q=>a5 W n t F H λu H=>Ex λv=>aw (sX a H u v) (a5 W n e F H λw H=>nA op v H w λr H=>aw (∀i,v≠.obj i) (Ex λH'=>aw (i7 a H r u H') (Q .aK F H')))| .expr e,F,H,Q=>a5 W n e F H λz H=>Q .aK F H| .ite c a b,F,H,Q=>a5 W n c F H λv H=>Tq v H λt=>if t=F6 then d0 W n a F H Q else d0 W n b F H Q| .eU c b,F,H,Q=>Ex λk=>tK (a5 W n c) (λF H Q=>d0 W n b F H Q) k F H Q| .forIn x e b,F,H,Q=>a5 W n e F H λv H=>sr v H λC l=>lA C x (λF H Q=>d0 W n b F H Q) l F H Q| .forR x m b,F,H,Q=>a5 W n m F H λv H=>yl v λk=>lA (λz=>True) x (λF H Q=>d0 W n b F H Q) (jL k) F H Q| .ret e,F,H,Q=>a5 W n e F H λv H=>Q (.ret v) F H| .cont,F,H,Q=>Q .cnt F H| .pass,F,H,Q=>Q .aK F H
noncomputable def d0(W:Wd)(n:Nat):aL->aT->AH->(Fl->aT->AH->Prop)->Prop
 | .nil,F,H,Q=>Q .aK F H| .cons s ss,F,H,Q=>ya W n s F H (Bw (λF H=>d0 W n ss F H Q) Q)
end
structure Rb(A:Around)(n:Nat):Prop where
 u:A.units+20*n+1310<cLine
 d:A.depth+3*n+4<recursionLimit
 hd:A.handled=L3
def Rb.rm(R:Rb A n):Rm A n:=⟨bp (dC ⋯ _) R.u,bp (dC ⋯ _) R.d,R.hd⟩
def Rb.made(R:Rb A n)(C:lb)(vals:List G7):Rm (A.under (.builtin "type.__call__" ⟨.ref C::vals,[]⟩)) n:=
 ⟨bp (show A.units+1+20*n+1300<=A.units+20*n+1310 by rw[iy A.units 1];exact dC (show 1301<=1310 by decide) (A.units+20*n)) R.u,bp (show A.depth+1+3*n+2<=A.depth+3*n+4 by rw[iy A.depth 1];exact dC (show 3<=4 by decide) (A.depth+3*n)) R.d,R.hd⟩
structure gU(sc:Scope)(env:Env):Prop where
 kind:env.scope.kind=.function
 g:env.globals=mainGlobals
 b:env.builtins=builtinsNs
 loc:∀x,sc.names.lookup x=F5 .local->env.kindOf x=F5 .local
 cell:∀x,sc.names.lookup x=F5 .cell->env.kindOf x=F5 .cell
 free:∀x,sc.names.lookup x=F5 .free->env.kindOf x=F5 .cell\/env.kindOf x=F5 .free
 glob:∀x,sc.names.lookup x=F5 .globalImplicit->env.kindOf x=F5 .globalImplicit
 cells:∀x,sc.names.lookup x=F5 .cell\/sc.names.lookup x=F5 .free->∃c,env.cells.lookup x=F5 c
inductive sm(μ:Mu)(h:Heap)(m:Str->Option G7)(nm:Str)(v:V):Prop
 |mk {cv:G7} (e:m nm=F5 cv) (r:VR μ h v cv)
inductive sj(μ:Mu)(h:Heap)(env:Env)(cm:Str->Option G7)(nm:Str)(v:V):Prop
 |mk {c:lb} {cv:G7} (l:env.cells.lookup nm=F5 c) (e:cm nm=F5 cv) (r:VR μ h v cv)
structure Lo(W:Wd)(μ:Mu)(h:Heap)(env:Env)(cm:Str->Option G7)(n:Str)(c:lb):Prop where
 is:h.IsCell c (cm n)
 out:c∉foot μ
 old:W.h₀.get? c=L3
 ne:c≠env.locals
structure FO(W:Wd)(μ:Mu)(F:aT)(h:Heap)(env:Env)(m cm:Str->Option G7):Prop where
 ns:h.Ns env.locals m
 out:env.locals∉foot μ
 old:W.h₀.get? env.locals=L3
 cell:∀n c,env.cells.lookup n=F5 c->Lo W μ h env cm n c
 apart:∀n n' c,env.cells.lookup n=F5 c->env.cells.lookup n'=F5 c->n=n'
 loc:∀nm v,dX nm->F (aV nm)=F5 v->env.kindOf nm=F5 .local->sm μ h m nm v
 cq:∀nm v,dX nm->F (aV nm)=F5 v->env.kindOf nm=F5 .cell\/env.kindOf nm=F5 .free->sj μ h env cm nm v
inductive du(W:Wd)(μ:Mu)(F:aT)(h:Heap)(env:Env):Prop
 |mk {m cm:Str->Option G7} (fo:FO W μ F h env m cm)
def own(env:Env)(a:lb):Prop:=a=env.locals\/∃n,env.cells.lookup n=F5 a
variable{F':aT}{env:Env}{m cm:Str->Option G7}{sc:Scope}{x y:Str}{R:Unit->R5->Prop}
section
variable{F:aT}{nm:Str}
def sm.kp(x:sm μ h m nm v)(E:Kp μ h μ' h'):sm μ' h' m nm v:=x.casesOn λe r=>⟨e,r.kp E⟩
def sj.kp(x:sj μ h env cm nm v)(E:Kp μ h μ' h'):sj μ' h' env cm nm v:=x.casesOn λl e r=>⟨l,e,r.kp E⟩
def JJ(x:h.Ns a m)(k:∀o,h.get? a=F5 o->h'.get? a=F5 o):h'.Ns a m:=by obtain⟨o,es,ep,ho,r⟩:=x;exact⟨o,es,ep,k o ho,r⟩
def xS(x:h.Ns a m):∃o,h.get? a=F5 o/\∀xs n,o.data≠.seq xs n:=by
 obtain⟨o,es,ep,ho,hd,_⟩:=x;exact⟨o,ho,λxs n e=>by rw[hd] at e;cases e⟩
def Ew{c:lb}{v:Option G7}(x:h.IsCell c v)(k:∀o,h.get? c=F5 o->h'.get? c=F5 o):h'.IsCell c v:=x.elim λo ζ'=>ζ'.elim λho hd=>⟨o,k o ho,hd⟩
def zq{c:lb}{v:Option G7}(x:h.IsCell c v):∃o,h.get? c=F5 o/\∀xs n,o.data≠.seq xs n:=by
 obtain⟨o,ho,hd⟩:=x;exact⟨o,ho,λxs n e=>by rw[hd] at e;cases e⟩
def FO.JY(x:FO W μ F h env m cm)(ha:own env a):∃o,h.get? a=F5 o/\∀xs n,o.data≠.seq xs n:=
 ha.elim (λe=>e▸xS x.ns) λζ=>ζ.elim λn hn=>zq (x.cell n a hn).is
def FO.CG(x:FO W μ F h env m cm)(ha:own env a):a∉foot μ/\W.h₀.get? a=L3:=
 ha.elim (λe=>e▸⟨x.out,x.old⟩) λζ=>ζ.elim λn hn=>⟨(x.cell n a hn).out,(x.cell n a hn).old⟩
def FO.ml(x:FO W μ F h env m cm):iz (own env) h:=λa o ha ho=>let ⟨_,ho',q⟩:=x.JY ha;ay (ho'.symm.trans ho)▸q
def du.ml(x:du W μ F h env):iz (own env) h:=x.casesOn λy=>y.ml
def du.JX(x:du W μ F h env)(hI:h.get? I=L3):¬own env I:=λq=>x.casesOn λy=>(y.JY q).elim λz ζ'=>ζ'.elim λho z=>ai (hI.symm.trans ho)
def FO.to(x:FO W μ F h env m cm)(E:Kp μ h μ' h')(k:∀a o,own env a->h.get? a=F5 o->h'.get? a=F5 o):FO W μ' F h' env m cm where
 ns:=JJ x.ns λo=>k _ o (.inl rfl)
 out:=(xS x.ns).elim λy ζ'=>ζ'.elim λho y=>E.nf x.out ho
 old:=x.old
 cell:=λn c hc=>have q:=x.cell n c hc;(zq q.is).elim λy ζ'=>ζ'.elim λho y=>⟨Ew q.is λo=>k _ o (.inr ⟨n,hc⟩),E.nf q.out ho,q.old,q.ne⟩
 apart:=x.apart
 loc:=λnm v hn e k=>(x.loc nm v hn e k).kp E
 cq:=λnm v hn e k=>(x.cq nm v hn e k).kp E
def du.to(x:du W μ F h env)(E:Kp μ h μ' h')(k:∀a o,own env a->h.get? a=F5 o->h'.get? a=F5 o):du W μ' F h' env:=x.casesOn λy=>⟨y.to E k⟩
def du.ext(x:du W μ F h env)(E:Ext μ h μ' h'):du W μ' F h' env:=x.casesOn λy=>⟨y.to (E.kp .none) λa o q e=>E.keep a o e (y.CG q).1 id⟩
structure Fr(W:Wd)(n:Nat)(sc:Scope)(env:Env)(A:Around)(μ:Mu)(H:AH)(F:aT)(s:R5):Prop where
 wk:kN W
 eo:gU sc env
 rb:Rb A n
 N:aY W μ H s.heap
 fo:du W μ F s.heap env
def Fr.ok(K:Fr W n sc env A μ H F s):Ok W n A μ H s:=⟨K.wk,K.rb.rm,K.N⟩
def Fr.nx(K:Fr W n sc env A μ H F s)(X:bR W μ s H' μ' s'):Fr W n sc env A μ' H' F s':=⟨K.wk,K.eo,K.rb,X.N,K.fo.ext X.E⟩
structure ve(W:Wd)(X:lb->Prop)(env:Env)(μ:Mu)(s:R5)(F':aT)(H':AH)(μ':Mu)(s':R5):Prop where
 g:s'.gens=s.gens
 o:s'.os=s.os
 E:br X μ s.heap μ' s'.heap
 N:aY W μ' H' s'.heap
 fo:du W μ' F' s'.heap env
abbrev gH(W:Wd)(env:Env):=ve W (own env) env
def Fr.sx(K:Fr W n sc env A μ H F s)(X:bR W μ s H' μ' s'):gH W env μ s F H' μ' s':=⟨X.g,X.o,X.E.any,X.N,K.fo.ext X.E⟩
def Fr.s0(K:Fr W n sc env A μ H F s){tk:Nat}:gH W env μ s F H μ {s with toks:=tk}:=⟨rfl,rfl,.refl,K.N,K.fo⟩
def Fr.rp(K:Fr W n sc env A μ H F s)(X:gH W env μ s F' H' μ' s'):Fr W n sc env A μ' H' F' s':=⟨K.wk,K.eo,K.rb,X.N,X.fo⟩
def gH.trans{F'':aT}(x:gH W env μ s F' H' μ' s')(y:gH W env μ' s' F'' H'' μ'' s''):gH W env μ s F'' H'' μ'' s'':=⟨y.g.trans x.g,y.o.trans x.o,x.E.trans y.E,y.N,y.fo⟩
def JZ(x:FO W μ F h env m cm)(N:aY W μ H h){b:lb}(hb:own env b)(hs:Heap.SameBut b h h')(hl:∃o,h'.get? b=F5 o):br (·=b) μ h μ h'/\Kp μ h μ h'/\aY W μ H h':=
 have nf:=x.CG hb;have k:=mz hs;have E:br (·=b) μ h μ h':=.one nf.1 rfl k hl;have kp:=E.kp λa o e=>x.ml a o (e▸hb)
 ⟨E,kp,N.to kp (λa o m e=>k a o (λq=>nf.1 (q▸m)) e) λa o e0 e=>k a o (λq=>ai (nf.2.symm.trans (q▸e0))) e⟩
def sS(hok:dX x)(hn:dX nm)(e:upd F (aV x) v (aV nm)=F5 u):(nm=x/\u=v)\/(nm≠x/\F (aV nm)=F5 u):=by
 unfold upd at e;split at e
 .rename_i q;exact .inl ⟨wB hn hok q,(ay e).symm⟩
 .rename_i q;exact .inr ⟨λr=>q (r▸rfl),e⟩
def xk(m:Str->Option G7)(x:Str)(cv:G7):Str->Option G7:=λy=>if y=x then F5 cv else m y
def CN:xk m x cv x=F5 cv:=aI rfl
def CO(h:y≠x):xk m x cv y=m y:=aD h
set_option tactic.hygienic true in
def Ks(fo:du W μ F s.heap env)(N:aY W μ H s.heap)(eo:gU sc env)(hx:sc.names.lookup x=F5 .local)(hok:dX x)(hv:VR μ s.heap v cv)
  (k:∀{s'},ve W (·=env.locals) env μ s (upd F (aV x) v) H μ s'->R () s'):wpAny M A (storeName env x cv) R E s:=by
 obtain⟨fo⟩:=fo;rename_i m cm;have kl:=eo.loc x hx;refine wpAny_storeName_local kl fo.ns (λh' hn hs=>?_) (by rw[eo.kind];rfl)
 obtain⟨o,ho,_⟩:=xS hn;obtain⟨E',kp,N'⟩:=JZ fo N (b:=env.locals) (.inl rfl) hs ⟨o,ho⟩;refine k ⟨rfl,rfl,E',N',⟨(⟨hn,fo.out,fo.old,λn c hc=>?_,fo.apart,λnm u hnm e kk=>?_,λnm u hnm e kk=>?_⟩:FO W μ _ h' env (xk m x cv) cm)⟩⟩
 .have q:=fo.cell n c hc;exact⟨Ew q.is λo e=>mz hs c o q.ne e,q.out,q.old,q.ne⟩
 .rcases sS hok hnm e with ⟨h1,h2⟩|⟨hne,e⟩
  .exact⟨h1▸CN,h2▸hv.kp kp⟩
  .obtain⟨e1,r⟩:=fo.loc nm u hnm e kk;exact⟨(CO hne).trans e1,r.kp kp⟩
 .rcases sS hok hnm e with ⟨h1,_⟩|⟨_,e⟩
  .rw[h1,kl] at kk;rcases kk with kk|kk<;>cases kk
  .exact(fo.cq nm u hnm e kk).kp kp
def ve.own(x:ve W X env μ s F' H' μ' s')(h:∀a,X a->Mine.own env a):gH W env μ s F' H' μ' s':=⟨x.g,x.o,x.E.weaken h,x.N,x.fo⟩
set_option tactic.hygienic true in
def pj(fo:du W μ F s.heap env)(N:aY W μ H s.heap)(eo:gU sc env)(hx:sc.names.lookup x=F5 .local\/sc.names.lookup x=F5 .cell)(hok:dX x)(hv:VR μ s.heap v cv)
  (k:∀{s'},gH W env μ s (upd F (aV x) v) H μ s'->R () s'):wpAny M A (storeName env x cv) R E s:=by
 rcases hx with hx|hx
 .exact Ks fo N eo hx hok hv λX=>k (X.own λa e=>.inl e)
 .obtain⟨fo⟩:=fo;rename_i m cm;have kc:=eo.cell x hx;obtain⟨c,hc⟩:=eo.cells x (.inl hx);have q:=fo.cell x c hc;refine wpAny_storeName_cell eo.kind kc hc q.is λh' hc' hs=>?_;obtain⟨o,ho,_⟩:=zq hc';obtain⟨E',kp,N'⟩:=JZ fo N (b:=c) (.inr ⟨x,hc⟩) hs ⟨o,ho⟩;refine k ⟨rfl,rfl,E'.weaken (λa e=>.inr ⟨x,(show a=c from e)▸hc⟩),N',⟨(⟨fo.ns.sameBut hs (kE q.ne),fo.out,fo.old,λn c' hc''=>?_,fo.apart,λnm u hnm e kk=>?_,λnm u hnm e kk=>?_⟩:FO W μ _ h' env m (xk cm x cv))⟩⟩
  .have r:=fo.cell n c' hc'';refine⟨?_,r.out,r.old,r.ne⟩;by_cases hn:n=x
   .rw[hn] at hc'' ⊢;rw[CN,<-ay (hc.symm.trans hc'')];exact hc'
   .rw[CO hn];exact r.is.sameBut hs λe=>hn (fo.apart _ _ _ hc'' (e▸hc))
  .rcases sS hok hnm e with ⟨h1,_⟩|⟨_,e⟩
   .rw[h1,kc] at kk;cases kk
   .exact(fo.loc nm u hnm e kk).kp kp
  .rcases sS hok hnm e with ⟨h1,h2⟩|⟨hne,e⟩
   .exact⟨h1▸hc,h1▸CN,h2▸hv.kp kp⟩
   .obtain⟨l,e1,r⟩:=fo.cq nm u hnm e kk;exact⟨l,(CO hne).trans e1,r.kp kp⟩
def isVar(sc:Scope)(x:Str):Bool:=match sc.names.lookup x with
 |some .local|some .cell|some .free=>F6|_=>L0
def eG(sc:Scope)(x:Str):Bool:=match sc.names.lookup x with
 |some .local|some .cell=>F6|_=>L0
def cO(x:Str):Bool:=x.cps.toList.all λc=>decide (c<256/\c≠46)
def ip(h:cO x=F6):dX x:=λc hc=>dG (d7.mp h c hc)
def pF(h:eG sc x=F6):sc.names.lookup x=F5 .local\/sc.names.lookup x=F5 .cell:=by
 unfold eG at h;generalize sc.names.lookup x=o at h
 cases o with
 |none=>cases h|some k=>cases k<;>first|exact .inl rfl|exact .inr rfl|cases h
def Rg(h:isVar sc x=F6):sc.names.lookup x=F5 .local\/sc.names.lookup x=F5 .cell\/sc.names.lookup x=F5 .free:=by
 unfold isVar at h;generalize sc.names.lookup x=o at h
 cases o with
 |none=>cases h|some k=>cases k<;>first|exact .inl rfl|exact .inr (.inl rfl)|exact .inr (.inr rfl)|cases h
def IP(fo:du W μ F s.heap env)(eo:gU sc env)(hx:isVar sc x=F6)(ho:dX x)(hc:(x == ("__classdict__":Str))=L0)(e:F (aV x)=F5 v)
  {M:Model} (h:∀cv,VR μ s.heap v cv->Q cv s):wpAny M A (loadName env x) Q E s:=by
 obtain⟨fo⟩:=fo;have cell:env.kindOf x=F5 .cell\/env.kindOf x=F5 .free->wpAny M A (loadName env x) Q E s:=λk=>by
  obtain⟨l,e1,r⟩:=fo.cq x v ho e k;have hcell:=(fo.cell x _ l).is;rw[e1] at hcell;exact k.elim (λk=>wpAny_loadName_cell eo.kind k l hcell (h _ r)) λk=>wpAny_loadName_free eo.kind k l hcell (h _ r) hc
 rcases Rg hx with k|k|k
 .obtain⟨e1,r⟩:=fo.loc x v ho e (eo.loc x k);exact wpAny_loadName_local eo.kind (eo.loc x k) fo.ns e1 (h _ r)
 .exact cell (.inl (eo.cell x k))
 .exact cell (eo.free x k)
end
def KE(W:Wd)(μ:Mu)(s:R5)(Q:V->AH->Prop)(R:G7->R5->Prop):Prop:=∀{v:V} {H':AH} {μ':Mu} {cv:G7} {s':R5},Q v H'->bR W μ s H' μ' s'->VR μ' s'.heap v cv->R cv s'
def KL(W:Wd)(μ:Mu)(s:R5)(Q:List V->AH->Prop)(R:List G7->R5->Prop):Prop:=∀{vs:List V} {H':AH} {μ':Mu} {cvs:List G7} {s':R5},Q vs H'->bR W μ s H' μ' s'->aM μ' s'.heap vs cvs->R cvs s'
def KT(W:Wd)(μ:Mu)(s:R5)(Q:V->Bool->AH->Prop)(R:Bool->R5->Prop):Prop:=∀{v:V} {t:Bool} {H':AH} {μ':Mu} {s':R5},Q v t H'->jZ H' t v->bR W μ s H' μ' s'->R t s'
def SE(W:Wd)(n:Nat)(sc:Scope)(e:IE)(x:l4):Prop:=∀{F:aT} {H:AH} {Q:V->AH->Prop} {env:Env} {A:Around} {s:R5} {μ:Mu} {R:G7->R5->Prop},a5 W n e F H Q->Fr W n sc env A μ H F s->KE W μ s Q R->Wp W A (eval x env) R s
def ST(W:Wd)(n:Nat)(sc:Scope)(e:IE)(x:l4):Prop:=∀{F:aT} {H:AH} {Q:V->Bool->AH->Prop} {env:Env} {A:Around} {s:R5} {μ:Mu} {R:Bool->R5->Prop},a5 W n e F H (λv H=>Tq v H λt=>Q v t H)->Fr W n sc env A μ H F s->KT W μ s Q R->Wp W A (isTrue x env (eval x env)) R s
def noStar(x:l4):Bool:=x.ctorIdx != 22
inductive gY(W:Wd)(n:Nat)(sc:Scope):fC->List l4->Prop
 |nil:gY W n sc .nil []|cons {ie:IE} {ies:fC} {x:l4} {xs:List l4}:SE W n sc ie x->noStar x=F6->gY W n sc ies xs->gY W n sc (.cons ie ies) (x::xs)
abbrev fC.two(a b:IE):fC:=.cons a (.cons b .nil)
abbrev fC.one(a:IE):fC:=.cons a .nil
variable{Q:V->AH->Prop}{o:Op}{a b e:IE}{x xa xb:l4}{es:fC}{xs rest:List l4}{t:Bool}{i:Int}{pos p:Pos}{u:G7}{op:CmpOp}
section
variable{F:aT}{R:G7->R5->Prop}
def KE.kc(k:KE W μ s Q R)(q:Q v H'):Kc W μ s H' v R:=λY r=>k q Y r
def uU(e:a5 W n (.op o (.one a)) F H Q):a5 W n a F H λu H=>Seq (Prim W o [u] H) Q:=e
def r0(e:a5 W n (.op o (.two a b)) F H Q):a5 W n a F H λu H=>a5 W n b F H λx H=>Seq (Prim W o [u,x] H) Q:=e
def Wy{c:IE}(e:a5 W n (.op o (.cons a (.two b c))) F H Q):a5 W n a F H λu H=>a5 W n b F H λx H=>a5 W n c F H λy H=>Seq (Prim W o [u,x,y] H) Q:=e
def k4(h:noStar x=F6)(xs:List l4)(env:Env):starEach (x::xs) env=(L0,eval x env)::starEach xs env:=by
 cases x<;>first|rfl|cases h
theorem uo:∀{xs:List l4},xs.all noStar=F6->∀(env:Env) (pos:Pos),(backTo pos (starEach xs env)).any (·.1)=L0
 | []=>λy y y=>rfl|x::xs=>λh env pos=>by
  rw[su,d5] at h;rw[k4 h.1];exact uo h.2 env pos
def gY.xw(h:gY W n sc es xs):xs.all noStar=F6:=by
 induction h with
 |nil=>rfl|cons h1 h2 _ ih=>rw[su,h2,ih];rfl
def gY.all(h:gY W n sc es xs):∀{F:aT} {H:AH} {Q:List V->AH->Prop} {env:Env} {A:Around} {s:R5} {μ:Mu} {R:List G7->R5->Prop} {pos:Pos},j5 W n es F H Q->Fr W n sc env A μ H F s->KL W μ s Q R->Wp W A (spliced (backTo pos (starEach xs env))) R s:=by
 induction h with
 |nil=>exact λe K k=>tQ (k e (bR.refl K.N) .nil)|cons h1 h2 _ ih=>exact λe K k=>qj (h1 e K λe1 X hu=>ih e1 (K.nx X) λq Y hs=>k q (X.trans Y) (.cons (Y.up hu) hs)) (k4 h2 _ _)
def jZ.uniq{u:Bool}(x:jZ H t v)(y:jZ H u v):t=u:=by
 cases x with
 |none e=>cases y with|none e'=>exact e.symm.trans e'
 |bool e=>cases y with|bool e'=>exact e.symm.trans e'
 |int e=>cases y with|int e'=>exact e.symm.trans e'
 |lst hc e=>cases y with|lst hc' e'=>exact(e.symm.trans (aF (λl:List V=>!l.isEmpty) (Cell.lst.inj (ay (hc.symm.trans hc'))))).trans e'
def OB{xs:List G7}(h:xs.length=l.length):(!xs.toArray.isEmpty)=!l.isEmpty:=by
 cases l with
 |nil=>rw[nE.mp h];rfl|cons=>cases xs with
  |nil=>cases h|cons=>rfl
def uz(N:aY W μ H s.heap)(hv:VR μ s.heap v cv)(e:jZ H t v){R:Bool->R5->Prop}(k:∀tk,R t {s with toks:=tk}):Wp W A (truthy cv) R s:=by
 cases e with
 |none e=>exact hv.sQ (P:=λc=>Wp W A (truthy c) R s) (aj (e▸k s.toks))|bool e=>exact hv.p0 (P:=λc=>Wp W A (truthy c) R s) (wpAny_truthy_bool (e▸k s.toks))|int e=>exact hv.b7 (P:=λc=>Wp W A (truthy c) R s) λu=>PyProof.Rows.truthy_int (e▸k s.toks)|lst hc e=>exact ij N hc hv (P:=λc=>Wp W A (truthy c) R s) λy y y x r z=>wpAny_truthy_list x.is (by rw[bQ,r.length];exact m6 z) (OB r.length▸e▸k _)
def ST.plain(h:SE W n sc e x)(he:∀env,isTrue x env (eval x env)=(do let v <-eval x env;standAt x.pos;holding [v] (truthy v))):ST W n sc e x:=λ{y y y env y y y y} e K k=>
 PyProof.Rows.isTrue_plain (h e K λq X r=>q.casesOn λt p=>uz X.N r t λtk=>k p t ⟨X.g,X.o,X.E,X.N⟩) (he env)
def SE.int:SE W n sc (.const (.int i)) (.Constant (.int i) k pos):=λe K k=>wpAny_Constant_int (k e (.refl K.N) .f7)
def SE.str{x:Str}:SE W n sc (.const (.str x.cps.toList)) (.Constant (.str x) k pos):=λ{y y y env A s y R} e K k=>(wpAny_mkText (k e (.refl K.N) (.xV (i:=x.cps.toList))):Wp W A (mkText x) R s)
def SE.bool{x:Bool}:SE W n sc (.const (.bool x)) (.Constant (.bool x) k pos):=λ{y y y env A s y R} e K k=>(aj (k e (.refl (tk:=s.toks) K.N) .uR):Wp W A (pure (Value.bool x)) R s)
def SE.WN:SE W n sc (.const .none) (.Constant .none k pos):=λ{y y y env A s y R} e K k=>(aj (k e (.refl (tk:=s.toks) K.N) .of_none):Wp W A (pure Value.none) R s)
def SE.neg:SE W n sc (.const (.int (-i))) (.UnaryOp .USub (.Constant (.int i) k p) pos):=λ{y y y env A s y R} e K k'=>
 (aG (wpAny_Constant_int (aG (eZ (fB (PyProof.Rows.neg_int (k' e (.refl K.N) .f7)))))):Wp W A (do let v <-eval (.Constant (.int i) k p) env;standAt pos;holding [v] (unaryOp .USub v)) R s)
def SE.var{x:Str}(hx:isVar sc x=F6)(ho:cO x=F6)(hc:(x == ("__classdict__":Str))=L0)(hd:(x == ("__debug__":Str))=L0):SE W n sc (.var (aV x)) (.Name x pos):=λ{y y y y y s y y} e K k=>
 let ⟨h,q⟩:=e;wpAny_Name (IP K.fo K.eo hx (ip ho) hc h λy r=>k q (.refl (tk:=s.toks) K.N) r) hd
def SE.QX{x:Str}(hx:sc.names.lookup x=F5 .globalImplicit)(hi:W.lM x=F5 i)(hd:(x == ("__debug__":Str))=L0):SE W n sc (.const (.int i)) (.Name x pos):=λ{y y y y y s y y} e K k=>by
 obtain⟨t,ht⟩:=K.wk.int x i hi;exact Dq K.eo.kind (K.eo.glob x hx) (loadGlobal_global (mg:=W.mg) (K.eo.g▸K.wk.g.keeps K.N.base) ht (k e (.refl (tk:=s.toks) K.N) .f7)) hd
def name_fn(K:Fr W n sc env A μ H F s){x:Str}(hx:sc.names.lookup x=F5 .globalImplicit)(hu:W.mg x=F5 u)(hd:(x == ("__debug__":Str))=L0)(h:R u s):Wp W A (eval (.Name x pos) env) R s:=
 Dq K.eo.kind (K.eo.glob x hx) (loadGlobal_global (mg:=W.mg) (K.eo.g▸K.wk.g.keeps K.N.base) hu h) hd
def rV(K:Fr W n sc env A μ H F s){x:Str}(hx:sc.names.lookup x=F5 .globalImplicit)(hm:x∈W.fI)(hu:bootBuiltins x=F5 u)(hd:(x == ("__debug__":Str))=L0)(h:R u s):Wp W A (eval (.Name x pos) env) R s:=
 Dq K.eo.kind (K.eo.glob x hx) (loadGlobal_builtin (mg:=W.mg) (mb:=W.mb) (K.eo.g▸K.wk.g.keeps K.N.base) (K.wk.free x hm).1 (K.eo.b▸K.wk.b.keeps K.N.base) ((K.wk.blt x (K.wk.free x hm).2).trans hu) h) hd
def SE.both(ha:SE W n sc a xa)(hb:SE W n sc b xb){Q:V->V->AH->Prop}(e:a5 W n a F H λu H=>a5 W n b F H λx H=>Q u x H)(K:Fr W n sc env A μ H F s){P:G7->G7->R5->Prop}
  (k:∀{u x:V} {H':AH} {μ':Mu} {ca cb:G7} {s':R5},Q u x H'->bR W μ s H' μ' s'->VR μ' s'.heap u ca->VR μ' s'.heap x cb->P ca cb s'):Wp W A (eval xa env) (λca s₁=>Wp W A (eval xb env) (λcb s₂=>P ca cb s₂) s₁) s:=
 ha e K λe1 X hu=>hb e1 (K.nx X) λq Y hx=>k q (X.trans Y) (Y.up hu) hx
def SE.bin{op:Operator}(ha:SE W n sc a xa)(hb:SE W n sc b xb):SE W n sc (.op (.bin op) (.two a b)) (.BinOp xa op xb pos):=λe K k=>
 wpAny_BinOp (SE.both ha hb (r0 e) K λp X hu hx=>p.casesOn λp q=>p (K.nx X).ok hu hx λY r=>k q (X.trans Y) r)
def SE.cmp(ha:SE W n sc a xa)(hb:SE W n sc b xb)(hm:behindInMarks op xb=L0):SE W n sc (.op (.cmp op) (.two a b)) (.Compare xa [op] [xb] pos):=λe K k=>
 wpAny_Compare1 (SE.both ha hb (r0 e) K λp X hu hx=>p.casesOn λp q=>p (K.nx X).ok hu hx λY r=>k q (X.trans Y) r) hm
def LG{Q:V->Bool->AH->Prop}{R:Bool->R5->Prop}(X:bR W μ s H' μ' s')(r:VR μ' s'.heap v cv)(q:Tq v H' λt=>Q v t H')(k:KT W μ s Q R):Wp W A (truthy cv) R s':=q.casesOn λt p=>uz X.N r t λy=>k p t ⟨X.g,X.o,X.E,X.N⟩
def ST.cmp(ha:SE W n sc a xa)(hb:SE W n sc b xb)(hm:behindInMarks op xb=L0):ST W n sc (.op (.cmp op) (.two a b)) (.Compare xa [op] [xb] pos):=λe K k=>
 wpAny_isTrue_Compare1 (SE.both ha hb (r0 e) K λp X hu hx=>p.casesOn λp q=>p (K.nx X).ok hu hx λY r=>LG (X.trans Y) r q k) hm
def bR.tok{tk:Nat}(X:bR W μ s H' μ' s'):bR W μ s H' μ' {s' with toks:=tk}:=⟨X.g,X.o,X.E,X.N⟩
def SE.and(ha:SE W n sc a xa)(hb:SE W n sc b (.BoolOp .And (xb::rest) pos)):SE W n sc (.and a b) (.BoolOp .And (xa::xb::rest) pos):=λ{F H Q env A s μ R} e K k=>by
 show Wp W A (do
  let v <-eval xa env
  standAt pos
  let t <-holding [v] (truthy v)
  match BoolOp.And,t with
  | .And,L0| .Or,F6=>pure v|_,_=>boolOp pos .And (eval xb env::evalEach rest env)) R s
 refine aG (ha (Q:=λv H=>Tq v H λt=>if t=F6 then a5 W n b F H Q else Q v H) e K λ{v y y y y} q X r=>aG (eZ (aG (fB ?_))))
 obtain⟨h,p⟩:=q;refine uz X.N r h λtk=>?_;split at p
 .rename_i e1;subst e1;exact hb p (K.nx X.tok) λq Y r=>k q (X.tok.trans Y) r
 .rename_i e1;rw[jy.mpr e1];exact aj (k p X.tok r)
def SE.or(ha:SE W n sc a xa)(hb:SE W n sc b (.BoolOp .Or (xb::rest) pos)):SE W n sc (.or a b) (.BoolOp .Or (xa::xb::rest) pos):=λ{F H Q env A s μ R} e K k=>by
 show Wp W A (do
  let v <-eval xa env
  standAt pos
  let t <-holding [v] (truthy v)
  match BoolOp.Or,t with
  | .And,L0| .Or,F6=>pure v|_,_=>boolOp pos .Or (eval xb env::evalEach rest env)) R s
 refine aG (ha (Q:=λv H=>Tq v H λt=>if t=F6 then Q v H else a5 W n b F H Q) e K λ{v y y y y} q X r=>aG (eZ (aG (fB ?_))))
 obtain⟨h,p⟩:=q;refine uz X.N r h λtk=>?_;split at p
 .rename_i e1;rw[e1];exact aj (k p X.tok r)
 .rename_i e1;rw[jy.mpr e1];exact hb p (K.nx X.tok) λq Y r=>k q (X.tok.trans Y) r
def SE.last{op:BoolOp}(ha:SE W n sc a xa):SE W n sc a (.BoolOp op [xa] pos):=ha
def ST.and(ha:ST W n sc a xa)(hb:ST W n sc b (.BoolOp .And (xb::rest) pos)):ST W n sc (.and a b) (.BoolOp .And (xa::xb::rest) pos):=λ{F H Q env A s μ R} e K k=>by
 show Wp W A (do
  match BoolOp.And,<-isTrue xa env (eval xa env) with
  | .And,L0=>pure L0| .Or,F6=>pure F6|_,_=>allTrue .And (xb::rest) env) R s
 refine aG (ha (Q:=λv t H=>if t=F6 then a5 W n b F H λv H=>Tq v H λt=>Q v t H else Tq v H λt=>Q v t H) e K λ{v t y y y} q h X=>?_)
 cases t with
 |true=>exact hb (by rw[aI rfl] at q;exact q) (K.nx X) λq h Y=>k q h (X.trans Y)|false=>
  rw[aD az] at q;obtain⟨h',q⟩:=q;exact aj (k (jZ.uniq h' h▸q) h X)
def ST.or(ha:ST W n sc a xa)(hb:ST W n sc b (.BoolOp .Or (xb::rest) pos)):ST W n sc (.or a b) (.BoolOp .Or (xa::xb::rest) pos):=λ{F H Q env A s μ R} e K k=>by
 show Wp W A (do
  match BoolOp.Or,<-isTrue xa env (eval xa env) with
  | .And,L0=>pure L0| .Or,F6=>pure F6|_,_=>allTrue .Or (xb::rest) env) R s
 refine aG (ha (Q:=λv t H=>if t=F6 then Tq v H λt=>Q v t H else a5 W n b F H λv H=>Tq v H λt=>Q v t H) e K λ{v t y y y} q h X=>?_)
 cases t with
 |false=>exact hb (by rw[aD az] at q;exact q) (K.nx X) λq h Y=>k q h (X.trans Y)|true=>
  rw[aI rfl] at q;obtain⟨h',q⟩:=q;exact aj (k (jZ.uniq h' h▸q) h X)
def ST.Ud(ha:ST W n sc a xa):ST W n sc a (.BoolOp .And [xa] pos):=λ{F H Q env A s μ R} e K k=>by
 show Wp W A (do
  match BoolOp.And,<-isTrue xa env (eval xa env) with
  | .And,L0=>pure L0| .Or,F6=>pure F6|_,_=>allTrue .And [] env) R s
 refine aG (ha e K λ{v t y y y} q h X=>?_);cases t<;>exact aj (k q h X)
def ST.Ue(ha:ST W n sc a xa):ST W n sc a (.BoolOp .Or [xa] pos):=λ{F H Q env A s μ R} e K k=>by
 show Wp W A (do
  match BoolOp.Or,<-isTrue xa env (eval xa env) with
  | .And,L0=>pure L0| .Or,F6=>pure F6|_,_=>allTrue .Or [] env) R s
 refine aG (ha e K λ{v t y y y} q h X=>?_);cases t<;>exact aj (k q h X)
end
variable{R:G7->R5->Prop}{xc xi:l4}{i:IE}
section
variable{F:aT}
def ST.not(ha:ST W n sc a xa):ST W n sc (.not a) (.UnaryOp .Not xa pos):=λ{F H Q env A s μ R} e K k=>
 (aG (ha (Q:=λv t H=>Tq (.bool (!t)) H λt'=>Q (.bool (!t)) t' H) e K λq h X=>by
  obtain⟨h',p⟩:=q;exact aj (by cases h' with|bool e=>exact e▸k p (.bool e) X)):Wp W A (do return !(<-isTrue xa env (eval xa env))) R s)
def SE.not(ha:SE W n sc a xa):SE W n sc (.not a) (.UnaryOp .Not xa pos):=λ{F H Q env A s μ R} e K k=>
 (aG (ha (Q:=λv H=>Tq v H λt=>Q (.bool (!t)) H) e K λq X r=>aG (eZ (fB (q.casesOn λh p=>PyProof.Rows.not_of (uz X.N r h λy=>k p X.tok .uR))))):Wp W A (do let v <-eval xa env;standAt pos;holding [v] (unaryOp .Not v)) R s)
def SE.ite{c:IE}(hc:ST W n sc c xc)(ha:SE W n sc a xa)(hb:SE W n sc b xb):SE W n sc (.ite c a b) (.IfExp xc xa xb pos):=λ{F H Q env A s μ R} e K k=>
 (aG (hc (Q:=λy t H=>if t=F6 then a5 W n a F H Q else a5 W n b F H Q) e K λ{y t y y y} q y X=>by
  cases t with
  |true=>exact ha (by rw[aI rfl] at q;exact q) (K.nx X) λq Y r=>k q (X.trans Y) r|false=>exact hb (by rw[aD az] at q;exact q) (K.nx X) λq Y r=>k q (X.trans Y) r):Wp W A (do if <-isTrue xc env (eval xc env) then eval xa env else eval xb env) R s)
def SE.tup(h:gY W n sc es xs):SE W n sc (.op .tup es) (.Tuple xs k pos):=λ{F H Q env A s μ R} e K k=>
 (aG (eZ (aG (h.all (Q:=λvs H=>Seq (Prim W .tup vs H) Q) e K λp X r=>by
  obtain⟨p,q⟩:=p
  cases p with
  |mk z=>exact jw (Bp (tk:=_) X.N r z (cH _ _) (iC _) .new λY r=>k q (X.trans Y) r) (by show(List.toArray _).size<=sizeLine;rw[bQ,r.length];exact fR z)))):Wp W A (do standAt pos;newTuple (<-spliced (backTo pos (starEach xs env)))) R s)
def SE.lst(h:gY W n sc es xs):SE W n sc (.op .lst es) (.List xs pos):=λ{F H Q env A s μ R} e K k=>
 (aG (eZ (aG (h.all (Q:=λvs H=>Seq (Prim W .lst vs H) Q) e K λp X r=>by
  obtain⟨⟨z,p⟩,q⟩:=p;exact jw (mZ (tk:=_) p X.N r z (cH _ _) (iC _) .new λY r=>k q (X.trans Y) r) (by show(List.toArray _).size<=sizeLine;rw[bQ,r.length];exact fR z)))):Wp W A (do standAt pos;newList (<-spliced (backTo pos (starEach xs env)))) R s)
def SE.dict:SE W n sc (.op .f5 .nil) (.Dict [] [] pos):=λ{F H Q env A s μ R} e K k=>by
 obtain⟨p,q⟩:=(e:Seq (Prim W .f5 [] H) Q);rw[eval_Dict_empty];exact aG (eZ (jw (Vq p K.N λY r=>k q Y r) (by size_fits)))
def B6(x:l4):Bool:=x.ctorIdx != 26
def WX(h:B6 xi=F6)(o i:G7):subscripted xi L0 o i=operate [o,i] (getItem o i):=by
 cases xi<;>first|rfl|cases h
def cU.tail{g:G7×G7}{ops:List G7}{ca ci:G7}(x:cU W A s ca (getItem ca ci) R)(h:subscripted xi L0 ca ci=operate ops (getItem ca ci)):Wp W A (subscriptTail xa xi ca ci) R s:=x.casesOn λhT hl w=>tail_any hT hl w h
def SE.sub(ha:SE W n sc a xa)(hi:SE W n sc i xi)(hns:B6 xi=F6):SE W n sc (.op .sub (.two a i)) (.Subscript xa xi pos):=λe K k=>
 Subscript_ (SE.both ha hi (r0 e) K λ{y y y y ca cb y} p X hu hx=>by
  obtain⟨p,q⟩:=p
  cases p with
  |mk p=>exact(p (K.nx X).ok hu hx λY r=>k q (X.trans Y) r).tail (g:=(ca,cb)) (WX hns _ _))
def SE.attr{nm:Str}(ha:SE W n sc a xa)(hn:nm∈W.attrs)(he:∀env,attributeBase xa nm env (eval xa env)=eval xa env):SE W n sc (.op (.attr (aV nm)) (.one a)) (.Attribute xa nm pos):=λ{F H Q env A s μ R} e K k=>by
 show Wp W A (do
  let o <-attributeBase xa nm env (eval xa env)
  standAt pos.atName
  let r <-holding [o] (getAttr o nm F6)
  letTemporaryGo xa o r
  pure r) R s
 rw[he];refine aG (ha (uU e) K λp X hu=>aG (eZ (aG (fB ?_))));obtain⟨p,q⟩:=p
 cases p with
 |mk p=>exact Ea K.wk X.N hn hu p λY r=>aG (wpAny_letTemporaryGo (aj (k q (X.trans Y) r)))
def Ci{lo hi:Option l4}{Q:G7->R5->Prop}
  (h:wpAny M A (eval xa env) (λo s₁=>wpAny M A (evalPart lo env) (λl s₂=>wpAny M A (evalPart hi env) (λu s₃=>
   wpAny M A (subscriptTail xa (.Slice lo hi L3 p) o (.ref s₃.heap.objs.size)) Q E {s₃ with heap:=s₃.heap.push (m5 l u)}) E s₂) E s₁) E s):
  wpAny M A (eval (.Subscript xa (.Slice lo hi L3 p) pos) env) Q E s:=
 Subscript_ (m9 h (λo s₁ h₁=>wpAny_Slice (m9 h₁ (λl s₂ h₂=>m9 h₂ (λu s₃ h₃=>aj h₃) λy y e=>e) λy y e=>e)) λy y e=>e)
def SE.jv(ha:SE W n sc a xa)(hb:SE W n sc b xb):SE W n sc (.op .jv (.two a b)) (.Subscript xa (.Slice L3 (F5 xb) L3 p) pos):=λe K k=>
 Ci (ha (r0 e) K λe1 X hu=>aj (hb e1 (K.nx X) λp Y hx=>p.casesOn λp q=>(p ((K.nx X).nx Y).ok (Y.up hu) hx λZ r=>k q ((X.trans Y).trans Z) r).tail (g:=(.none,.none)) (ops:=[_,_]) rfl))
def SE.iS(ha:SE W n sc a xa)(hb:SE W n sc b xb):SE W n sc (.op .iS (.two a b)) (.Subscript xa (.Slice (F5 xb) L3 L3 p) pos):=λe K k=>
 Ci (ha (r0 e) K λe1 X hu=>hb e1 (K.nx X) λp Y hx=>aj (p.casesOn λp q=>(p ((K.nx X).nx Y).ok (Y.up hu) hx λZ r=>k q ((X.trans Y).trans Z) r).tail (g:=(.none,.none)) (ops:=[_,_]) rfl))
def SE.cut{d:IE}{xd:l4}(ha:SE W n sc a xa)(hb:SE W n sc b xb)(hd:SE W n sc d xd):SE W n sc (.op .cut (.cons a (.two b d))) (.Subscript xa (.Slice (F5 xb) (F5 xd) L3 p) pos):=λe K k=>
 Ci (ha (Wy e) K λe1 X hu=>hb e1 (K.nx X) λe2 Y hx=>hd e2 ((K.nx X).nx Y) λp Z hy=>p.casesOn λp q=>(p (((K.nx X).nx Y).nx Z).ok ((Y.trans Z).up hu) (Z.up hx) hy λU r=>k q (((X.trans Y).trans Z).trans U) r).tail (g:=(.none,.none)) (ops:=[_,_]) rfl)
end
inductive kI:List (List Nat)->List l4->Prop
 |nil:kI [] []|cons {x:Str} {k:Nat} {p:Pos} {l:List (List Nat)} {xs:List l4}:kI l xs->kI (x.cps.toList::l) (.Constant (.str x) k p::xs)
inductive lG:List (List Nat)->List G7->Prop
 |nil:lG [] []|cons {x:List Nat} {t:Tok} {l:List (List Nat)} {vs:List G7}:lG l vs->lG (x::l) (.str ⟨x.toArray⟩ t::vs)
def F1.nm:F1->Str
 | .len=>"len"| .sorted=>"sorted"| .list=>"list"| .tuple=>"tuple"| .str=>"str"
variable{u:V}{first cvs:List G7}{f:Nat}{p' pos':Pos}
section
variable{F:aT}
structure CE(W:Wd)(n:Nat)(sc:Scope)(e:IE)(x:l4):Prop where
 se:SE W n sc e x
 st:ST W n sc e x
def z0(ha:SE W n sc a xa)(hm:behindInMarks op xb=L0)
  (h:∀{env:Env} {A:Around} {s:R5} {μ:Mu} {H:AH} {F:aT} {u v:V} {H':AH} {ca:G7} {R:G7->R5->Prop},Fr W n sc env A μ H F s->VR μ s.heap u ca->Prim W o [u] H v H'->Kc W μ s H' v R->Wp W A (eval xb env) (λcb s₂=>Wp W A (compareOp op ca cb) R s₂) s):
  CE W n sc (.op o (.one a)) (.Compare xa [op] [xb] pos):=
 ⟨λe K k=>wpAny_Compare1 (ha (uU e) K λp X hu=>p.casesOn λp q=>h (K.nx X) hu p λY r=>k q (X.trans Y) r) hm,
  λe K k=>wpAny_isTrue_Compare1 (ha (uU e) K λp X hu=>p.casesOn λp q=>h (K.nx X) hu p λY r=>LG (X.trans Y) r q k) hm⟩
def WU(hu:VR μ h u cu):(!(cu == Value.none))=we u:=by
 cases u with
 |none=>exact hu.sQ (P:=λc=>(!(c == Value.none))=L0) rfl|bool=>exact hu.p0 (P:=λc=>(!(c == Value.none))=F6) rfl|int=>exact hu.b7 (P:=λc=>(!(c == Value.none))=F6) λy=>rfl|str=>exact hu.gR (P:=λc=>(!(c == Value.none))=F6) λy=>rfl|tup=>exact hu.gS (P:=λc=>(!(c == Value.none))=F6) λy y y y y y=>rfl|lst=>exact hu.sO (P:=λc=>(!(c == Value.none))=F6) λy y y y y y=>rfl|obj=>exact hu.p4 (P:=λc=>(!(c == Value.none))=F6) λy y=>rfl
def SE.mm(ha:SE W n sc a xa):CE W n sc (.op .mm (.one a)) (.Compare xa [.IsNot] [.Constant .none k p] pos):=
 z0 ha rfl λ{y y s y y y y y y ca R} K hu e c=>by
  cases e with
  |mk=>exact(aj (isNot_none (WU hu▸c.here (tk:=s.toks) K.N .uR)):Wp W _ (pure Value.none) (λcb s₂=>Wp W _ (compareOp .IsNot ca cb) R s₂) s)
def V6{a b:lb}{xs:List G7}(hx:s.heap.IsList a xs.toArray)(hy:s.heap.IsList b #[])(hu:A.units<cLine)(e:xs.length=l.length):RcNeAt A s (.ref a) (.ref b) (!l.isEmpty):=by
 cases l with
 |nil=>
  have h0:=nE.mp e;subst h0;exact RcNeAt.lists (e:=λy=>F6) hx hy rfl hu λj h1=>absurd h1 (tF j)
 |cons=>exact RcNeAt.lists_lengths hx hy (by rw[bQ,e];rfl) hu
def SE.fY(ha:SE W n sc a xa):CE W n sc (.op .fY (.one a)) (.Compare xa [.NotEq] [.List [] p] pos):=
 z0 ha rfl λ{y A s y y y y y y ca R} K hu e c=>by
  cases e with
  |mk hl=>
   refine(aG (eZ (aG (Calls.spliced_nil (jw ?_ (by size_fits))))):Wp W A (do standAt p;newList (<-spliced [])) (λcb s₂=>Wp W A (compareOp .NotEq ca cb) R s₂) s)
   have k:=cH s.heap {cls:=.type "list",data:=.seq ([]:List G7).toArray};exact hl.at K.N hu (P:=λca=>Wp W A (compareOp .NotEq ca _) R _) λa xs x r z=>V6 (s:={s with heap:=s.heap.push {cls:=.type "list",data:=.seq ([]:List G7).toArray}}) (x.at (k a)).is ⟨_,dv _ rfl,rfl,0,rfl⟩ K.rb.rm.lt r.length _ _ _ _ (c (.grow (tk:=s.toks) K.N k) .uR)
def kI.eval{l:List (List Nat)}(h:kI l xs){Q:List G7->R5->Prop}:
  ∀{s:R5},(∀tk vs,lG l vs->Q vs {s with toks:=tk})->wpAny M A (spliced (backTo pos (starEach xs env))) Q E s:=by
 induction h generalizing Q with
 |nil=>exact λ{s} h=>tQ (h s.toks [] .nil)|@cons x k p l xs _ ih=>exact λ{s} h=>qj (wpAny_mkText (ih (s:={s with toks:=s.toks+1}) λtk vs hv=>h tk (.str x s.toks::vs) (.cons (x:=x.cps.toList) (t:=s.toks) hv)):wpAny M A (mkText x) _ _ s) (k4 rfl _ _)
def lG.any{l:List (List Nat)}(h:lG l vs)(x:List Nat):vs.any (λy=>Value.isStrOf ⟨x.toArray⟩ y)=l.contains x:=by
 induction h with
 |nil=>rfl|@cons y t l vs _ ih=>
  rw[qG,DV,ih];refine aF (·||_) ?_;show((⟨y.toArray⟩:Str) == ⟨x.toArray⟩)=_;rw[yD,oS,nT,eB];exact eq_comm
def lG.eq{l:List (List Nat)}(h:lG l vs)(x:List Nat)(t:Tok):∀y∈vs,EqAt A s y (.str ⟨x.toArray⟩ t) (Value.isStrOf ⟨x.toArray⟩ y):=by
 induction h with
 |nil=>exact λz q=>memN q|@cons y t l vs _ ih=>exact λu hu=>(bD.mp hu).elim (λe=>e▸EqAt.str_str _ _ _ _) (ih u)
def lG.len{l:List (List Nat)}(h:lG l vs):vs.length=l.length:=by
 induction h with
 |nil=>rfl|cons _ ih=>exact aF (·+1) ih
def kI.len{l:List (List Nat)}{vs:List l4}(h:kI l vs):l.length=vs.length:=by
 induction h with
 |nil=>rfl|cons _ ih=>exact aF (·+1) ih
def SE.e5{l:List (List Nat)}(ha:SE W n sc a xa)(hl:kI l xs)(hz:xs.length<1000):CE W n sc (.op (.e5 l) (.one a)) (.Compare xa [.In] [.List xs p] pos):=
 z0 ha rfl λ{env A s z z z z z z ca R} K hu e c=>by
  cases e with
  |mk=>
   refine hu.gR (P:=λca=>Wp W A _ (λcb s₂=>Wp W A (compareOp .In ca cb) R s₂) s) λt=>?_;refine(aG (eZ (aG (hl.eval λtk vs hv=>?_))):Wp W A (do standAt p;newList (<-spliced (backTo p (starEach xs env)))) (λcb s₂=>Wp W A (compareOp .In _ cb) R s₂) s);refine jw ?_ (by show vs.toArray.size<=sizeLine;rw[bQ,hv.len,hl.len];exact aA (d9 hz) ⋯)
   exact in_listAt (s:={s with heap:=s.heap.push {cls:=.type "list",data:=.seq vs.toArray},toks:=tk}) _ ⟨_,dv _ rfl,rfl,0,rfl⟩ (λy hy=>hv.eq _ t y (Array.mem_toArray.mp hy)) (by rw[List.any_toArray,hv.any];exact c (.grow K.N (cH _ _)) .uR)
def zi{f:G7}(hk:keepIn W.K f=F6)(h:gY W n sc es xs)(K:Fr W n sc env A μ H F s){Q:List V->AH->Prop}(e:j5 W n es F H Q)
  (k:KL W μ s Q (λcvs s₁=>Wp W A (call f (first++cvs)) R s₁)):Wp W A (callWith pos f first (backTo pos (starEach xs env)) []) R s:=by
 have hst:=h.xw;have hall:=h.all (pos:=pos) (R:=λcvs s₁=>W.K.In s₁.heap/\Wp W A (call f (first++cvs)) R s₁) e K λq X r=>⟨pJ K.wk X.N,k q X r⟩
 cases h with
 |nil=>exact callWith_K0 (pJ K.wk K.N) hk (k (cvs:=[]) e (.refl (tk:=s.toks) K.N) .nil)|@cons ie ies x rest h1 h2 h3=>
  rw[su,d5] at hst;exact callWith_K K.wk.uE hk hall (k4 hst.1 rest env) (uo hst.2 env pos)
def AV{vs:List V}(q:Fn W n f vs H Q){a:lb}(ha:W.mV f=F5 a)(K:Ok W n A μ H s)(r:aM μ s.heap vs cvs)(k:KE W μ s Q R):Wp W A (call (.ref a) cvs) R s:=
 wpAny_call (q ha K r λ{y y} q {y y y} X r=>k q X r)
def SE.call{x:Str}(hx:sc.names.lookup x=F5 .globalImplicit)(hf:W.lL x=F5 f)(hd:(x == ("__debug__":Str))=L0)(h:gY W n sc es xs):SE W n sc (.call f es) (.Call (.Name x p) xs [] pos):=λ{F H Q y y y y y} e K k=>
 let ⟨a,ha,hm⟩:=K.wk.fn x f hf
 Call_ (name_fn K hx hm hd (zi (first:=[]) (K.wk.AW f a ha) h K (Q:=λvs H=>Fn W n f vs H Q) e λq X r=>AV q ha (K.nx X).ok r λq Y r=>k q (X.trans Y) r))
def vz{id:String}(hst:(x::xs).all noStar=F6){Q:G7->R5->Prop}
  (h:wpAny M A (spliced (backTo pos (starEach (x::xs) env))) (λcvs s₁=>wpAny M A (PySem.call (.builtin id) (first++cvs)) Q E s₁) E s):
  wpAny M A (callWith pos (.builtin id) first (backTo pos (starEach (x::xs) env)) []) Q E s:=by
 have hp:=uo hst env pos;rw[su,d5] at hst;rw[k4 hst.1] at h hp ⊢;exact callWith_builtin hp (Calls.evalArgs_plain h)
def tZ(hst:(x::xs).all noStar=F6){Q:G7->R5->Prop}
  (h:wpAny M A (spliced (backTo pos (starEach (x::xs) env))) (λcvs s₁=>wpAny M A (PySem.call (.type T) cvs) Q E s₁) E s):
  wpAny M A (callWith pos (.type T) [] (backTo pos (starEach (x::xs) env)) []) Q E s:=by
 have hp:=uo hst env pos;rw[su,d5] at hst;rw[k4 hst.1] at h hp ⊢;exact PySem.callWith_type hp (Calls.evalArgs_plain h)
def ry(h:noStar x=F6):[x].all noStar=F6:=by rw[su,h];rfl
def NG{f:F1}(hst:noStar x=F6)(h:wpAny M A (spliced (backTo pos (starEach [x] env))) (λcvs s₁=>wpAny M A (PySem.call f.fv cvs) R F0 s₁) F0 s):wpAny M A (callWith pos f.fv [] (backTo pos (starEach [x] env)) []) R F0 s:=by
 cases f with
 |len=>exact vz (ry hst) h|sorted=>exact vz (ry hst) h|_=>exact tZ (ry hst) h
def PD(f:F1):bootBuiltins f.nm=F5 f.fv:=by cases f<;>decide+kernel
def PE(f:F1):(f.nm == ("__debug__":Str))=L0:=by cases f<;>decide+kernel
def vm(ha:SE W n sc a xa)(hst:noStar xa=F6)(K:Fr W n sc env A μ H F s)(e:a5 W n a F H Q){P:List G7->R5->Prop}
  (k:KE W μ s Q (λca s₁=>P [ca] s₁)):Wp W A (spliced (backTo pos (starEach [xa] env))) P s:=
 qj (ha e K λq X r=>tQ (k q X r)) (k4 hst _ _)
def SE.Ol{f:F1}(hg:sc.names.lookup f.nm=F5 .globalImplicit)(hb:f.nm∈W.fI)(ha:SE W n sc a xa)(hst:noStar xa=F6):SE W n sc (.op (.f1 f) (.one a)) (.Call (.Name f.nm p) [xa] [] pos):=λe K k=>
 Call_ (rV K hg hb (PD f) (PE f) (NG hst (vm ha hst K (uU e) λp X hu=>p.casesOn λp q=>p (K.nx X).ok hu λY r=>k q (X.trans Y) r)))
def SE.Y1(hg:sc.names.lookup ("set":Str)=F5 .globalImplicit)(hb:("set":Str)∈W.fI):SE W n sc (.op .oE .nil) (.Call (.Name "set" p) [] [] pos):=λ{F H Q y y y y y} e K k=>
 Call_ (rV K hg hb (u:=.type "set") (by decide+kernel) (by decide+kernel) (callWith_type0 ((e:Seq (Prim W .oE [] H) Q).casesOn λp q=>p K.ok λY r=>k q Y r)))
def SE.listRev(hg:sc.names.lookup ("list":Str)=F5 .globalImplicit)(hb:("list":Str)∈W.fI)(hg':sc.names.lookup ("reversed":Str)=F5 .globalImplicit)(hb':("reversed":Str)∈W.fI)
  (ha:SE W n sc a xa) (hst:noStar xa=F6):SE W n sc (.op .listRev (.one a)) (.Call (.Name "list" p) [.Call (.Name "reversed" p') [xa] [] pos'] [] pos):=λe K k=>
 Call_ (rV K hg hb (u:=.type "list") (by decide+kernel) (by decide+kernel) (tZ rfl (qj
  (Call_ (rV K hg' hb' (u:=.type "reversed") (by decide+kernel) (by decide+kernel) (tZ (ry hst) (vm ha hst K (uU e) λp X hu=>p.casesOn λp q=>
   m9 (p (K.nx X).ok hu λY r=>k q (X.trans Y) r) (λy y h=>tQ h) λy y e=>e)))) (k4 rfl _ _))))
end
abbrev PB(x:l4):Prop:=∀(nm:Str) (env:Env),attributeBase x nm env (eval x env)=eval x env
variable{x:Str}{apos:Pos}{xo:l4}
section
variable{F:aT}
def SE.new{c:Nat}(hx:sc.names.lookup x=F5 .globalImplicit)(hf:W.lK x=F5 c)(hd:(x == ("__debug__":Str))=L0)(h:gY W n sc es xs):SE W n sc (.new c es) (.Call (.Name x p) xs [] pos):=λ{F H Q y A y y R} e K k=>by
 obtain⟨cA,hcA,hm,hkeep⟩:=K.wk.Eu x c hf;refine Call_ (name_fn K hx hm hd (zi (first:=[]) hkeep h K (Q:=λvs H=>qV W n c vs H Q) e λ{vs H₁ μ₁ cvs s₁} q X r=>wpAny_call ?_))
 obtain⟨hinit,q⟩:=q;obtain⟨fa,hfa,hfind,hisfn⟩:=K.wk.init c _ cA hcA hinit;have K₁:=(K.nx X).ok;obtain⟨hh,g,dr,tk,os⟩:=s₁;have XK:W.K.In hh:=pJ (s:=⟨hh,g,dr,tk,os⟩) K₁.wk K₁.N;refine make_core (h:=hh) (makes_of XK (K.wk.E7 c cA hcA)) (looks_findIn XK hfind) (λself=>bind_fn XK self (eB.mp hisfn)) (.inl rfl) ?_;have k2:∀b o,hh.get? b=F5 o->((hh.push emptyDict).push (instObj cA hh.objs.size)).get? b=F5 o:=λb o e=>cH _ _ _ _ (cH _ _ _ _ e);have hs1:(hh.push emptyDict).objs.size=hh.objs.size+1:=vK ..;have o1:((hh.push emptyDict).push (instObj cA hh.objs.size)).get? hh.objs.size=F5 emptyDict:=cH _ _ _ _ (dv _ rfl);have o2:((hh.push emptyDict).push (instObj cA hh.objs.size)).get? (hh.objs.size+1)=F5 (instObj cA hh.objs.size):=hs1▸dv _ rfl;have f1:hh.get? (hh.objs.size+1)=L3:=hs1▸rF (cH hh emptyDict);have hn:∀a∈adr (hh.objs.size+1,F5 hh.objs.size),hh.get? a=L3:=LO (P:=λa=>hh.get? a=L3) rfl f1 (iC _);have N₂:=K₁.N.push (h':=(hh.push emptyDict).push (instObj cA hh.objs.size)) (c:=.inst c []) k2 hn (bo.mpr ⟨λm=>Nat.succ_ne_self _ (bB.mp m),bo.mpr ⟨dZ,dU⟩⟩) ⟨rfl,hcA,rfl,⟨o2,rfl,rfl,o1⟩,.nil,dU⟩ λy e=>ai e;have X₂:bR W μ₁ ⟨hh,g,dr,tk,os⟩ (H₁++[.inst c []]) (μ₁.push (hh.objs.size+1,F5 hh.objs.size)) ⟨(hh.push emptyDict).push (instObj cA hh.objs.size),g,dr,tk,os⟩:=⟨rfl,rfl,wM k2 hn,N₂⟩;have hp:=Jq K₁.N (hh.objs.size+1,F5 hh.objs.size);refine codeAny_mono (q hfa (A:=A.under (.builtin "type.__call__" ⟨.ref cA::cvs,[]⟩)) (R:=λu s'=>u=.none/\R (.ref (hh.objs.size+1)) s') ⟨K.wk,K.rb.made cA cvs,N₂⟩ (.cons (.uT hp) (X₂.ups r)) λ{y y} q {y y y} Y ru=>?_) λr s' hr=>?_
 .obtain⟨e,q⟩:=q;exact(e▸ru:VR _ _ .none _).sQ (P:=λu=>u=Value.none/\R _ _) ⟨rfl,k q ((X.trans X₂).trans Y) (.uT (kj Y.E.pre hp))⟩
 .cases r with
  |error e=>exact hr.elim|ok fl=>
   cases fl with
   |ret u=>exact hr|_=>exact hr.elim
def MR(h:xs.all noStar=F6)(hl:xs.length<25)(env:Env)(pos:Pos):
  methodCallForm (xs.length+([]:List Keyword).length) (backTo pos (starEach xs env)) (backToKw pos (keywordEach [] env))=F6:=by
 show((backTo pos (starEach xs env)).all (λx=>!x.1)&&(backToKw pos (keywordEach [] env)).all (λx=>x.1.isSome)&&decide (xs.length+([]:List Keyword).length+(if ([]:List Keyword).isEmpty then 0 else 1)<30))=F6
 rw[d5,d5];refine⟨⟨d7.mpr λx hx=>?_,rfl⟩,bE (bw hl ⋯)⟩
 have:=List.any_eq_false.mp (uo h env pos) x hx
 rw[Bool.not_eq_true] at this;rw[this];rfl
def Bn{o:l4}{nm:Str}(hb:PB o)(hst:xs.all noStar=F6)(hl:xs.length<25)(hline:(apos.endLine == pos.line)=F6)
  (h:Wp W A (eval o env) (λov s₁=>∀pl,Wp W A (getMethod ov nm pl) (λr s₂=>Wp W A (callWith pos r.1 r.2 (backTo pos (starEach xs env)) []) R s₂) s₁) s):
  Wp W A (eval (.Call (.Attribute o nm apos) xs [] pos) env) R s:=by
 rw[arm_eval_Call,hb];refine aG (m9 h (λov s₁ h₁=>aG (eZ ?_)) λy y e=>e);have hpos:methodCallPos F6 o env apos pos=pure pos:=by unfold methodCallPos;simp [hline]
 unfold methodCall;rw[MR hst hl env pos];exact aG (fB (m9 (h₁ _) (λr s₂ h₂=>aG (iK hpos h₂)) λy y e=>e))
def SE.ak{o:IE}{nm:Str}(ho:SE W n sc o xo)(hb:PB xo)(hnm:nm∈W.kb)(hl:xs.length<25)(hline:(apos.endLine == pos.line)=F6)(h:gY W n sc es xs):
  SE W n sc (.ak o (aV nm) es) (.Call (.Attribute xo nm apos) xs [] pos):=λ{F H Q y A y y R} e K k=>by
 refine Bn hb h.xw hl hline (ho (Q:=λu H=>nH W (aV nm) u H λf=>j5 W n es F H λvs H=>Fn W n f (u::vs) H Q) e K λ{u H₁ μ₁ cu s₁} q X hu pl=>?_);obtain⟨e,hcell,hmeth,hfld,q⟩:=q;subst e;refine Au X.N hcell hu (P:=λcu=>VR μ₁ s₁.heap (.obj _) cu->Wp W A (getMethod cu nm pl) _ s₁) (λa d cA ox es' n' hp hcA hd I f nd hu=>?_) hu;obtain⟨fa,hfa,hfind,hisfn⟩:=K.wk.pQ _ nm _ cA hcA hnm hmeth;have hg:=plainGet_of (K.wk.zu _ cA nm hcA);obtain⟨⟨h1,h2⟩⟩:=f.get (K.wk.Il nm hnm);rw[hfld] at h2
 cases h2 with
 |no=>exact method_fn (pJ K.wk X.N) I hg.1 hg.2 hfind (eB.mp hisfn) (by show(lookIn nm (dictOf es' n')).map _=_;rw[lookIn_dict,h1];rfl) (zi (K.wk.AW _ fa hfa) h (K.nx X) (Q:=λvs H=>Fn W n _ (.obj _::vs) H Q) q λq Y r=>AV q hfa ((K.nx X).nx Y).ok (.cons (Y.up hu) r) λq Z r=>k q ((X.trans Y).trans Z) r)
def Ei{id:String}{pl:Sem Bool}{Q:G7×List G7->R5->Prop}{ov:G7}(b:BM s ov name id)(h:Q (.builtin id,[ov]) s):wpAny (model prog w) A (getMethod ov name pl) Q E s:=by
 cases b with|mk pa slot ty hT hd=>exact getMethod_builtin hT pa slot ty hd h
def SE.bm{m:Mt}(ha:SE W n sc a xa)(hb:PB xa)(hl:xs.length<25)(hline:(apos.endLine == pos.line)=F6)(h:gY W n sc es xs):SE W n sc (.bm m a es) (.Call (.Attribute xa m.nm apos) xs [] pos):=λ{F H Q env A y y R} e K k=>by
 refine Bn hb h.xw hl hline (ha (Q:=λu H=>aw (Recv W m u H) (j5 W n es F H λvs H=>Seq (b9 W m (u::vs) H) Q)) e K λq X hu pl=>?_);obtain⟨p,q⟩:=q;refine Ei (p X.N hu) ?_;have hall:=λpos=>h.all (pos:=pos) (R:=λcvs s₁=>Wp W A (PySem.call (.builtin m.id) ([_]++cvs)) R s₁) q (K.nx X) λq Y r=>q.casesOn λp q=>p ((K.nx X).nx Y).ok (.cons (Y.up hu) r) λZ r=>k q ((X.trans Y).trans Z) r;have hst:=h.xw
 cases h with
 |nil=>exact callWith_method0 ((q:Seq (b9 W m [_] _) Q).casesOn λp q=>p (K.nx X).ok (.cons hu .nil) λZ r=>k q (X.trans Z) r)|cons q1 q2 q3=>exact vz hst (hall _)
def SE.jD(ha:SE W n sc a xa)(hbase:PB xa)(hline:(apos.endLine == pos.line)=F6)(hb:SE W n sc b xb)(hst:noStar xb=F6)
  (hg':sc.names.lookup ("reversed":Str)=F5 .globalImplicit) (hb':("reversed":Str)∈W.fI):SE W n sc (.jD a b) (.Call (.Attribute xa "extend" apos) [.Call (.Name "reversed" p') [xb] [] pos'] [] pos):=λ{F H Q env A y y R} e K k=>by
 refine Bn hbase rfl (Nat.lt_of_sub_eq_succ rfl) hline (ha (Q:=λu H=>aw (ow W u H) (a5 W n b F H λx H=>Ex λH'=>aw (mK W u x H H') (Q .none H'))) e K λq X hu pl=>?_);obtain⟨p,q⟩:=q;refine Ei (p X.N hu) (vz rfl (qj ?_ (k4 rfl _ _)));refine Call_ (rV (K.nx X) hg' hb' (u:=.type "reversed") (by decide+kernel) (by decide+kernel) (tZ (ry hst) (vm hb hst (K.nx X) q λq Y r=>q.casesOn λζ'=>ζ'.casesOn λp q=>
  m9 (p ((K.nx X).nx Y).ok (Y.up hu) r λZ r=>k q ((X.trans Y).trans Z) r) (λy y h=>tQ h) λy y e=>e)))
end
inductive sd(μ:Mu)(h:Heap):Fl->Flow->Prop
 |aK:sd μ h .aK .next|brk:sd μ h .brk .brk|cnt:sd μ h .cnt .cont|ret {v:V} {cv:G7} (r:VR μ h v cv):sd μ h (.ret v) (.ret cv)
def KS(W:Wd)(env:Env)(μ:Mu)(s:R5)(Q:Fl->aT->AH->Prop)(R:Flow->R5->Prop):Prop:=∀{fl:Fl} {F':aT} {H':AH} {μ':Mu} {f:Flow} {s':R5},Q fl F' H'->gH W env μ s F' H' μ' s'->sd μ' s'.heap fl f->R f s'
def SS(W:Wd)(n:Nat)(sc:Scope)(is:IS)(st:Stmt):Prop:=∀{F:aT} {H:AH} {Q:Fl->aT->AH->Prop} {env:Env} {A:Around} {s:R5} {μ:Mu} {R:Flow->R5->Prop},ya W n is F H Q->Fr W n sc env A μ H F s->KS W env μ s Q R->Wp W A (exec st env) R s
def ft(W:Wd)(n:Nat)(sc:Scope)(is:aL)(st:List Stmt):Prop:=∀{F:aT} {H:AH} {Q:Fl->aT->AH->Prop} {env:Env} {A:Around} {s:R5} {μ:Mu} {R:Flow->R5->Prop},d0 W n is F H Q->Fr W n sc env A μ H F s->KS W env μ s Q R->Wp W A (execs st env) R s
def kf(x:l4):Bool:=x.ctorIdx != 8&&(x.ctorIdx != 9&&x.ctorIdx != 10)
def notTuple(x:l4):Bool:=x.ctorIdx != 25
def ur{t:Option l4}{l:Nat}:∀{x:l4},kf x=F6->swapsWith x t l env=pure L0:=by
 intro x;cases x<;>first|exact λy=>rfl|exact λh=>(az h).elim
def ZV{ts:List l4}:∀{x:l4},notTuple x=F6->swappedStores [.Tuple ts k p] x env=pure L3:=by
 intro x;cases x<;>first|exact λy=>rfl|exact λh=>(az h).elim
def ZU{o:l4}{nm:Str}:∀{x:l4},swappedStores [.Attribute o nm p] x env=pure L3:=by
 intro x;cases x<;>exact rfl
variable{R:Flow->R5->Prop}{xe:l4}{px py:Pos}{o:IE}{xs:List Nat}{es:List l4}
section
variable{F:aT}
set_option tactic.hygienic true in
def SS.asg(he:SE W n sc e xe)(hx:eG sc x=F6)(hok:cO x=F6)(hc:kf xe=F6):SS W n sc (.asg (aV x) e) (.Assign [.Name x px] xe pos):=λ{F H Q y y y y y} ev K k=>
 wpAny_Assign_Name (he (Q:=λv H=>Q .aK (upd F (aV x) v) H) ev K λq X r=>pj (K.nx X).fo X.N K.eo (pF hx) (ip hok) r λY=>k q ((K.sx X).trans Y) .aK) (ur hc)
def SS.cB(he:SE W n sc e xe)(ha:SE W n sc a xa)(hi:SE W n sc i xi)(hc:kf xe=F6):SS W n sc (.cB a i e) (.Assign [.Subscript xa xi p] xe pos):=λ{F H Q y y y y y} ev K k=>
 wpAny_Assign_Subscript (he (Q:=λv H=>a5 W n a F H λu H=>a5 W n i F H λx H=>Ex λH'=>aw (hO W u x v H H') (Q .aK F H')) ev K λq X r=>SE.both ha hi q (K.nx X) λq Y hu hx=>q.casesOn λζ'=>ζ'.casesOn λp q=>
  p ((K.nx X).nx Y).ok hu hx (Y.up r) λZ=>k q (K.sx ((X.trans Y).trans Z)) .aK) (ur hc)
def SS.setAttr{nm:Str}(he:SE W n sc e xe)(ho:SE W n sc o xo)(hn:nm∈W.attrs)(hc:kf xe=F6):SS W n sc (.setAttr o (aV nm) e) (.Assign [.Attribute xo nm p] xe pos):=λ{F H Q env A s μ R} ev K k=>by
 rw[arm_exec_Assign];refine aG (eZ ?_);show Wp W A (swapsWith xe (F5 (.Attribute xo nm p)) pos.line env >>= _) R s;rw[ur hc];refine aG (aj ?_);rw[aD ⋯]
 refine aG (he (Q:=λv H=>a5 W n o F H λu H=>Ex λH'=>aw (i7 (aV nm) H v u H') (Q .aK F H')) ev K λ{v y y cv s'} q X r=>?_);rw[ZU];refine aG (aj ?_);show Wp W A (assign (.Attribute xo nm p) env cv >>= λy=>pure Flow.next) R s';rw[arm_assign_Attribute];exact aG (aG (fB (ho q (K.nx X) λq Y hu=>aG (eZ (aG (fB (q.casesOn λζ'=>ζ'.casesOn λp q=>Jw K.wk Y.N hn hu (Y.up r) p λZ=>wpAny_release' (aj (k q (K.sx ((X.trans Y).trans Z)) .aK)))))))))
def SS.expr(he:SE W n sc e xe)(hc:kf xe=F6):SS W n sc (.expr e) (.Expr xe pos):=λ{F H Q env y y y y} ev K k=>by
 rw[exec_Expr env xe pos (by unfold interactive;rw[K.eo.kind];rfl) (ur hc)]
 exact aG (eZ (aG (he (Q:=λy H=>Q .aK F H) ev K λq X r=>wpAny_dropValue (k q (K.sx X) .aK))))
def SS.ret(he:SE W n sc e xe):SS W n sc (.ret e) (.Return (F5 xe) pos):=λ{F H Q y y y y y} ev K k=>
 wpAny_Return_some (he (Q:=λv H=>Q (.ret v) F H) ev K λq X r=>k q (K.sx X) (.ret r))
def SS.YZ:SS W n sc (.ret (.const .none)) (.Return L3 pos):=λ{y y y y y s y y} ev K k=>wpAny_Return_none (k ev (K.s0 (tk:=s.toks)) (.ret .of_none))
def SS.cont:SS W n sc .cont (.Continue pos):=λ{y y y y y s y y} ev K k=>aG (eZ (aj (k ev (K.s0 (tk:=s.toks)) .cnt)))
def SS.pass:SS W n sc .pass (.Pass pos):=λ{y y y y y s y y} ev K k=>wpAny_Pass (k ev (K.s0 (tk:=s.toks)) .aK)
def ft.nil:ft W n sc .nil []:=λ{y y y y y s y y} ev K k=>wpAny_execs_nil (k ev (K.s0 (tk:=s.toks)) .aK)
def ft.cons{is:IS}{iss:aL}{st:Stmt}{sts:List Stmt}(h1:SS W n sc is st)(h2:ft W n sc iss sts):ft W n sc (.cons is iss) (st::sts):=λ{F H Q y y y y y} ev K k=>
 wpAny_execs_cons (h1 (Q:=Bw (λF H=>d0 W n iss F H Q) Q) ev K λq X hf=>by
  cases hf with
  |aK=>exact h2 q (K.rp X) λq Y hf=>k q (X.trans Y) hf|brk=>exact k q X .brk|cnt=>exact k q X .cnt|ret r=>exact k q X (.ret r))
def SS.ite{c:IE}{a b:aL}{xa xb:List Stmt}(hc:ST W n sc c xc)(ha:ft W n sc a xa)(hb:ft W n sc b xb):SS W n sc (.ite c a b) (.If xc xa xb pos):=λ{F H Q y y y y y} ev K k=>
 wpAny_If (hc (Q:=λy t H=>if t=F6 then d0 W n a F H Q else d0 W n b F H Q) ev K λ{y t y y y} q y X=>by
  cases t with
  |true=>exact ha (by rw[aI rfl] at q;exact q) (K.nx X) λq Y hf=>k q ((K.sx X).trans Y) hf|false=>exact hb (by rw[aD az] at q;exact q) (K.nx X) λq Y hf=>k q ((K.sx X).trans Y) hf)
inductive hN(sc:Scope):List Nat->List l4->Prop
 |nil:hN sc [] []|cons {x:Str} {p:Pos} {xs:List Nat} {es:List l4}:eG sc x=F6->cO x=F6->hN sc xs es->hN sc (aV x::xs) (.Name x p::es)
def hN.len(h:hN sc xs es):es.length=xs.length:=by
 induction h with
 |nil=>rfl|cons _ _ _ ih=>exact aF (·+1) ih
def hN.N9(h:hN sc xs es)(env:Env):(assignEach es env).length=es.length:=by
 induction h with
 |nil=>rfl|cons _ _ _ ih=>exact aF (·+1) ih
def hN.each(h:hN sc xs es)(env:Env):(assignEach es env).findIdx? (·.1)=L3:=by
 induction h with
 |nil=>rfl|@cons x p xs es _ _ _ ih=>
  show((L0,assign (.Name x p) env)::assignEach es env).findIdx? _=L3;rw[List.findIdx?_cons,ih];rfl
set_option tactic.hygienic true in
def Md(hn:hN sc xs es):∀{F:aT} {l:List V} {vs:List G7} {s:R5} {μ:Mu} {R:Unit->R5->Prop},l.length=xs.length->Fr W n sc env A μ H F s->aM μ s.heap l vs->(∀{s'},gH W env μ s (iu F xs l) H μ s'->R () s')->
  Wp W A (assignInOrder ((assignEach es env).map (·.2)) vs) R s:=by
 induction hn with
 |nil=>
  intro F l vs s μ R hl K hv k
  cases l with
  |cons=>cases hl|nil=>exact aj (k (K.s0 (tk:=s.toks)))
 |@cons x p xs es hx hok _ ih=>
  intro F l vs s μ R hl K hv k
  cases l with
  |nil=>cases hl|cons v l=>
   refine hv.eY (P:=λvs=>Wp W A (assignInOrder (assign (.Name x p) env::(assignEach es env).map (·.2)) vs) R s) λcv r hv hr=>?_;exact aG (fB (C7 (pj K.fo K.N K.eo (pF hx) (ip hok) hv λX=>ih (qU hl) (K.rp X) (hr.ext X.E K.fo.ml) λY=>k (X.trans Y))))
def LX(hh:A.handled=L3)(N:aY W μ H s.heap)(hv:VR μ s.heap (.tup l) cv)(hk:l.length=k){Q:List G7->R5->Prop}
  (h:∀{s₁ vs},bR W μ s H μ s₁->aM μ s₁.heap l vs->Q vs s₁):Wp W A (unpackItems cv k L3) Q s:=
 hv.gS (P:=λcv=>Wp W A (unpackItems cv k L3) Q s) λa items y x z r=>by
  have:=wpAny_unpackItems_tuple (prog:=W.prog) (w:=W.w) (A:=A) (E:=F0) (Q:=Q) hh x.is λh' he=>have X:bR W μ s H μ {s with heap:=h'}:=.grow N λb o e=>he b o (ee (hJ e)) e;h X (by rw[tA];exact X.ups r)
  rwa [bQ,r.length,hk] at this
def SS.gf(he:SE W n sc e xe)(hn:hN sc xs es)(hc:kf xe=F6)(hw:∀env,gU sc env->swappedStores [.Tuple es k p] xe env=pure L3):
  SS W n sc (.gf xs e) (.Assign [.Tuple es k p] xe pos):=λ{F H Q env A s μ R} ev K kk=>
 Assign_Tuple (he (Q:=λv H=>Ex λl=>aw (v=.tup l) (aw (l.length=xs.length) (Q .aK (iu F xs l) H))) ev K λq X r=>by
  obtain⟨⟨e,hl,q⟩⟩:=q;subst e;rw[arm_assign_Tuple];refine aG (eZ ?_);unfold unpack;rw[hn.each env,hn.N9 env,hn.len,<-hl];exact aG (fB (LX K.rb.hd X.N r rfl λY r=>Md hn hl ((K.nx X).nx Y) r λZ=>kk q ((K.sx (X.trans Y)).trans Z) .aK))) (show swapsWithSole [.Tuple es k p] xe pos.line env=pure L0 from ur (t:=F5 (.Tuple es k p)) (l:=pos.line) (env:=env) hc) (hw env K.eo)
def aAm:2<=aJ:=by decide
set_option tactic.hygienic true in
def SS.swap(ha:SE W n sc a xa)(hb:SE W n sc b xb)(hsx:noStar xa=F6)(hsy:noStar xb=F6)(hx:eG sc x=F6)(hy:eG sc y=F6)(hox:cO x=F6)(hoy:cO y=F6)
  (hw:∀env,gU sc env->swappedStores [.Tuple [.Name x px,.Name y py] k p] (.Tuple [xa,xb] k' p') env=pure (F5 [x,y])):
  SS W n sc (.swap (aV x) (aV y) a b) (.Assign [.Tuple [.Name x px,.Name y py] k p] (.Tuple [xa,xb] k' p') pos):=λ{F H Q env A s μ R} ev K kk=>by
 refine PyProof.Rows.Assign_Tuple_swapped (names:=[x,y]) (?_:Wp W A (eval (.Tuple [xa,xb] k' p') env) _ s) rfl (hw env K.eo);show Wp W A (do standAt p';newTuple (<-spliced (backTo p' (starEach [xa,xb] env)))) _ s;refine aG (eZ (aG (qj (ha (Q:=λu H=>a5 W n b F H λw H=>Q .aK (upd (upd F (aV y) w) (aV x) u) H) ev K λq X hu=>qj (hb q (K.nx X) λq Y hw=>tQ ?_) (k4 hsy _ _)) (k4 hsx _ _))));refine jw ?_ (by size_fits)
 refine Bp (R:=λv s=>Wp W A (unpackItems v 2 L3) (λitems s₂=>Wp W A (assignInOrder [λv=>bindName env y v,λv=>bindName env x v] items.reverse) (λz=>R .next) s₂) s) (tk:=_) Y.N (.cons (Y.up hu) (.one hw)) aAm (cH _ _) (iC _) .new λ{z s₃ z} Z r=>?_;refine LX K.rb.hd Z.N r rfl ?_;intro s₄ vs U r;refine r.sN (P:=λvs=>Wp W A (assignInOrder [λv=>bindName env y v,λv=>bindName env x v] vs.reverse) (λz=>R .next) s₄) λcu cw hu hw=>?_;have K1:=K.nx (((X.trans Y).trans Z).trans U);show Wp W A (assignInOrder [λv=>bindName env y v,λv=>bindName env x v] [cw,cu]) _ _;refine aG (fB (wpAny_bindName (pj K1.fo K1.N K1.eo (pF hy) (ip hoy) hw λV=>?_)));refine aG (fB (wpAny_bindName (pj (K1.rp V).fo V.N K1.eo (pF hx) (ip hox) (hu.ext V.E K1.fo.ml) λV'=>?_)));exact aj (kk q (((K.sx (((X.trans Y).trans Z).trans U)).trans V).trans V') .aK)
end
def IT:typeLookup (.type "list") (dunderI "add")=pure (F5 (.builtin "list.__iadd__")):=by rw[oM,nQ];kernel_rfl
def Od:fillsInplaceSlot (.type "list") "add" (Operator.Add == .Add)=pure L0:=by
 unfold fillsInplaceSlot;show(typeLookup (.type "list") (dunderI "add") >>= λfi=>pure (fi.isSome&&!isSeqSlot fi))=pure L0;rw[IT]
 kernel_rfl
def Y0:seqSlot? (.type "list") (dunderI "add")=pure (F5 (.builtin "list.__iadd__")):=by
 unfold seqSlot?;rw[IT]
 kernel_rfl
variable{op:Operator}{cw:G7}
section
variable{F:aT}
def Q7{l b:lb}{xs:List G7}{Q:G7->R5->Prop}(hl:XL s.heap l xs)(hb:XL s.heap b ys)(hz:xs.length+ys.length<=aJ)
  (h:∀h',XL h' l (xs++ys)->Heap.SameBut l s.heap h'->Q (.ref l) {s with heap:=h'}):wpAny (model prog w) A (inplaceOp .Add (.ref l) (.ref b)) Q E s:=by
 have z2:xs.toArray.size+ys.toArray.size<=sizeLine:=by rw[bQ,bQ];exact fR hz
 unfold inplaceOp;refine fB ?_;refine aG (wpAny_typeOf (k5 hl) (aG (iK Od ?_)));show wpAny _ A (if L0=F6 then _ else _) Q E s
 rw[aD az];refine aG (PySem.wpAny_binaryOp1_none (nm:="add") (k5 hl) (k5 hb) noFill_list_add ?_);refine aG (iK Y0 ?_);refine aG (yQ ?_);obtain⟨ho⟩:=hl;obtain⟨ho2⟩:=hb;refine call_meets PySem.F.slot_list_iadd ⟨_,ho,rfl⟩ PySem.F.entry_list_iadd (PySem.F.args_list_iadd_2 _ _) (AutoSeq1.list___iadd___list_list_0 l xs.toArray _ b ys.toArray _ ?_ (aA (aW _ _) z2) (fE z2)) ⟨ho,ho2,?_⟩
 .exact λq=>gF.mpr z2 (dG ((d5 _ _▸q).2))
 .exact h _ (u5 (f:=λx=>x++ys.toArray) ho (DU _ _)) (lB ..)
def Eb{w:V}{R:G7->R5->Prop}(N:aY W μ H s.heap)(hu:VR μ s.heap u cu)(hw:VR μ s.heap w cw)(q:nA op u H w Q)(k:KE W μ s Q R):Wp W A (inplaceOp op cu cw) R s:=by
 cases q with
 |add o e e' q=>
  subst o;subst e;subst e';exact hu.b7 (P:=λc=>Wp W A (inplaceOp .Add c cw) R s) λt=>hw.b7 (P:=λc=>Wp W A (inplaceOp .Add _ c) R s) λt'=>PySem.P.iadd_int (k q (.refl N) .f7)
 |sub o e e' q=>
  subst o;subst e;subst e';exact hu.b7 (P:=λc=>Wp W A (inplaceOp .Sub c cw) R s) λt=>hw.b7 (P:=λc=>Wp W A (inplaceOp .Sub _ c) R s) λt'=>PySem.P.isub_int (k q (.refl N) .f7)
 |@lst i l l' o e hc hl z q=>
  subst o;subst e;exact hl.at N hw (P:=λc=>Wp W A (inplaceOp .Add cu c) R s) λb ys hb rb zb=>ij N hc hu (P:=λc=>Wp W A (inplaceOp .Add c (.ref b)) R s) λa xs hp hx rx zx=>
   Q7 hx hb (by rw[rx.length,rb.length];exact z) λh' hx' hs=>have T:=sM (tk:=s.toks) N hp hx (mz hs) hx' (rx.append rb) (by rw[a8];exact z);k q T (VR.uT (p:=(a,L3)) (kj T.E.pre hp))
set_option tactic.hygienic true in
def SS.aug(he:SE W n sc e xe)(hx:eG sc x=F6)(hok:cO x=F6)(hcd:(x == ("__classdict__":Str))=L0):
  SS W n sc (.aug (aV x) op e) (.AugAssign (.Name x p) op xe pos):=λ{F H Q y y y y y} ev K k=>
 let ⟨h0,ev⟩:=ev
 wpAny_AugAssign_Name (IP K.fo K.eo (by unfold isVar;rcases pF hx with q|q<;>rw[q]) (ip hok) hcd h0 λcv hcv=>
  he ev K λq X hw=>Eb X.N (X.up hcv) hw q λq Y r=>pj (K.nx (X.trans Y)).fo Y.N K.eo (pF hx) (ip hok) r λZ=>k q ((K.sx (X.trans Y)).trans Z) .aK)
def SS.lI{nm:Str}(ho:SE W n sc o xo)(he:SE W n sc e xe)(hn:nm∈W.attrs):
  SS W n sc (.lI o (aV nm) op e) (.AugAssign (.Attribute xo nm p) op xe pos):=λ{F H Q env A s μ R} ev K k=>by
 rw[arm_exec_AugAssign_2];refine aG (eZ (aG (ho ev K λ{u y y co y} q X hu=>?_)));obtain⟨⟨ha,q⟩⟩:=q;refine aG (fB (aG (eZ (aG (Ea K.wk X.N hn hu ha λY hv=>?_)))));have K2:=K.nx (X.trans Y);refine aG (fB (he q K2 λq Z hw=>?_));refine aG (eZ (wpAny_operating (Eb Z.N (Z.up hv) hw q λq U r=>?_)));obtain⟨_,⟨⟨p,q⟩⟩⟩:=q;exact aG (eZ (aG (fB (Jw K.wk U.N hn (U.up (Z.up (Y.up hu))) r p λV=>aG (wpAny_release' (aj (k q (K.sx ((((X.trans Y).trans Z).trans U).trans V)) .aK)))))))
end
inductive iR(h:Heap)(d:lb)(es:Array DictEntry)(ep:Nat):Prop
 |mk {o:Obj} (at_:h.get? d=F5 o) (x:o.ExactDict) (dat:o.data=.dict es ep)
variable{d:lb}{es:Array DictEntry}{i:Nat}{o:Obj}
section
variable{es':Array DictEntry}{ep':Nat}
def iR.typeIs(x:iR s.heap d es ep):s.TypeIs (.ref d) "dict":=x.casesOn λho hc y=>⟨_,ho,hc.1⟩
def iR.to(x:iR h d es ep)(k:∀o,h.get? d=F5 o->h'.get? d=F5 o):iR h' d es ep:=x.casesOn λa b c=>⟨k _ a,b,c⟩
def iR.is(x:iR h d es ep)(ho:h.get? d=F5 o):o.data=.dict es ep:=x.casesOn λa y c=>ay (a.symm.trans ho)▸c
def iR.inj(x:iR h d es ep)(y:iR h d es' ep'):es=es'/\ep=ep':=y.casesOn λa z c=>Data.dict.inj ((x.is a).symm.trans c)
def Xy{Q:G7->R5->Prop}(hsm:(d == sysModules)=L0)(hm:iR s.heap d es ep)
  (hQ:Q (.ref s.heap.objs.size) {s with heap:=s.heap.push {cls:=.type "dict_keyiterator",data:=.fields #[.ref d,.int 0 0,.int es.size 0,.int ep 0]}}):
  wpAny (model prog w) A (pyIter (.ref d)) Q E s:=by
 have hT:=hm.typeIs;obtain⟨ho,hc,hdat⟩:=hm;refine wpAny_pyIter_slot hT F.slot_dict_iter (oP F.slot_dict_iter hT F.entry_dict_iter ?_ (F.args_dict_iter_1 _));unfold Builtin.«dict.__iter__» Builtin.Dict.dictSlotNone;refine aG (aG (wpAny_notOrdered_dict hT ?_));show wpAny _ _ (pure (Value.ref d)) _ _ s;refine aj ?_;show wpAny _ _ (Builtin.Dict.showsAll d >>= _) _ _ s;unfold Builtin.Dict.showsAll;rw[aD (by rw[hsm];exact az)]
 refine aG (aj (aG (wpAny_dictEntries ho hdat (aG (wpAny_dictEpoch ho hdat ?_)))));exact aG (jw (aj ⟨_,rfl,"dict_keyiterator",_,⟨_,dv _ rfl,rfl⟩,DI.lookup,hQ⟩))
def Ir:¬((i:Int)<0):=mB.mpr (fD i)
def Jy{Q:Option G7->R5->Prop}(hh:A.handled=L3)(hit:s.heap.IsKeyIter it d i es.size ep)(hm:iR s.heap d es ep)
  (h1:∀e,es[i]?=F5 e->∀h',h'.IsKeyIter it d (i+1) es.size ep->Heap.SameBut it s.heap h'->Q (F5 e.key) {s with heap:=h'})
  (h2:es[i]?=L3->∀h',Heap.ExtBut it s.heap h'->Q L3 {s with heap:=h'}):wpAny (model prog w) A (pyNext (.ref it)) Q E s:=by
 obtain⟨o,ho,hc,hd⟩:=id hit;obtain⟨hod,hcd,hdd⟩:=hm;unfold pyNext;refine aG (yN (C8 (name:=Str.ofString "__next__") hit.typeIs DI
  (oP DI hit.typeIs F.entry_dict_keyiterator_next ?_ (F.args_dict_keyiterator_next_1 _))))
 refine aG (aj (aG (aG ?_)))
 first|refine aG (Lh hit.typeIs (aj ?_))|refine aG (Li hit.typeIs (aj ?_))
 refine aG (wpAny_fieldsOf ho hd ?_);have hown:Builtin.Dict_items.ownsTuple "dict_keyiterator"=L0:=by decide
 rw[aD (show ¬(Builtin.Dict_items.ownsTuple "dict_keyiterator"=F6) by rw[hown];exact az)]
 show wpAny _ _ (if (Value.ref d == Value.none)=F6 then _ else _) _ _ s
 rw[aD (show ¬((Value.ref d == Value.none)=F6) from az)]
 refine aG (aj (aG (wpAny_dictEntries hod hdd ?_)));rw[aD (by simp)]
 refine aG (aj (aG (wpAny_dictEpoch hod hdd ?_)));rw[aD (by simp)]
 refine aj ?_
 cases hx:es[i]? with
 |some e=>
  have hxx:(if (i:Int)<0 then L3 else es[(i:Int).toNat]?)=F5 e:=(aD Ir).trans hx
  dsimp only
  rw[hxx]
  dsimp only
  refine aG ?_
  first|refine aG (Lh hit.typeIs (aj ?_))|refine aG (Li hit.typeIs (aj ?_))
  refine aG (wpAny_isOneOf_keyiter hit.typeIs ?_);show wpAny _ _ (setField (.ref it) 1 (rawInt ((i:Int)+1)) >>= _) _ _ s;refine aG (yR ho hd (by simp) ?_)
  have hit':(s.heap.update it (Obj.mapFields (·.setIfInBounds 1 (rawInt ((i:Int)+1))))).IsKeyIter it d (i+1) es.size ep:=
   ⟨_,mA _ ho (D0 (tG hd _)),(Obj.cls_mapFields ..).trans hc,by rw[tG hd];simp [rawInt]⟩
  refine aG (fB ?_);refine aG (wpAny_isOneOf_keyiter (s:={s with heap:=s.heap.update it (Obj.mapFields (·.setIfInBounds 1 (rawInt ((i:Int)+1))))}) hit'.typeIs ?_);show wpAny _ _ (pure e.key) _ _ _;exact aj (aj ⟨_,rfl,aj (h1 e hx _ hit' (lB ..))⟩)
 |none=>
  have hxx:(if (i:Int)<0 then L3 else es[(i:Int).toNat]?)=L3:=(aD Ir).trans hx
  dsimp only
  rw[hxx]
  dsimp only
  refine aG ?_
  first|refine aG (Lh hit.typeIs (aj ?_))|refine aG (Li hit.typeIs (aj ?_))
  show wpAny _ _ (setField (.ref it) 0 .none >>= _) _ _ s;refine aG (yR ho hd (by simp) ?_)
  show wpAny _ _ (newExc (.type "StopIteration") [] >>= _) _ _ _;refine aG ?_;simp only[newExc,newTuple];refine aG (jw ?_ (by size_fits))
  refine aG (m:=firstArgMember _ _) (iK (a:=Value.none) (by first|rfl|(simp only[firstArgMember];rfl)) ?_)
  refine jw ?_ (by size_fits)
  refine aG (wpAny_handled ?_);rw[show A.in1.handled=L3 from hh]
  refine aG (aj (wpAny_throw ?_));refine aG (yO (T:="StopIteration") (b:=F6) ⟨_,dv _ rfl,rfl⟩ isSubtype_stop ?_);exact aj (h2 hx _ (((lB ..).extBut.push _).push _))
end
inductive ou(μ:Mu)(h:Heap)(a:lb)(l:List V):Prop
 |mk {es:Array DictEntry} {ep:Nat} (x:iR h a es ep) (r:aM μ h l (es.toList.map (·.key))):ou μ h a l
variable{a:lb}
section
variable{P:Program}
def jx.vr{k:Atom}{v:G7}(x:jx k v):VR μ h (cN k) v:=by
 cases x with
 |int=>exact .f7|str=>exact .xV
def Tx(r:PR μ h kvs cs):∀{es:List DictEntry},Pairs (cM P w) es cs->aM μ h (kvs.map λp=>cN p.1) (es.map (·.key)):=by
 induction r with
 |nil=>intro es p;cases p;exact .nil|cons hv _ ih=>
  intro es p
  cases p with
  |cons h1 _ h3=>
   have q:=(nO h1).vr (μ:=μ) (h:=h);exact .cons q (ih h3)
def FJ(d:h.DictOf (cM P w) a cs)(r:PR μ h kvs cs):ou μ h a (kvs.map λp=>cN p.1):=by
 obtain⟨_,_,_,ho,x,hd,_,hp,_⟩:=d;exact⟨⟨ho,x,hd⟩,Tx r hp⟩
def T1{kvs:List (List Atom×V)}{cs:List (List Atom×lb×G7)}(r:TR μ h kvs cs):aM μ h (kvs.map λp=>V.tup (p.1.map cN)) ((cs.map (entryOfKey (tupleKind (cM P w)))).map (·.key)):=by
 induction r with
 |nil=>exact .nil|cons _ hk _ ih=>exact .cons hk ih
def K7{kvs:List (List Atom×V)}{cs:List (List Atom×lb×G7)}(d:h.DictOfH (tupleKind (cM P w)) a cs)(r:TR μ h kvs cs):ou μ h a (kvs.map λp=>V.tup (p.1.map cN)):=by
 obtain⟨_,_,_,ho,x,hd,he,_,_⟩:=d;exact⟨⟨ho,x,hd⟩,by rw[he];exact T1 r⟩
end
abbrev iv(I:lb)(h h':Heap):Prop:=∀b o,b≠I->h.get? b=F5 o->h'.get? b=F5 o
def jC(hs:Heap.SameBut I h h'):iv I h h':=λb y n e=>(hs.2 b n).trans e
def vu(hs:Heap.ExtBut I h h'):iv I h h':=λb o n e=>hs b o n e
variable{D:lb}
def JP(hD:D∈μ.g\/h.get? D=L3)(nf:I∉foot μ)(ho:h.get? I=F5 o):I≠D:=λe=>
 hD.elim (λm=>nf (e▸iO _ m)) λm=>ai (m.symm.trans (e▸ho))
def WR{oI:Obj}{vs:Array G7}(hI:h.get? I=F5 oI)(hd:oI.data=.fields vs):iz (·=I) h:=λb o e ho xs n q=>
 nomatch hd.symm.trans ((ay ((e▸hI:h.get? b=F5 oI).symm.trans ho)▸q:oI.data=.seq xs n))
inductive iw(h:Heap)(I:lb):Prop
 |mk {o:Obj} {vs:Array G7} (at_:h.get? I=F5 o) (d:o.data=.fields vs)
def uF(x:iw h I)(hk:iv I h h'):Kp μ h μ h':=x.casesOn λhI hd=>
 ⟨nG _,λy m=>.inl m,λb o xs n e d y=>hk b o (λq=>WR hI hd b o q e xs n d) e⟩
def Ls(W:Wd)(I:lb)(C:AH->Prop)(l:List V)(A:Around)(St:Mu->Heap->Nat->Prop):Prop:=∀{μ:Mu} {H:AH} {s:R5} {i:Nat} {v:V} {Q:Option G7->R5->Prop},aY W μ H s.heap->C H->St μ s.heap i->l[i]?=F5 v->
  (∀{h':Heap} {tk:Nat} {c:G7},VR μ h' v c->St μ h' (i+1)->iv I s.heap h'->Q (F5 c) {s with heap:=h',toks:=tk})->Wp W A (pyNext (.ref I)) Q s
def Lr(W:Wd)(I:lb)(C:AH->Prop)(l:List V)(A:Around)(St:Mu->Heap->Nat->Prop):Prop:=∀{μ:Mu} {H:AH} {s:R5} {i:Nat} {Q:Option G7->R5->Prop},aY W μ H s.heap->C H->St μ s.heap i->l[i]?=L3->
  (∀{h':Heap} {tk:Nat},iv I s.heap h'->Q L3 {s with heap:=h',toks:=tk})->Wp W A (pyNext (.ref I)) Q s
structure mN(W:Wd)(C:AH->Prop)(l:List V)(A:Around)(I:lb)(St:Mu->Heap->Nat->Prop):Prop where
 item:Ls W I C l A St
 done:Lr W I C l A St
 keep:∀{X:lb->Prop} {μ μ':Mu} {h h':Heap} {H H':AH} {i:Nat},br X μ h μ' h'->iz X h->¬X I->aY W μ H h->aY W μ' H' h'->C H->C H'->St μ h i->St μ' h' i
 grow:∀{μ μ':Mu} {h h':Heap} {H:AH} {i:Nat} {D:lb},aY W μ H h->Kp μ h μ' h'->I∉foot μ'->D∈μ.g\/h.get? D=L3->iv D h h'->St μ h i->St μ' h' i
 nf:∀{μ:Mu} {h:Heap} {i:Nat},St μ h i->I∉foot μ
 fl:∀{μ:Mu} {h:Heap} {i:Nat},St μ h i->iw h I
 self:∀{μ:Mu} {s:R5} {i:Nat} {Q:G7->R5->Prop},St μ s.heap i->Q (.ref I) s->Wp W A (pyIter (.ref I)) Q s
inductive kH(it:Heap->Nat->Prop)(I:lb)(src:V)(a:lb)(μ:Mu)(h:Heap)(i:Nat):Prop
 |mk (nf:I∉foot μ) (hv:VR μ h src (.ref a)) (it:it h i)
variable{src:V}{P:Prop}{e:Nat}{J:Heap->Nat->Prop}
def IsL.ref(x:IsL H l src)(N:aY W μ H h)(hv:VR μ h src (.ref a))(k:∀items,XL h a items->aM μ h l items->P):P:=
 x.at (s:={heap:=h}) N hv (P:=λc=>c=.ref a->P) (λy items x r y e=>by cases e;exact k items x r) rfl
def LJ(hv:VR μ h (.tup l) (.ref a))(k:∀items,XT h a items->aM μ h l items->P):P:=
 hv.gS (P:=λc=>c=.ref a->P) (λy items y x y r e=>by cases e;exact k items x r) rfl
def ID(x:h.IsListIter I a i)(k:∀o,h.get? I=F5 o->h'.get? I=F5 o):h'.IsListIter I a i:=x.elim λy ζ'=>ζ'.elim λe r=>⟨_,k _ e,r⟩
def LC(x:h.IsTupleIter I a i)(k:∀o,h.get? I=F5 o->h'.get? I=F5 o):h'.IsTupleIter I a i:=x.elim λy ζ'=>ζ'.elim λe r=>⟨_,k _ e,r⟩
def w9(x:h.IsListIter I a i):iw h I:=x.elim λy ζ'=>ζ'.elim λe ζ''=>ζ''.elim λy d=>⟨e,d⟩
def yG(x:h.IsTupleIter I a i):iw h I:=x.elim λy ζ'=>ζ'.elim λe ζ''=>ζ''.elim λy d=>⟨e,d⟩
def wy(x:h.IsKeyIter I a i n e):iw h I:=x.elim λy ζ'=>ζ'.elim λe ζ''=>ζ''.elim λy d=>⟨e,d⟩
def JV(r:aM μ h l items)(hi:l[i]?=L3):items.toArray[i]?=L3:=by rw[mD];exact yp.mpr (r.length▸yp.mp hi)
def kH.to(x:kH J I src a μ h i)(E:Kp μ h μ' h')(nf':I∉foot μ')(hj:J h i->J h' i):kH J I src a μ' h' i:=x.casesOn λy v t=>⟨nf',v.kp E,hj t⟩
def iw.nf(x:iw h I)(E:br X μ h μ' h')(nf:I∉foot μ):I∉foot μ':=x.casesOn λe y=>E.nf nf e
def iw.off(x:iw h I)(hD:D∈μ.g\/h.get? D=L3)(nf:I∉foot μ):I≠D:=x.casesOn λe y=>JP hD nf e
def kH.keep(mv:∀{h h' i},J h i->(∀o,h.get? I=F5 o->h'.get? I=F5 o)->J h' i)(fl:∀{h i},J h i->iw h I)(E:br X μ h μ' h')(nX:iz X h)(hI:¬X I)(x:kH J I src a μ h i):kH J I src a μ' h' i:=
 let ⟨nf,_,t⟩:=x;x.to (E.kp nX) ((fl t).nf E nf) λt=>mv t λo e=>E.keep _ o e nf hI
def kH.grow(mv:∀{h h' i},J h i->(∀o,h.get? I=F5 o->h'.get? I=F5 o)->J h' i)(fl:∀{h i},J h i->iw h I)(E:Kp μ h μ' h')(nf':I∉foot μ')(hD:D∈μ.g\/h.get? D=L3)(hk:iv D h h')(x:kH J I src a μ h i):kH J I src a μ' h' i:=
 let ⟨nf,_,t⟩:=x;x.to E nf' λt=>mv t λo e=>hk _ o ((fl t).off hD nf) e
def ZQ(hh:A.handled=L3):mN W (It .lst src l) l A I (kH (λh i=>h.IsListIter I a i) I src a) where
 item:=λ{μ H s i v Q} N c st hi k=>by
  cases c with|lst hl=>
  obtain⟨nf,hv,it⟩:=st;exact hl.ref N hv λitems x r=>by
   obtain⟨⟨hc,hvc⟩⟩:=r.get hi;refine wpAny_pyNext_list_item it x.is (by rw[mD];exact hc) λh' hit' hs'=>?_
   have E:=uF (μ:=μ) (w9 it) (jC hs');exact k (tk:=s.toks) (hvc.kp E) ⟨nf,hv.kp E,hit'⟩ (jC hs')
 done:=λ{μ H s i Q} N c st hi k=>by
  cases c with|lst hl=>
  obtain⟨nf,hv,it⟩:=st;exact hl.ref N hv λitems x r=>wpAny_pyNext_list_end hh it x.is (JV r hi) λh' hs'=>k (tk:=s.toks) (vu hs')
 keep:=λE nX hI y y y y st=>st.keep (J:=λh i=>h.IsListIter I a i) ID w9 E nX hI
 grow:=λy E nf' hD hk st=>st.grow (J:=λh i=>h.IsListIter I a i) ID w9 E nf' hD hk
 nf:=λst=>st.casesOn λnf y y=>nf
 fl:=λst=>st.casesOn λy y it=>w9 it
 self:=λst q=>st.casesOn λy y it=>wpAny_pyIter_listiter it q
def ZS(hh:A.handled=L3):mN W (It .tup src l) l A I (kH (λh i=>h.IsTupleIter I a i) I src a) where
 item:=λ{μ H s i v Q} N c st hi k=>by
  cases c;obtain⟨nf,hv,it⟩:=st;exact LJ hv λitems x r=>by
   obtain⟨⟨hc,hvc⟩⟩:=r.get hi;refine wpAny_pyNext_tuple_item it x.is (by rw[mD];exact hc) λh' hit' hs'=>?_
   have E:=uF (μ:=μ) (yG it) (jC hs');exact k (tk:=s.toks) (hvc.kp E) ⟨nf,hv.kp E,hit'⟩ (jC hs')
 done:=λ{μ H s i Q} N c st hi k=>by
  cases c;obtain⟨nf,hv,it⟩:=st;exact LJ hv λitems x r=>wpAny_pyNext_tuple_end hh it x.is (JV r hi) λh' hs'=>k (tk:=s.toks) (vu hs')
 keep:=λE nX hI y y y y st=>st.keep (J:=λh i=>h.IsTupleIter I a i) LC yG E nX hI
 grow:=λy E nf' hD hk st=>st.grow (J:=λh i=>h.IsTupleIter I a i) LC yG E nf' hD hk
 nf:=λst=>st.casesOn λnf y y=>nf
 fl:=λst=>st.casesOn λy y it=>yG it
 self:=λst q=>st.casesOn λy y it=>wpAny_pyIter_tupleiter it q
inductive MA(n:Nat)(I:lb)(μ:Mu)(h:Heap)(i:Nat):Prop
 |mk (nf:I∉foot μ) (it:IsRangeIter h I (i:Int) ((n:Int)-i) 1)
def V2(h:(jL n)[i]?=F5 v):i<n/\V.int (i:Int)=v:=by
 unfold jL at h;rw[gC] at h;obtain⟨j,hj,e⟩:=qW.mp h;have hlt:=(dT.mp hj).1;rw[kB] at hlt;rw[De hlt] at hj;exact⟨hlt,ay hj▸e⟩
def V3(h:(jL n)[i]?=L3):n<=i:=by
 have:=yp.mp h
 rwa [jL,aQ,kB] at this
def ZR(hh:A.handled=L3):mN W (λy=>True) (jL n) A I (MA n I) where
 item:=λ{μ H s i v Q} N y st hi k=>by
  obtain⟨nf,it⟩:=st;obtain⟨hlt,e⟩:=V2 hi;subst e;refine wpAny_pyNext_range_item it (Int.sub_pos_of_lt (gV.mpr hlt)) λh' hit' hs'=>?_;refine k .f7 ⟨nf,?_⟩ (jC hs');have e2:(n:Int)-i-1=(n:Int)-((i+1:Nat):Int):=Int.sub_sub _ _ _;rw[e2] at hit';exact hit'
 done:=λ{μ H s i Q} N y st hi k=>st.casesOn λnf it=>wpAny_pyNext_range_end hh it (Int.sub_nonpos_of_le (mC.mpr (V3 hi))) λh' hs'=>k (tk:=s.toks) (vu hs')
 keep:=λE nX hI y y y y st=>st.casesOn λnf it=>⟨E.nf nf it,E.keep _ _ it nf hI⟩
 grow:=λy E nf' hD hk st=>st.casesOn λnf it=>⟨nf',hk _ _ (JP hD nf it) it⟩
 nf:=λst=>st.casesOn λnf y=>nf
 fl:=λst=>st.casesOn λy it=>⟨it,rfl⟩
 self:=λst q=>st.casesOn λy it=>wpAny_pyIter_rangeiter it q
inductive zI(I:lb)(j:Nat)(d:lb)(μ:Mu)(h:Heap)(i:Nat):Prop
 |mk {es:Array DictEntry} {ep:Nat} (nf:I∉foot μ) (hp:μ.l[j]?=F5 (d,L3)) (hm:iR h d es ep) (it:h.IsKeyIter I d i es.size ep):zI I j d μ h i
def yX(W:Wd)(j st:Nat)(l:List V)(C:AH->Prop):Prop:=∀{μ:Mu} {H:AH} {h:Heap},aY W μ H h->C H->∀{d:lb},μ.l[j]?=F5 (d,L3)->aw (ou μ h d l) (μ.st j=st)
variable{C:AH->Prop}{Q:G7->R5->Prop}
section
variable{st:Nat}
def Nz:yX W j st l (It (.dict st) (.obj j) l):=λ{μ H h} N c d hp=>by
 cases c with|dict hc=>exact(N.cq hc).casesOn λhp' ζ' q=>ζ'.casesOn λe dd r=>pW hp' hp (P:=λp=>aw (ou μ h p.1 _) (μ.st j=st)) ⟨FJ dd r,q _ rfl⟩
def Z0:yX W j st l (It (.aX st) (.obj j) l):=λ{μ H h} N c d hp=>by
 cases c with|aX hc=>exact(N.cq hc).casesOn λhp' ζ' q=>ζ'.casesOn λe dd r=>pW hp' hp (P:=λp=>aw (ou μ h p.1 _) (μ.st j=st)) ⟨K7 dd r,q _ rfl⟩
def Hw(x:h.IsKeyIter I a i n e)(k:∀o,h.get? I=F5 o->h'.get? I=F5 o):h'.IsKeyIter I a i n e:=x.elim λy ζ'=>ζ'.elim λe r=>⟨_,k _ e,r⟩
def Tu(r:aM μ h l (es.toList.map (·.key)))(hi:l[i]?=F5 v)(k:∀e,es[i]?=F5 e->VR μ h v e.key->P):P:=by
 obtain⟨⟨hc,hv⟩⟩:=r.get hi;rw[gC] at hc;obtain⟨e,he,q⟩:=qW.mp hc;exact k e ((Array.getElem?_toList).symm.trans he) (q▸hv)
def Tv(r:aM μ h l (es.toList.map (·.key))):es.size=l.length:=by
 have:=r.length
 rwa [aQ,oR] at this
def Wl(N:aY W μ H h)(hD:D∈μ.g\/h.get? D=L3){p:lb×Option lb}(hp:μ.l[j]?=F5 p)(ho:h.get? p.1=F5 o):p.1≠D:=λq=>
 hD.elim (λm=>(fm.mp N.apart).2.2 D m p.1 (mE.mpr ⟨p,d8 hp,.head _⟩) q.symm) λm=>ai ((q▸m:h.get? p.1=L3).symm.trans ho)
def Ko(hh:A.handled=L3)(hC:yX W j st l C):mN W C l A I (zI I j d) where
 item:=λ{μ H s i v Q} N c st hi k=>by
  obtain⟨nf,hp,hm,it⟩:=st;obtain⟨⟨hm',r⟩,_⟩:=hC N c hp;obtain⟨e1,e2⟩:=hm.inj hm';subst e1;subst e2;refine Tu r hi λe he hv=>Jy hh it hm (λe' he' h' it' hs'=>?_) λhn=>ai (hn.symm.trans he);have E:=uF (μ:=μ) (wy it) (jC hs');have q:=ay (he'.symm.trans he);refine k (tk:=s.toks) (q▸hv.kp E) ⟨nf,hp,hm.to λo e=>jC hs' _ o (λz=>nf (z▸wR hp)) e,it'⟩ (jC hs')
 done:=λ{μ H s i Q} N c st hi k=>by
  obtain⟨nf,hp,hm,it⟩:=st;obtain⟨⟨hm',r⟩,_⟩:=hC N c hp;obtain⟨e1,e2⟩:=hm.inj hm';subst e1;subst e2;exact Jy hh it hm (λe' he'=>absurd (Array.getElem?_eq_some_iff.mp he').1 (gF.mpr (Tv r▸yp.mp hi))) λy h' hs'=>k (tk:=s.toks) (vu hs')
 keep:=λE nX hI N N' c c' st=>by
  obtain⟨nf,hp,hm,it⟩:=st;obtain⟨_,s1⟩:=hC N c hp;have hp':=kj E.pre hp;obtain⟨_,s2⟩:=hC N' c' hp';exact⟨(wy it).nf E nf,hp',hm.to ((E.fU j _ hp).2 (s2.trans s1.symm)),Hw it λo e=>E.keep _ o e nf hI⟩
 grow:=λN E nf' hD hk st=>by
  obtain⟨nf,hp,hm,it⟩:=st;exact⟨nf',kj E.pre hp,hm.to λo e=>hk _ o (Wl N hD hp e) e,Hw it λo e=>hk _ o ((wy it).off hD nf) e⟩
 nf:=λst=>st.casesOn λnf y y y=>nf
 fl:=λst=>st.casesOn λy y y it=>wy it
 self:=λst q=>st.casesOn λy y y it=>wpAny_pyIter_keyiter it q
def yn(W:Wd)(C:AH->Prop)(l:List V)(μ:Mu)(s:R5)(Q:G7->R5->Prop):Prop:=∀{o:Obj} {St:Mu->Heap->Nat->Prop},(∀{A':Around},A'.handled=L3->mN W C l A' s.heap.objs.size St)->St μ (s.heap.push o) 0->Q (.ref s.heap.objs.size) {s with heap:=s.heap.push o}
def FN(wk:kN W)(N:aY W μ H s.heap)(hp:μ.l[j]?=F5 (d,L3))(x:ou μ s.heap d l)
  (k:∀{o:Obj} {t:Unit},(s.heap.objs.size∉foot μ->zI s.heap.objs.size j d μ (s.heap.push o) 0)->Q (.ref s.heap.objs.size) {s with heap:=s.heap.push o}):Wp W A (pyIter (.ref d)) Q s:=
 let ⟨hm,_⟩:=x;Xy (mY wk N hp) hm (k (t:=()) λnf=>⟨nf,hp,hm.to (cH _ _ _),⟨_,dv _ rfl,rfl,rfl⟩⟩)
def Az{k:Kd}(wk:kN W)(N:aY W μ H s.heap)(hv:VR μ s.heap src cv)(x:It k src l H)(q:yn W (It k src l) l μ s Q):Wp W A (pyIter cv) Q s:=by
 have nf:s.heap.objs.size∉foot μ:=N.out (iC _);have up:∀{o:Obj} {v:V} {c:G7},VR μ s.heap v c->VR μ (s.heap.push o) v c:=λr=>r.kp ((nY (cH _ _)).kp .none)
 cases x with
 |@tup l H=>
  refine hv.gS (P:=λc=>VR μ s.heap (.tup l) c->Wp W A (pyIter c) Q s) (λa items z x z z hv=>?_) hv;obtain⟨ho⟩:=x;exact wpAny_pyIter_tuple ⟨_,ho,rfl,_,rfl⟩ (q ZS ⟨nf,up hv,⟨_,dv _ rfl,rfl,rfl⟩⟩)
 |lst hl=>
  refine hl.at N hv (P:=λc=>VR μ s.heap src c->Wp W A (pyIter c) Q s) (λa items x z z hv=>?_) hv;obtain⟨ho⟩:=x;exact wpAny_pyIter_list ⟨_,ho,rfl,_,rfl⟩ (q ZQ ⟨nf,up hv,⟨_,dv _ rfl,rfl,rfl⟩⟩)
 |dict hc=>exact kR N hc hv (P:=λc=>Wp W A (pyIter c) Q s) λa cs hp d r=>FN wk N hp (FJ d r) λ{z z} y=>q (λhh=>Ko hh Nz) (y nf)|aX hc=>exact pv N hc hv (P:=λc=>Wp W A (pyIter c) Q s) λa cs hp d r=>FN wk N hp (K7 d r) λ{z z} y=>q (λhh=>Ko hh Z0) (y nf)
end
def oD(x:l4):Bool:=x.ctorIdx != 7
def rD{x:l4}(h:oD x=F6)(env:Env)(v:G7):foldedSetIterable x env v=pure v:=by
 cases x<;>first|rfl|cases h
variable{s₀:R5}{μ₀:Mu}{xb:List Stmt}{b:aL}{e:IE}
section
variable{F:aT}{St:Mu->Heap->Nat->Prop}
def k8{m:Sem α}{R:α->R5->Prop}(h:Wp W A m R s):wpAny (model W.prog W.w) A m R E s:=m9 h (λy y q=>q) λy y e=>e.elim
inductive EA(W:Wd)(env:Env)(μ:Mu)(s:R5)(c:aT->AH->(V->AH->Prop)->Prop)(b:aT->AH->(Fl->aT->AH->Prop)->Prop)(Q:Fl->aT->AH->Prop)(k:Nat)(s':R5):Prop
 |mk {μ':Mu} {F:aT} {H:AH} (X:gH W env μ s F H μ' s') (q:tK c b k F H Q):EA W env μ s c b Q k s'
set_option tactic.hygienic true in
def SS.eU{c:IE}{b:aL}(hc:ST W n sc c xc)(hb:ft W n sc b xb):SS W n sc (.eU c b) (.While xc xb [] pos):=λ{F H Q env A s μ R} ev K kk=>by
 obtain⟨ev⟩:=ev;rename_i k;refine wpAny_While (codeAny_whileLoop (EA W env μ s (a5 W n c) (λF H Q=>d0 W n b F H Q) Q) ?_ k ⟨K.s0 (tk:=s.toks),ev⟩);intro k s₁ x;obtain⟨X,q⟩:=x;rename_i μ₁ F₁ H₁
 cases k with
 |zero=>exact q.elim|succ k=>
  refine k8 (hc (Q:=λy t H=>if t=F6 then d0 W n b F₁ H (yH (λF H=>tK (a5 W n c) (λF H Q=>d0 W n b F H Q) k F H Q) Q) else Q .aK F₁ H) q (K.rp X) λ{y t y y s₂} q y Y=>?_)
  have Z:=X.trans ((K.rp X).sx Y)
  cases t with
  |false=>
   rw[aD az] at q ⊢;exact wpAny_execs_nil (kk q Z .aK)
  |true=>
   rw[aI rfl] at q ⊢;refine k8 (hb q (K.rp Z) λq Y hf=>?_)
   cases hf with
   |aK=>exact⟨k,dy _,Z.trans Y,q⟩|cnt=>exact⟨k,dy _,Z.trans Y,q⟩|brk=>exact kk q (Z.trans Y) .aK|ret r=>exact kk q (Z.trans Y) (.ret r)
def gH.but(X:gH W env μ₀ s₀ F H μ s)(hI0:s₀.heap.get? I=L3)(hw:W.h₀.get? I=L3)(ho:¬own env I)(nf:I∉foot μ)(f:iw s.heap I)(hk:iv I s.heap h'){tk:Nat}:gH W env μ₀ s₀ F H μ {s with heap:=h',toks:=tk}:=
 have ne:∀{b o},s₀.heap.get? b=F5 o->b≠I:=λe q=>ai (hI0.symm.trans (q▸e));have kp:=uF (μ:=μ) f hk
 ⟨X.g,X.o,⟨X.E.pre,X.E.gs,X.E.new,λb o e n1 n2=>hk b o (ne e) (X.E.keep b o e n1 n2),λb o e=>(X.E.live b o e).casesOn λζ'=>ζ'.casesOn λe' r=>⟨⟨hk b _ (ne e) e',r⟩⟩,
  λi p hp=>⟨(X.E.fU i p hp).1,λq o e=>hk _ _ (ne e) ((X.E.fU i p hp).2 q o e)⟩,λa m o e=>hk a o (ne e) (X.E.gk a m o e)⟩,
  X.N.to kp (λa o m e=>hk a o (λq=>nf (q▸m)) e) (λa o e0 e=>hk a o (λq=>ai (hw.symm.trans (q▸e0))) e),X.fo.to kp λa o m e=>hk a o (λq=>ho (q▸m)) e⟩
def lA.c{x:Nat}{b:aT->AH->(Fl->aT->AH->Prop)->Prop}{Q:Fl->aT->AH->Prop}(q:lA C x b l F H Q):C H:=by
 cases l with
 |nil=>exact q.casesOn λc y=>c|cons=>exact q.casesOn λc y=>c
inductive DL(W:Wd)(env:Env)(μ₀:Mu)(s₀:R5)(C:AH->Prop)(l:List V)(St:Mu->Heap->Nat->Prop)(x:Nat)(b:aT->AH->(Fl->aT->AH->Prop)->Prop)(Q:Fl->aT->AH->Prop)(k:Nat)(s':R5):Prop
 |mk {i:Nat} {r:List V} {μ' μ₂:Mu} {F:aT} {H H₂:AH} {h₂:Heap} (hk:r.length=k) (hd:l.drop i=r) (X:gH W env μ₀ s₀ F H μ' s') (N:aY W μ₂ H₂ h₂) (c:C H₂) (st:St μ₂ h₂ i) (nX:iz (own env) h₂) (E:br (own env) μ₂ h₂ μ' s'.heap) (q:lA C x b r F H Q):DL W env μ₀ s₀ C l St x b Q k s'
def FU{l r:List α}{x:α}(h:l.drop i=x::r):l[i]?=F5 x/\l.drop (i+1)=r:=by
 refine⟨?_,?_⟩
 .have:=aF (·[0]?) h
  rwa [List.getElem?_drop] at this
 .rw[<-List.tail_drop,h];rfl
def FV{l:List α}(h:l.drop i=[]):l[i]?=L3:=qK (DW.mp h)
set_option tactic.hygienic true in
def O2{Q:Fl->aT->AH->Prop}(K:Fr W n sc env A μ H F s)(hst:mN W C l A I St)(hx:eG sc x=F6)(hok:cO x=F6)(hb:ft W n sc b xb)
  (hI0:s₀.heap.get? I=L3) (hw:W.h₀.get? I=L3) (ho:¬own env I) (X:gH W env μ₀ s₀ F H μ s) (st:St μ s.heap 0) (q:lA C (aV x) (λF H Q=>d0 W n b F H Q) l F H Q) {Rr:Result->R5->Prop}
  (hR:KS W env μ₀ s₀ Q (λf s'=>Rr (.ok f) s')):codeAny (model W.prog W.w) A (.forLoop (.Name x px) (.ref I) xb [] env) Rr s:=by
 refine codeAny_forLoop (DL W env μ₀ s₀ C l St (aV x) (λF H Q=>d0 W n b F H Q) Q) ?_ l.length ⟨rfl,rfl,X,K.N,q.c,st,K.fo.ml,.refl,q⟩;intro k s₁ y;obtain⟨hk,hd,X,N₂,c₂,st,nX,E,q⟩:=y;rename_i i r μ₁ μ₂ F₁ H₁ H₂ h₂;have st:=hst.keep E nX ho N₂ X.N c₂ q.c st
 cases r with
 |nil=>
  obtain⟨c,q⟩:=q;exact k8 (hst.done X.N c st (FV hd) λhb=>wpAny_execs_nil (hR q (X.but hI0 hw ho (hst.nf st) (hst.fl st) hb) .aK))
 |cons v r=>
  obtain⟨c,q⟩:=q;obtain⟨d1,d2⟩:=FU hd;refine k8 (hst.item X.N c st d1 λ{h' tk cv} hc st' hbt=>?_);have X':=X.but hI0 hw ho (hst.nf st) (hst.fl st) hbt (tk:=tk);refine C7 (pj X'.fo X'.N K.eo (pF hx) (ip hok) hc λY=>?_);refine k8 (hb q ⟨K.wk,K.eo,K.rb,Y.N,Y.fo⟩ λq Z hf=>?_);have T:=(X'.trans Y).trans Z
  cases hf with
  |aK=>exact⟨r.length,hk▸dy _,rfl,d2,T,X'.N,c,st',X'.fo.ml,(Y.trans Z).E,q⟩|cnt=>exact⟨r.length,hk▸dy _,rfl,d2,T,X'.N,c,st',X'.fo.ml,(Y.trans Z).E,q⟩|brk=>exact hR q T .aK|ret rv=>exact hR q T (.ret rv)
set_option tactic.hygienic true in
def GI{Q:Fl->aT->AH->Prop}(K:Fr W n sc env A μ H F s)(hx:eG sc x=F6)(hok:cO x=F6)(hb:ft W n sc b xb)(X:bR W μ s H' μ' s')(q:lA C (aV x) (λF H Q=>d0 W n b F H Q) l F H' Q){Rr:Result->R5->Prop}
  (hR:KS W env μ s Q (λf s'=>Rr (.ok f) s')):yn W C l μ' s' (λv s=>∀{a:lb},v=.ref a->codeAny (model W.prog W.w) A (.forLoop (.Name x px) (.ref a) xb [] env) Rr s):=λ{o St} hst st0 a e=>by
 cases e;have hI:=iC s'.heap;have G:=bR.grow (tk:=s'.toks) X.N (cH s'.heap o);have T:=X.trans G;exact O2 (K.nx T) (hst K.rb.hd) hx hok hb (X.E.none hI) (X.N.o6 hI) ((K.nx X).fo.JX hI) (K.sx T) st0 q hR
def SS.forIn(he:SE W n sc e xe)(hx:eG sc x=F6)(hok:cO x=F6)(hns:oD xe=F6)(hb:ft W n sc b xb):
  SS W n sc (.forIn (aV x) e b) (.For (.Name x px) xe xb [] pos):=λ{F H Q env A s μ R} ev K kk=>
 wpAny_For (he ev K λq X r=>q.casesOn λit q=>Az K.wk X.N r it λhst st0=>GI K hx hok hb X q kk hst st0 rfl) (rD hns env)
end
variable{pc:Pos}
section
variable{F:aT}{St:Mu->Heap->Nat->Prop}
inductive zH(h:Heap)(r:lb)(k:Nat):Prop
 |mk {t u v:Tok} (x:IsRange h r 0 (k:Int) 1 t u v):zH h r k
def CT{a:IE}(hg:sc.names.lookup ("range":Str)=F5 .globalImplicit)(hb:("range":Str)∈W.fI)(ha:SE W n sc a xa)(hst:noStar xa=F6)(K:Fr W n sc env A μ H F s){P:Nat->AH->Prop}(e:a5 W n a F H λv H=>yl v λk=>P k H)
  (h:∀{k:Nat} {H':AH} {μ':Mu} {s':R5} {r:lb},P k H'->k<=aJ->bR W μ s H' μ' s'->zH s'.heap r k->Q (.ref r) s'):
  Wp W A (eval (.Call (.Name "range" p) [xa] [] pos) env) Q s:=
 Call_ (rV K hg hb (u:=.type "range") (by decide+kernel) (by decide+kernel) (tZ (ry hst) (vm ha hst K e λ{u H₁ μ₁ cu s₁} q X hu=>by
  obtain⟨e,z,p⟩:=q;subst e;refine hu.b7 (P:=λc=>Wp W A (call (.type "range") [c]) _ s₁) λt=>call_range_1 ?_;exact h p z (X.trans (.grow X.N (cH s₁.heap _))) ⟨dv _ rfl⟩)))
def wO{x:Int}(h0:-1<=x)(h1:x<=17000000):Builtin.Range.rangeFitsLong x=F6:=by
 unfold Builtin.Range.rangeFitsLong;rw[d5];exact⟨bE (j8 ⋯ h0),bE (yj h1 ⋯)⟩
def CU(N:aY W μ H s.heap)(hk:k<=aJ){r:lb}(x:zH s.heap r k)(q:yn W (λy=>True) (jL k) μ s Q):Wp W A (pyIter (.ref r)) Q s:=by
 obtain⟨hr⟩:=x;have hsz:Builtin.Range.rangeSize 0 (k:Int) 1=(k:Int):=by
  rw[rangeSize_one];split
  .exact Int.sub_zero _
  .rename_i q;exact(Int.le_antisymm (fD k) (mB.mp q))
 have hk0:(0:Int)<=(k:Int):=fD k;have hk1:(k:Int)<=16000000:=mC.mpr hk;have hk2:(k:Int)<=17000000:=j8 hk1 ⋯
 refine wpAny_pyIter_range hr ?_ (q ZR ⟨N.out (iC _),?_⟩)
 .unfold Builtin.Range.small;rw[hsz,aI ⋯,wO (x:=0) ⋯ ⋯,wO (x:=(k:Int)) (j8 ⋯ hk0) hk2,wO (x:=1) ⋯ ⋯,wO (x:=(k:Int)+(1-1)) (j8 ⋯ (j8 hk0 (Int.le_of_eq (Int.add_zero _).symm))) (j8 (Int.le_of_eq (Int.add_zero _)) hk2),Bool.or_true]
  rfl
 .rw[hsz];have e:((k:Int)-((0:Nat):Int))=(k:Int):=Int.sub_zero _;rw[e];exact dv _ rfl
def SS.forR(he:SE W n sc e xe)(hst:noStar xe=F6)(hg:sc.names.lookup ("range":Str)=F5 .globalImplicit)(hbn:("range":Str)∈W.fI)(hx:eG sc x=F6)(hok:cO x=F6)(hb:ft W n sc b xb):
  SS W n sc (.forR (aV x) e b) (.For (.Name x px) (.Call (.Name "range" p) [xe] [] pc) xb [] pos):=λ{F H Q env A s μ R} ev K kk=>
 wpAny_For (CT hg hbn he hst K ev λq z X r=>CU X.N z r λhst st0=>GI K hx hok hb X q kk hst st0 rfl) (rD rfl env)
end
variable{xb:l4}{l:Nat}{o:Option NameKind}
def zX(eo:gU sc env):env.blockKind=.function:=by unfold Env.blockKind;rw[eo.kind];rfl
def EP{f:l4->Bool}(h1:noStar xa=F6)(h2:noStar xb=F6)(hf:∀x,noStar x=F6->f x=L0):[xa,xb].any f=L0:=by
 rw[qG,qG,hf _ h1,hf _ h2];rfl
def F4{a b:l4}{f:l4->Option β}{o1 o2:Option β}(h1:f a=o1)(h2:f b=o2):List.filterMap f [a,b]=o1.toList++o2.toList:=by
 rw[vN,vN,h1,h2];cases o1<;>cases o2<;>rfl
def Jd(h:o=F5 .local)(hl:(p.line == l)=F6):(if (o == F5 .local&&p.line == l)=F6 then F5 x else L3)=F5 x:=by rw[h,hl];rfl
def Jc(h:o=F5 .cell):(if (o == F5 .local&&p.line == l)=F6 then F5 x else L3)=L3:=by rw[h];rfl
def Ut{a b:Option α}(h:a=L3\/b=L3):((a.toList++b.toList).length != 2)=F6:=by
 cases a<;>cases b<;>first|rfl|(rcases h with h|h<;>cases h)
def uq(sc:Scope)(x y:Str)(px py:Pos)(xa xb:l4):Bool:=
 (sc.names.lookup x == F5 .local)&&(sc.names.lookup y == F5 .local)&&px.line == py.line&&!(y == x)&&noStar xa&&noStar xb&&!([xa,xb].all (foldedForSure 8))&&!([xa,xb].all (constantsAlone 8))
def Zh(h:uq sc x y px py xa xb=F6)(eo:gU sc env):
  swappedStores [.Tuple [.Name x px,.Name y py] k p] (.Tuple [xa,xb] k' p') env=pure (F5 [x,y]):=by
 unfold uq at h;simp only[d5,vA] at h;obtain⟨⟨⟨⟨⟨⟨⟨h1,h2⟩,h3⟩,h4⟩,h5⟩,h6⟩,h7⟩,h8⟩:=h;have k1:=eo.loc x (bc h1);have k2:=eo.loc y (bc h2);have hl:(py.line == px.line)=F6:=by rw[bc h3];exact jb _
 have hb:=zX eo;have h4':¬y=x:=λq=>by rw[q,jb] at h4;cases h4
 have hn:([Expr.Name x px,.Name y py].filterMap λ| .Name id pos=>if (env.kindOf id == F5 .local&&pos.line == px.line)=F6 then F5 id else L3|_=>L3)=[x,y]:=F4 (o1:=F5 x) (o2:=F5 y) (Jd k1 (jb _)) (Jd k2 hl)
 have c1:¬((!(([Expr.Name x px,.Name y py].length == 2)||([Expr.Name x px,.Name y py].length == 3))||[xa,xb].length != [Expr.Name x px,.Name y py].length||env.blockKind != .function)=F6):=by rw[hb];exact az
 have c3:∀{l:List Str},l=[x,y]->¬((l.length != 2||l.eraseDups.length != l.length)=F6):=λe=>by rw[e];simp [h4',List.eraseDups_cons]
 exact(aD c1).trans ((aD λq=>az ((EP h5 h6 λz hz=>by cases z<;>first|rfl|cases hz).symm.trans q)).trans ((aD (c3 hn)).trans ((aD (by rw[h7];exact az)).trans ((aD (by rw[h8];exact az)).trans (aF (λn=>(pure (F5 n):Sem (Option (List Str)))) hn)))))
def v3(sc:Scope)(x y:Str)(xa xb:l4):Bool:=noStar xa&&noStar xb&&((sc.names.lookup x == F5 .cell)||(sc.names.lookup y == F5 .cell))
def NS(h:v3 sc x y xa xb=F6)(eo:gU sc env):
  swappedStores [.Tuple [.Name x px,.Name y py] k p] (.Tuple [xa,xb] k' p') env=pure L3:=by
 unfold v3 at h;rw[d5,d5,vB] at h;obtain⟨⟨h5,h6⟩,h⟩:=h;have hb:=zX eo;have c1:¬((!(([Expr.Name x px,.Name y py].length == 2)||([Expr.Name x px,.Name y py].length == 3))||[xa,xb].length != [Expr.Name x px,.Name y py].length||env.blockKind != .function)=F6):=by rw[hb];exact az
 have q:((if (env.kindOf x == F5 .local&&px.line == px.line)=F6 then F5 x else L3).toList++(if (env.kindOf y == F5 .local&&py.line == px.line)=F6 then F5 y else L3).toList:List Str).length != 2:=
  Ut (h.imp (λh=>Jc (eo.cell x (bc h))) λh=>Jc (eo.cell y (bc h)))
 have c3:(([Expr.Name x px,.Name y py].filterMap λ| .Name id pos=>if (env.kindOf id == F5 .local&&pos.line == px.line)=F6 then F5 id else L3|_=>L3).length != 2||([Expr.Name x px,.Name y py].filterMap λ| .Name id pos=>if (env.kindOf id == F5 .local&&pos.line == px.line)=F6 then F5 id else L3|_=>L3).eraseDups.length != ([Expr.Name x px,.Name y py].filterMap λ| .Name id pos=>if (env.kindOf id == F5 .local&&pos.line == px.line)=F6 then F5 id else L3|_=>L3).length)=F6:=by
  rw[F4 rfl rfl,vB];exact .inl q
 exact(aD c1).trans ((aD λq=>az ((EP h5 h6 λz hz=>by cases z<;>first|rfl|cases hz).symm.trans q)).trans (aI c3))
structure sb(env:Env)(l:List (Str×NameKind))(cl:List (Str×lb)):Prop where
 sub:∀p∈cl,env.cells.lookup p.1=F5 p.2
 all:∀y∈l,y.2=.free->∃c,(y.1,c)∈cl
inductive DD(env:Env)(l:List (Str×NameKind))(acc:List (Str×lb))(m:Sem (List (Str×lb))):Prop
 |mk {cl:List (Str×lb)} (e:m=pure cl) (c:sb env l cl) (o:∀p∈acc,p∈cl)
theorem zw(f:Str×NameKind->List (Str×lb)->Sem (ForInStep (List (Str×lb))))
  (hf:∀name kind cs,f (name,kind) cs=if (kind == .free)=F6 then(do let c <-cellOf env name;pure (.yield ((name,c)::cs))) else pure (.yield cs)):
  ∀(l:List (Str×NameKind)) (acc:List (Str×lb)),(∀y∈l,y.2=.free->∃c,env.cells.lookup y.1=F5 c)->(∀p∈acc,env.cells.lookup p.1=F5 p.2)->DD env l acc (forIn l acc f)
 | []=>λacc z h=>⟨by rw[List.forIn_nil],⟨h,λz q=>memN q⟩,λz q=>q⟩|(name,kind)::r=>λacc hl h=>by
  rw[List.forIn_cons,hf];by_cases hk:(kind == NameKind.free)=F6
  .obtain⟨c,hc⟩:=hl (name,kind) (.head _) (eB.mp hk);obtain⟨e,⟨h1,h3⟩,h2⟩:=zw f hf r ((name,c)::acc) (λy hy=>hl y (.tail _ hy)) (λp hp=>(bD.mp hp).elim (λe=>e▸hc) (h p));refine⟨?_,⟨h1,λy hy hy2=>(bD.mp hy).elim (λe=>⟨c,e▸h2 _ (.head _)⟩) λhy=>h3 y hy hy2⟩,λp hp=>h2 p (.tail _ hp)⟩;rw[aI hk,show cellOf env name=pure c by unfold cellOf;rw[hc]]
   exact e
  .obtain⟨e,⟨h1,h3⟩,h2⟩:=zw f hf r acc (λy hy=>hl y (.tail _ hy)) h;refine⟨?_,⟨h1,λy hy hy2=>(bD.mp hy).elim (λe=>absurd (eB.mpr (show kind=.free from(e▸hy2:(name,kind).2=.free))) hk) λhy=>h3 y hy hy2⟩,h2⟩
   rw[aD hk];exact e
variable{scope:Scope}
def v7(hl:∀y∈scope.names,y.2=.free->∃c,env.cells.lookup y.1=F5 c):DD env scope.names [] (closureFor scope env):=by
 have key:∃f:Str×NameKind->List (Str×lb)->Sem (ForInStep (List (Str×lb))),closureFor scope env=(forIn scope.names [] f >>= pure)/\
   ∀name kind cs,f (name,kind) cs=if (kind == .free)=F6 then(do let c <-cellOf env name;pure (.yield ((name,c)::cs))) else pure (.yield cs):=by
  refine⟨_,rfl,λname kind cs=>?_⟩
  dsimp only
 obtain⟨f,h1,h2⟩:=key;obtain⟨e,c,o⟩:=zw (env:=env) f h2 scope.names [] hl (λz q=>memN q);exact⟨by rw[h1,e];rfl,c,o⟩
def Mu.ghost(μ:Mu)(D:lb):Mu:=⟨D::μ.g,μ.l,μ.st⟩
variable{h₁:Heap}
section
variable{μ₁:Mu}{H₂:AH}
def t6(m:a∈foot (μ.ghost D)):a=D\/a∈foot μ:=bD.mp m
def rH(m:a∈foot μ):a∈foot (μ.ghost D):=Dj _ m
def Mg:D∈foot (μ.ghost D):=oa
def br.off(E:br Y μ₁ h₁ μ h)(E':br X μ h μ' h')(hX:∀a,X a->h₁.get? a=Option.none):br Y μ₁ h₁ μ' h':=
 have T:br (λa=>Y a\/X a) μ₁ h₁ μ' h':=(E.weaken λy=>.inl).trans (E'.weaken λy=>.inr)
 ⟨T.pre,T.gs,T.new,λb o e n1 n2=>T.keep b o e n1 λq=>q.elim n2 λq=>ai ((hX b q).symm.trans e),T.live,T.fU,T.gk⟩
def br.heap(E:br Y μ₁ h₁ μ h)(k:∀b o,h₁.get? b=F5 o->∀o',h.get? b=F5 o'->h'.get? b=F5 o'):br Y μ₁ h₁ μ h':=
 ⟨E.pre,E.gs,E.new,λb o e n1 n2=>k b o e _ (E.keep b o e n1 n2),λb o e=>(E.live b o e).casesOn λζ'=>ζ'.casesOn λe' r=>⟨⟨k b o e _ e',r⟩⟩,λi p hp=>⟨(E.fU i p hp).1,λq o e=>k _ o e _ ((E.fU i p hp).2 q o e)⟩,λa m o e=>k a o e _ (E.gk a m o e)⟩
def BH(hD:h.get? D=L3)(hk:∀b o,h.get? b=F5 o->h'.get? b=F5 o):Kp μ h (μ.ghost D) h':=
 ⟨nG _,λa m=>(t6 m).elim (λe=>.inr (e▸hD)) .inl,λb o y y e y y=>hk b o e⟩
def aY.ghost(N:aY W μ H h)(hD:h.get? D=L3)(hk:∀b o,h.get? b=F5 o->h'.get? b=F5 o)(hl:∃o,h'.get? D=F5 o):aY W (μ.ghost D) H h' where
 base:=λb o e=>hk b o (N.base b o e)
 fresh:=λa m=>(t6 m).elim (λe=>e▸N.o6 hD) (N.fresh a)
 apart:=bo.mpr ⟨N.out hD,N.apart⟩
 jE:=λa m=>(bD.mp m).elim (λe=>e▸hl) λm=>(N.jE a m).elim λo e=>⟨o,hk a o e⟩
 len:=N.len
 cq:=λe=>(N.cq e).kp (BH hD hk) (λp hp a ha o=>hk a o) rfl
def Hz:Kp (μ.ghost D) h μ h:=⟨nG _,λa m=>.inl (rH m),λb o y y e y y=>e⟩
def aY.nf(N:aY W (μ.ghost D) H h):D∉foot μ:=(bo.mp N.apart).1
def aY.drop(N:aY W (μ.ghost D) H h):aY W μ H h:=
 ⟨N.base,λa m=>N.fresh a (rH m),(bo.mp N.apart).2,λa m=>N.jE a (.tail _ m),N.len,λe=>(N.cq e).kp Hz (λp hp a ha o=>id) rfl⟩
def xj(m:a∈foot (μ.push (D,L3))):a∈foot (μ.ghost D):=(AX m).elim rH λm=>(bB.mp m)▸Mg
def Hx:Kp (μ.ghost D) h (μ.push (D,L3)) h:=⟨qO _ _,λa m=>.inl (xj m),λb o y y e y y=>e⟩
def aY.adopt(N:aY W (μ.ghost D) H h){c:Cell}(hc:CR W (μ.push (D,L3)) h (D,L3) c)(hst:stampOf c=L3):aY W (μ.push (D,L3)) (H++[c]) h where
 base:=N.base
 fresh:=λa m=>N.fresh a (xj m)
 apart:=AY μ (D,L3)▸fm.mpr ⟨N.drop.apart,Ki D,λa ha b hb e=>N.nf ((show a=D from e.trans (bB.mp hb))▸ha)⟩
 jE:=λa m=>N.jE a (.tail _ m)
 len:=by show(μ.l++[_]).length=_;rw[a8,a8,show μ.l.length=H.length from N.len];rfl
 cq:=λ{i c'} e=>by
  have hl:μ.l.length=H.length:=N.len;rcases ER e with e|⟨hi,e⟩
  .exact(N.cq e).kp Hx (λp hp a ha o=>id) (aD (ee (hl▸(dT.mp e).1)))
  .rw[hi,<-e];exact⟨by rw[<-hl];exact w8 _ _,hc,λk q=>ai (hst.symm.trans q)⟩
def Wj(N:aY W μ H h)(hD:D∈μ.g){p:lb×Option lb}(hp:μ.l[i]?=F5 p)(ha:a∈adr p):a≠D:=λq=>
 (fm.mp N.apart).2.2 D hD a (mE.mpr ⟨p,d8 hp,ha⟩) q.symm
def BI(hD:D∈μ.g)(hk:iv D h h'):Kp μ h μ h':=⟨nG _,λy m=>.inl m,λb o xs n e y nf=>hk b o (λq=>nf (q▸iO _ hD)) e⟩
def aY.Wu(N:aY W μ H h)(hD:D∈μ.g)(hk:iv D h h')(hl:∃o,h'.get? D=F5 o):aY W μ H h':=
 ⟨λb o e=>hk b o (λq=>ai ((N.fresh D (iO _ hD)).symm.trans (q▸e))) (N.base b o e),N.fresh,N.apart,λa ma=>(oT (a=D)).elim (λq=>q▸hl) λq=>(N.jE a ma).elim λo ho=>⟨o,hk a o q ho⟩,N.len,
  λe=>(N.cq e).kp (BI hD hk) (λp hp a ha o=>hk a o (Wj N hD hp ha)) rfl⟩
def br.LW(E:br X (μ₁.ghost D) h₁ μ' h)(hD0:h₁.get? D=Option.none)(hp:μ₁.l <+:μ''.l)(hg:μ''.g=μ₁.g)(hf:∀a∈foot μ'',a∈foot μ')(hs:∀i,i<μ'.l.length->μ''.st i=μ'.st i):br X μ₁ h₁ μ'' h where
 pre:=hp
 gs:=hg
 new:=λa m=>(E.new a (hf a m)).elim (λm=>(t6 m).elim (λe=>.inr (e▸hD0)) .inl) .inr
 keep:=λb o e nf=>E.keep b o e λm=>(t6 m).elim (λq=>ai (hD0.symm.trans (q▸e))) nf
 live:=λb o e=>(E.live b o e).casesOn λζ'=>ζ'.casesOn λe' r=>⟨⟨e',λm=>r (rH m)⟩⟩
 fU:=λi p q=>(hs i (dT.mp (kj E.pre q)).1)▸E.fU i p q
 gk:=λa m=>E.gk a (.tail _ m)
def Nh{ws:List V}(E:Ext (μ₁.ghost D) h₁ μ' h)(N:aY W μ' H₂ h)(hD:XL h D cvs)(hv:aM μ' h ws cvs)(hD0:h₁.get? D=L3)(z:ws.length<=aJ)(r:LR ws H₂ v H')
  (k:∀{μ'':Mu},Ext μ₁ h₁ μ'' h->aY W μ'' H' h->VR μ'' h v (.ref D)->(∀a∈foot μ'',a∈foot μ')->P):P:=by
 have hg:=E.gs;obtain⟨g,l,st⟩:=μ'
 dsimp only at hg
 subst hg;have N:aY W ((⟨μ₁.g,l,st⟩:Mu).ghost D) H₂ h:=N
 cases r with
 |val=>exact k (μ'':=⟨μ₁.g,l,st⟩) (E.LW hD0 E.pre rfl (λy m=>rH m) λy y=>rfl) N.drop ⟨rfl,N.nf,hD,z,aM.kp Hz ws hv⟩ (λy m=>rH m)|cell=>exact k (μ'':=(⟨μ₁.g,l,st⟩:Mu).push (D,L3)) (E.LW hD0 (E.pre.trans (qO _ _)) rfl (λy m=>xj m) λy hi=>aD (ee hi)) (N.adopt ⟨rfl,z,hD,aM.kp Hx ws hv⟩ rfl) (VR.uT (p:=(D,L3)) (by rw[show H₂.length=l.length from N.len.symm];exact w8 _ _)) λy m=>xj m
end
structure jz(sc sc2:Scope)(x:Str):Prop where
 kind:sc2.kind=.function
 cell:∀y∈sc2.names,y.2≠.cell
 loc:∀y∈sc2.names,y.2=.local->sc2.names.lookup y.1=F5 .local
 G4:sc2.names.lookup x=F5 .local
 ok:dX x
 only:∀y∈sc2.names,y.2=.local->dX y.1->y.1=x
 free:∀y∈sc2.names,y.2=.free->sc.names.lookup y.1=F5 .cell\/sc.names.lookup y.1=F5 .free
theorem mem_of_lookup:∀{l:List (Str×β)} {x:Str} {b:β},l.lookup x=F5 b->(x,b)∈l
 | [],_,_=>λh=>ai h|(n,k)::r,x,b=>λh=>by
  rw[oZ] at h
  cases q:x == n with
  |true=>rw[q] at h;rw[bc q,<-ay h];exact .head _|false=>rw[q] at h;exact .tail _ (mem_of_lookup h)
theorem lookup_some:∀{l:List (Str×β)} {x:Str} {b:β},(x,b)∈l->∃c,l.lookup x=F5 c
 |(n,k)::r,x,b,h=>by
  rw[oZ]
  cases q:x == n with
  |true=>exact⟨k,rfl⟩|false=>exact(bD.mp h).elim (λe=>by rw[ot e |>.1,jb] at q;cases q) lookup_some
def oK(env:Env)(x:Str)(k:NameKind):NameKind:=if (k == NameKind.free&&env.scope.kind == .function&&env.kindOf x == F5 .cell) then NameKind.cell else k
theorem IU{env:Env}:∀{names:List (Str×NameKind)} {x:Str},
  (names.map λ(n,k)=>if (k == NameKind.free&&env.scope.kind == .function&&env.kindOf n == F5 .cell) then(n,NameKind.cell) else(n,k)).lookup x=(names.lookup x).map (oK env x)
 | [],x=>rfl|(n,k)::r,x=>by
  have ih:=@IU env r x;have e:(if (k == NameKind.free&&env.scope.kind == .function&&env.kindOf n == F5 .cell)=F6 then(n,NameKind.cell) else(n,k))=(n,oK env n k):=by unfold oK;split<;>rfl
  show List.lookup x ((if (k == NameKind.free&&env.scope.kind == .function&&env.kindOf n == F5 .cell)=F6 then(n,NameKind.cell) else(n,k))::_)=_
  rw[e,oZ,oZ]
  cases hx:x == n with
  |true=>rw[bc hx];rfl|false=>exact ih
variable{sc2:Scope}{cl:List (Str×lb)}
section
variable{F:aT}
def tc(y:Str):(compEnvC sc2 cl D env).kindOf y=(sc2.names.lookup y).map (oK env y):=IU
def J6{k:NameKind}(h:k≠.free):oK env y k=k:=aD λq=>h (bc (d5 _ _▸(d5 _ _▸q).1).1)
def J5:oK env y .free=.cell\/oK env y .free=.free:=by
 unfold oK;split
 .exact .inl rfl
 .exact .inr rfl
def Ni(K:jz sc sc2 x)(eo:gU sc env)(hf:sb env sc2.names cl):gU sc2 (compEnvC sc2 cl D env) where
 kind:=K.kind
 g:=eo.g
 b:=eo.b
 loc:=λy hy=>by rw[tc,hy];rfl
 cell:=λy hy=>absurd rfl (K.cell _ (mem_of_lookup hy))
 free:=λy hy=>by
  rw[tc,hy];exact(J5 (env:=env) (y:=y)).imp (aF F5) (aF F5)
 glob:=λy hy=>by rw[tc,hy];rfl
 cells:=λy hy=>hy.elim (λhy=>absurd rfl (K.cell _ (mem_of_lookup hy))) λhy=>(hf.all _ (mem_of_lookup hy) rfl).elim λc hc=>lookup_some hc
def without(F:aT)(n:Nat):aT:=λk=>if k=n then L3 else F k
def Lb(F:aT)(n:Nat)(v:V):upd (without F n) n v=upd F n v:=by
 funext k;unfold upd without;split<;>rfl
def aBC:without F n n=L3:=aI rfl
def aBB(e:without F n k=F5 v):F k=F5 v:=by
 unfold without at e;split at e
 .exact ai e
 .exact e
def FO.less(fo:FO W μ F h env m cm)(hF:∀k v,F' k=F5 v->F k=F5 v):FO W μ F' h env m cm:=
 ⟨fo.ns,fo.out,fo.old,fo.cell,fo.apart,λnm v a b c=>fo.loc nm v a (hF _ _ b) c,λnm v a b c=>fo.cq nm v a (hF _ _ b) c⟩
def du.less(fo:du W μ F h env)(hF:∀k v,F' k=F5 v->F k=F5 v):du W μ F' h env:=fo.casesOn λf=>⟨f.less hF⟩
def du.out(fo:du W μ F h env)(ha:own env a):a∉foot μ:=fo.casesOn λf=>(f.CG ha).1
def kinds(K:jz sc sc2 x)(k:(compEnvC sc2 cl D env).kindOf y=F5 .local):sc2.names.lookup y=F5 .local:=by
 rw[tc] at k;obtain⟨k0,hk0,hk1⟩:=qW.mp k;rw[hk0];by_cases q:k0=.free
 .rw[q] at hk1;rcases J5 (env:=env) (y:=y) with r|r<;>(rw[r] at hk1;cases hk1)
 .rw[J6 q] at hk1;rw[hk1]
def T5(K:jz sc sc2 x)(k:(compEnvC sc2 cl D env).kindOf y=F5 .cell\/(compEnvC sc2 cl D env).kindOf y=F5 .free):sc2.names.lookup y=F5 .free:=by
 rw[tc] at k
 cases q:sc2.names.lookup y with
 |none=>rw[q] at k;rcases k with k|k<;>cases k
 |some k0=>
  rw[q] at k;by_cases r:k0=.free
  .rw[r]
  .rw[zD,J6 r] at k;rcases k with k|k
   .exact absurd (ay k) (K.cell _ (mem_of_lookup q))
   .exact absurd (ay k) r
def Nj(K:jz sc sc2 x)(eo:gU sc env)(fo:FO W μ F h env m cm)(hcl:sb env sc2.names cl)
  {m':Str->Option G7} (hns:h.Ns D m') (hout:D∉foot μ) (hold:W.h₀.get? D=L3) (hDc:∀n,env.cells.lookup n≠F5 D):FO W μ (without F (aV x)) h (compEnvC sc2 cl D env) m' cm where
 ns:=hns
 out:=hout
 old:=hold
 cell:=λn c hc=>have hc':=hcl.sub _ (mem_of_lookup hc);have q:=fo.cell n c hc';⟨q.is,q.out,q.old,λq=>hDc n (hc'.trans (aF F5 q))⟩
 apart:=λn n' c a b=>fo.apart n n' c (hcl.sub _ (mem_of_lookup a)) (hcl.sub _ (mem_of_lookup b))
 loc:=λnm v hn e k=>ai (aBC.symm.trans ((K.only _ (mem_of_lookup (kinds K k)) rfl hn:nm=x)▸e))
 cq:=λnm v hn e k=>by
  have hfree:=T5 K k;have hk:env.kindOf nm=F5 .cell\/env.kindOf nm=F5 .free:=(K.free _ (mem_of_lookup hfree) rfl).elim (λq=>.inl (eo.cell _ q)) (eo.free _);obtain⟨h1,h2,h3⟩:=fo.cq nm v hn (aBB e) hk;obtain⟨c',hc'⟩:=hcl.all _ (mem_of_lookup hfree) rfl;obtain⟨c2,hc2⟩:=lookup_some hc';have q:env.cells.lookup nm=F5 c2:=hcl.sub _ (mem_of_lookup hc2);rw[h1] at q;exact⟨(ay q)▸hc2,h2,h3⟩
end
inductive k9(W:Wd)(F:aT)(env:Env)(D:lb)(μ₀:Mu)(s₀:R5)(ys:List V)(H:AH)(μ':Mu)(s':R5):Prop
 |mk {cvs:List G7} (g:s'.gens=s₀.gens) (o:s'.os=s₀.os) (G:Ext (μ₀.ghost D) s₀.heap μ' s'.heap) (N:aY W μ' H s'.heap) (fo:du W μ' F s'.heap env) (hD:XL s'.heap D cvs) (hv:aM μ' s'.heap ys cvs):k9 W F env D μ₀ s₀ ys H μ' s'
inductive DF(W:Wd)(F:aT)(env:Env)(D:lb)(μ₀:Mu)(s₀:R5)(C:AH->Prop)(l:List V)(St:Mu->Heap->Nat->Prop)(x:Nat)(el:aT->AH->(V->AH->Prop)->Prop)(Q:List V->AH->Prop)(k:Nat)(s':R5):Prop
 |mk {i:Nat} {r ys:List V} {μ':Mu} {H:AH} (hk:r.length=k) (hd:l.drop i=r) (hy:ys.length+r.length=l.length) (S:k9 W (without F x) env D μ₀ s₀ ys H μ' s') (st:St μ' s'.heap i) (q:j0 C el x F r H λzs H=>Q (ys++zs) H):DF W F env D μ₀ s₀ C l St x el Q k s'
variable{l ys:List V}{x:Nat}{Q:List V->AH->Prop}{elt:IE}
section
variable{F:aT}{St:Mu->Heap->Nat->Prop}
def j0.c{el:aT->AH->(V->AH->Prop)->Prop}(q:j0 C el x F l H Q):C H:=by
 cases l with
 |nil=>exact q.casesOn λc y=>c|cons=>exact q.casesOn λc y=>c
def k9.but(S:k9 W F env D μ₀ s₀ ys H μ s)(hI0:s₀.heap.get? I=L3)(hw:W.h₀.get? I=L3)(ho:¬own env I)(nf:I∉foot μ)(f:iw s.heap I)(hk:iv I s.heap h'){tk:Nat}:k9 W F env D μ₀ s₀ ys H μ {s with heap:=h',toks:=tk}:=
 have kp:=uF (μ:=μ) f hk
 let ⟨g,o,G,N,fo,hD,hv⟩:=S
 ⟨g,o,G.heap λb o e o'=>hk b o' λq=>ai (hI0.symm.trans (q▸e)),N.to kp (λa o m=>hk a o λq=>nf (q▸m)) (λa o e0=>hk a o λq=>ai (hw.symm.trans (q▸e0))),fo.to kp λa o m=>hk a o λq=>ho (q▸m),
  hD.at λo=>hk _ o λq=>nf (q▸iO _ (G.gs▸oa)),hv.kp kp⟩
def k9.more{w:V}(g:s.gens=s₀.gens)(o:s.os=s₀.os)(G:Ext (μ₀.ghost D) s₀.heap μ s.heap)(hD0:s₀.heap.get? D=L3)(N:aY W μ H s.heap)(fo:du W μ (upd F x v) s.heap env)(hv:aM μ s.heap ys cvs)(hw:VR μ s.heap w cw)(hk:iv D s.heap h')(hD:XL h' D (cvs++[cw])){tk:Nat}:
  k9 W (without F x) env D μ₀ s₀ (ys++[w]) H μ {s with heap:=h',toks:=tk}:=
 have hg:D∈μ.g:=G.gs▸oa;have kp:=BI hg hk
 ⟨g,o,G.heap λb o e o'=>hk b o' λq=>ai (hD0.symm.trans (q▸e)),N.Wu hg hk hD.some,(fo.to kp λa o m=>hk a o λq=>fo.out m (q▸iO _ hg)).less λk u e=>by
  unfold without at e;unfold upd;split at e
  .exact ai e
  .rename_i q;rw[aD q];exact e,hD,aM.append (hv.kp kp) (.one (hw.kp kp))⟩
set_option tactic.hygienic true in
def Nn{x:Str}
  (wk:kN W) (R:Rb A n) (hst:mN W C l A I St) (eo:gU sc env) (hx:sc.names.lookup x=F5 .local) (hok:dX x) (he:SE W n sc elt xe)
  (hI0:s₀.heap.get? I=L3) (hw:W.h₀.get? I=L3) (ho:¬own env I) (hC0:s₀.heap.get? env.locals=L3) (hD0:s₀.heap.get? D=L3) (hlen:l.length<=aJ)
  (S:k9 W (without F (aV x)) env D μ₀ s₀ [] H μ s) (st:St μ s.heap 0) (q:j0 C (λF H Q=>a5 W n elt F H Q) (aV x) F l H Q) {Rr:Result->R5->Prop}
  (hR:∀{ws:List V} {H':AH} {s':R5} {μ':Mu},Q ws H'->ws.length=l.length->k9 W (without F (aV x)) env D μ₀ s₀ ws H' μ' s'->Rr (.ok .next) s'):
  codeAny (model W.prog W.w) A (.compLoop (.ListComp xe [⟨.Name x px,xi,[],0⟩] scope pos) 0 (.ref I) (.ref D) env) Rr s:=by
 refine codeAny_compLoop_tests (DF W F env D μ₀ s₀ C l St (aV x) (λF H Q=>a5 W n elt F H Q) Q) ?_ l.length ⟨rfl,rfl,cW _,S,st,q⟩;intro k s₁ y;obtain⟨hk,hd,hy,S,st,q⟩:=y;rename_i i r ys μ₁ H₁;have c:=q.c
 cases r with
 |nil=>
  obtain⟨_,q⟩:=q;have N:=let ⟨_,_,_,N,_,_,_⟩:=S;N;rw[fj] at q;exact k8 (hst.done N c st (FV hd) λhb=>hR q hy (S.but hI0 hw ho (hst.nf st) (hst.fl st) hb))
 |cons v r=>
  obtain⟨_,q⟩:=q;obtain⟨d1,d2⟩:=FU hd;have N:=let ⟨_,_,_,N,_,_,_⟩:=S;N;refine k8 (hst.item N c st d1 λ{h' tk cv} hc st' hbt=>?_);obtain⟨g,o,G,N,fo,hD,hv⟩:=S.but hI0 hw ho (hst.nf st) (hst.fl st) hbt (tk:=tk);refine C7 (Ks fo N eo hx hok hc λ{s₂} Y=>?_);rw[List.forIn_nil];refine aj ?_;rw[aI rfl];refine k8 (he q ⟨wk,eo,R,Y.N,Lb F (aV x) v▸Y.fo⟩ λ{w z z z s₃} q Z hw=>?_);have E:=Y.E.trans Z.E.any;have nX:iz (·=env.locals) h':=λa o e=>fo.ml a o (.inl e);have G3:=G.off E λa (e:a=env.locals)=>e▸hC0;have hg:D∈μ₁.g:=G.gs▸oa;obtain⟨hD⟩:=hD;have hD3:=E.gk D hg _ hD;have st3:=hst.keep E nX (λq=>ho (.inl q)) N Z.N c q.c st';refine append_at hD3 (λh5 hs5 hD5=>?_) ?_
  .refine⟨r.length,hk▸dy _,rfl,d2,by rw[a8,bT,bW [w].length];exact hy,k9.more ((Z.g.trans Y.g).trans g) ((Z.o.trans Y.o).trans o) G3 hD0 Z.N (Lb F (aV x) v▸Y.fo.ext Z.E) (aM.ext E nX _ hv) hw (jC hs5) ⟨Dk _ _▸hD5⟩ (tk:=s₃.toks),
    hst.grow Z.N (BI (G3.gs▸oa) (jC hs5)) (hst.nf st3) (.inl (G3.gs▸oa)) (jC hs5) st3,?_⟩
   have e:(λzs H=>Q ((ys++[w])++zs) H)=λzs H=>Q (ys++w::zs) H:=funext λzs=>by rw[dw];rfl
   rw[e];exact q
  .rw[bQ,hv.length];exact aA (aA (hy▸aW _ _) hlen) Cg
end
structure vD(W:Wd)(env:Env)(s₀:R5)(Cd:lb)(μ':Mu)(s':R5):Prop where
 ns:∃m',s'.heap.Ns Cd m'
 nf:Cd∉foot μ'
 w:W.h₀.get? Cd=L3
 s:s₀.heap.get? Cd=L3
 no:¬own env Cd
variable{x:Str}{Q:V->AH->Prop}{Cd:lb}{it:IE}{spos:Pos}
section
variable{F:aT}{St:Mu->Heap->Nat->Prop}
def B4(ha:h.objs.size<=a):h.get? a=L3:=by
 cases e:h.get? a with
 |none=>rfl|some o'=>exact absurd (hJ e) (gF.mpr ha)
def du.JW(fo:du W μ F h env)(hd:h.get? a=L3):a≠env.locals/\∀k,env.cells.lookup k≠F5 a:=
 have q:=fo.JX hd
 ⟨λe=>q (.inl e),λk e=>q (.inr ⟨k,e⟩)⟩
set_option tactic.hygienic true in
def Nl{HI:Heap}{tk:Nat}
  (K:jz sc scope x) (he:SE W n scope elt xe) (K1:Fr W n sc env A μ H F s) (hc:sb env scope.names cl) (hst:mN W C l A s.heap.objs.size St) (st0:St μ HI 0) (hlen:l.length<=aJ) (q:j0 C (λF H Q=>a5 W n elt F H Q) (aV x) F l H λws H=>oh ws H Q)
  (keI:∀b o,s.heap.get? b=F5 o->HI.get? b=F5 o) (oldI:∀b o,HI.get? b=F5 o->h₁.get? b=F5 o) (hDI:HI.get? D=L3) (hD0:s.heap.get? D=L3) (hC0:s.heap.get? Cd=L3) (hID:s.heap.objs.size≠D) (hIC:s.heap.objs.size≠Cd) (hDC:D≠Cd)
  (hD:h₁.get? D=F5 {cls:=.type "list",data:=.seq ([]:List G7).toArray 0}) {m':Str->Option G7} (hns:h₁.Ns Cd m')
  (X0:bR W μ₀ s₀ H μ s) {RR:Result->R5->Prop} (hRR:∀{s':R5} {μ':Mu} {v:V} {H':AH},Q v H'->bR W μ₀ s₀ H' μ' s'->VR μ' s'.heap v (.ref D)->vD W env s₀ Cd μ' s'->RR (.ok .next) s'):
  codeAny (model W.prog W.w) A (.compLoop (.ListComp xe [⟨.Name x px,xi,[],0⟩] scope pos) 0 (.ref s.heap.objs.size) (.ref D) (compEnvC scope cl Cd env)) RR {s with heap:=h₁,toks:=tk}/\St (μ.ghost D) h₁ 0:=by
 have old:∀b o,s.heap.get? b=F5 o->h₁.get? b=F5 o:=λb o e=>oldI b o (keI b o e);have hI0:=iC s.heap;have out:∀{a:lb},s.heap.get? a=L3->a≠D->a∉foot (μ.ghost D):=λhn ne q=>(t6 q).elim ne (K1.N.out hn);have st₁:=hst.grow (K1.N.grow keI) (BH hDI oldI) (out hI0 hID) (.inr hDI) (λb o y e=>oldI b o e) st0;obtain⟨c1,c2⟩:=K1.fo.JW hC0;obtain⟨fo⟩:=K1.fo;have foi:=Nj (D:=Cd) K K1.eo (fo.to (BH hD0 old) λa o y e=>old a o e) hc hns (out hC0 (kE hDC)) (K1.N.o6 hC0) c2;have hIo:¬own (compEnvC scope cl Cd env) s.heap.objs.size:=λq=>q.elim hIC λζ=>ζ.elim λk q=>(K1.fo.JW hI0).2 k (hc.sub _ (mem_of_lookup q));refine⟨Nn (s:={s with heap:=h₁,toks:=tk}) (s₀:=s) (μ₀:=μ) K1.wk K1.rb hst (Ni K K1.eo hc) K.G4 K.ok he hI0 (K1.N.o6 hI0) hIo hC0 hD0 hlen
  ⟨rfl,rfl,nY old,K1.N.ghost hD0 old ⟨_,hD⟩,⟨foi⟩,⟨hD⟩,.nil⟩ st₁ q λq hl S=>?_,st₁⟩
 obtain⟨g,o,G,N,fo',hD,hv⟩:=S;obtain⟨r,q⟩:=q;exact Nh G N hD hv hD0 (hl▸hlen) r λE N' hv' hs=>hRR q (X0.trans ⟨g,o,E,N'⟩) hv' (fo'.casesOn λf=>⟨⟨_,f.ns⟩,λm=>f.out (hs _ m),f.old,X0.E.none hC0,λq=>q.elim c1 λζ=>ζ.elim λk q=>c2 k q⟩)
def wF{o:Obj}
  (K:jz sc scope x) (he:SE W n scope elt xe) (K1:Fr W n sc env A μ H F s) (hc:sb env scope.names cl) (hst:mN W C l A s.heap.objs.size St) (st0:St μ (s.heap.push o) 0) (hlen:l.length<=aJ) (q:j0 C (λF H Q=>a5 W n elt F H Q) (aV x) F l H λws H=>oh ws H Q)
  (X0:bR W μ₀ s₀ H μ s) {RR:G7->lb->Result->R5->Prop} (hRR:∀{Cd D:lb} {s':R5} {μ':Mu} {v:V} {H':AH},Q v H'->bR W μ₀ s₀ H' μ' s'->VR μ' s'.heap v (.ref D)->vD W env s₀ Cd μ' s'->RR (.ref D) Cd (.ok .next) s'):
  Wp W A (newList []) (λacc s₃=>Wp W A (newFunctionEnv scope env.globals cl [] env.qual L3 .none (F5 env)) (λcenv s₄=>
   codeAny (model W.prog W.w) A (.compStart (.ListComp xe [⟨.Name x px,xi,[],0⟩] scope pos) 0 (.ref s.heap.objs.size) acc {cenv with scope:=relabel scope env}) (RR acc cenv.locals) s₄) s₃)
   {s with heap:=s.heap.push o}:=by
 refine jw (wpAny_newFunctionEnv K.cell (λy hy=>memN hy) (λh₁ hns₁ hsb₁=>?_) K.kind)
 dsimp only at hns₁ hsb₁ ⊢
 have szI:(s.heap.push o).objs.size=s.heap.objs.size+1:=by rw[vK]
 have keI:=cH s.heap o;generalize hHI:s.heap.push o=HI at*;have keL:=cH HI {cls:=.type "list",dict:=L3,data:=.seq ([]:List G7).toArray 0};have atL:(HI.push {cls:=.type "list",dict:=L3,data:=.seq ([]:List G7).toArray 0}).get? HI.objs.size=F5 {cls:=.type "list",dict:=L3,data:=.seq ([]:List G7).toArray 0}:=dv _ rfl;have szC:(HI.push {cls:=.type "list",dict:=L3,data:=.seq ([]:List G7).toArray 0}).objs.size=HI.objs.size+1:=by rw[vK]
 generalize HI.push {cls:=.type "list",dict:=L3,data:=.seq ([]:List G7).toArray 0}=H2 at*;have l0:s.heap.objs.size<HI.objs.size:=szI▸dy _;have l1:HI.objs.size<H2.objs.size:=szC▸dy _;have oldI:∀b o,HI.get? b=F5 o->h₁.get? b=F5 o:=λb o e=>hsb₁.extBut b o (ee (jV (hJ e) l1)) (oV _ (keL b o e));obtain⟨loop,st⟩:=Nl (tk:=s.toks+([]:List (Str×G7)).length) (RR:=RR (.ref HI.objs.size) H2.objs.size) (xi:=xi) (px:=px) (pos:=pos) K he K1 hc hst st0 hlen q keI oldI (iC HI) (B4 (d9 l0)) (B4 (d9 (jV l0 l1))) (ee l0) (ee (jV l0 l1)) (ee l1)
  (hsb₁.extBut _ _ (ee l1) (oV _ atL)) hns₁ X0 hRR
 exact codeAny_compStart_list loop (k8 (hst.self (s:={s with heap:=h₁,toks:=s.toks+([]:List (Str×G7)).length}) st loop))
def WW(x:h.Ns a m):iz (·=a) h:=let ⟨_,ho,q⟩:=xS x;λb o (e:b=a) ho'=>ay (ho.symm.trans (e▸ho'))▸q
def Hy(x:h.Ns a m)(hk:iv a h h'):Kp μ h μ h':=⟨nG _,λy m=>.inl m,λb o xs n e d y=>hk b o (λq=>WW x b o q e xs n d) e⟩
def FC{R:G7->R5->Prop}(X:bR W μ₀ s₀ H' μ' s')(hv:VR μ' s'.heap v cv)(c:vD W env s₀ Cd μ' s'){Er:G7->R5->Prop}(k:Kc W μ₀ s₀ H' v R):compPost M A Er L3 R cv Cd (.ok .next) s':=by
 obtain⟨⟨m',hn⟩,nf,hw,hs,_⟩:=c;refine⟨m',hn,λh'' hs''=>?_⟩;have hk:=jC hs'';have kp:=Hy (μ:=μ') hn hk;exact k ⟨X.g,X.o,X.E.heap λb o e o'=>hk b o' λq=>ai (hs.symm.trans (q▸e)),X.N.to kp (λa o m=>hk a o λq=>nf (q▸m)) λa o e0=>hk a o λq=>ai (hw.symm.trans (q▸e0))⟩ (hv.kp kp)
def SE.comp(K:jz sc scope x)(he:SE W n scope e xe)(hi:SE W n sc it xi)(hns:oD xi=F6):
  SE W n sc (.comp e (aV x) it) (.ListComp xe [⟨.Name x px,xi,[],0⟩] scope pos):=λ{F H Q env A s μ R} ev K1 k=>by
 obtain⟨hclos,hc,_⟩:=v7 (env:=env) (scope:=scope) λy hy hf=>K1.eo.cells _ (K.free y hy hf);rw[eval_ListComp];exact C9 (use:=L3) rfl (rD hns env) hclos K.kind K.loc (hi ev K1 λq X r=>q.casesOn λit ζ'=>ζ'.casesOn λz q=>Az K1.wk X.N r it λhst st0=>
  wF K he (K1.nx X) hc (hst K1.rb.hd) st0 z q X λq Y r c=>FC Y r c (k.kc q))
def Iu:(jL k).length=k:=by unfold jL;rw[aQ,kB]
def SE.gL(K:jz sc scope x)(he:SE W n scope e xe)(hi:SE W n sc it xi)(hst:noStar xi=F6)(hg:sc.names.lookup ("range":Str)=F5 .globalImplicit)(hbn:("range":Str)∈W.fI):
  SE W n sc (.gL e (aV x) it) (.ListComp xe [⟨.Name x px,.Call (.Name "range" p) [xi] [] pc,[],0⟩] scope pos):=λ{F H Q env A s μ R} ev K1 k=>by
 obtain⟨hclos,hc,_⟩:=v7 (env:=env) (scope:=scope) λy hy hf=>K1.eo.cells _ (K.free y hy hf);rw[eval_ListComp];exact C9 (use:=L3) rfl (rD rfl env) hclos K.kind K.loc (CT hg hbn hi hst K1 ev λq z X r=>CU X.N z r λhst st0=>
  wF K he (K1.nx X) hc (hst K1.rb.hd) st0 (Iu▸z) q X λq Y r c=>FC Y r c (k.kc q))
def sT(y:Str)(py pos:Pos)(scope:Scope):Bool:=py.line == pos.line&&!(scope.names.any λ(n,k)=>n == y&&(k == .local||k == .cell))
def Kw{l:Nat}(eo:gU sc env)(hy:sc.names.lookup y=F5 .local)(hu:sT y py pos scope=F6):
  swapsWith (.ListComp xe [⟨.Name x px,xi,[],0⟩] scope pos) (F5 (.Name y py)) l env=pure F6:=by
 unfold sT at hu;rw[d5] at hu;show(pure (env.blockKind == .function&&env.kindOf y == F5 .local&&py.line == pos.line&&!(scope.names.any λ(n,k)=>n == y&&(k == .local||k == .cell))):Sem Bool)=pure F6;rw[zX eo,eo.loc y hy,hu.1,hu.2];rfl
set_option tactic.hygienic true in
def Lc{Q:Fl->aT->AH->Prop}(K:Fr W n sc env A μ H F s)(hy:sc.names.lookup y=F5 .local)(hok:cO y=F6)(q:Q .aK (upd F (aV y) v) H')(k:KS W env μ s Q R)
  (X:bR W μ s H' μ' s') (hv:VR μ' s'.heap v (.ref D)) (c:vD W env s Cd μ' s') {Er:G7->R5->Prop}:compPost (model W.prog W.w) A Er (F5 (assign (.Name y py) env)) (λz s'=>R .next s') (.ref D) Cd (.ok .next) s':=by
 obtain⟨⟨m',hn⟩,nf,hw,hs,no⟩:=c;show wpAny _ A (assign (.Name y py) env (.ref D)) _ Er s';refine C7 (pj (K.fo.ext X.E) X.N K.eo (.inl hy) (ip hok) hv λ{s₂} Y=>?_);have hn2:s₂.heap.Ns Cd m':=JJ hn λo e=>Y.E.keep Cd o e nf no;refine⟨m',hn2,λh'' hs''=>?_⟩;have hk:=jC hs'';have kp:=Hy (μ:=μ') hn2 hk;have T:=(K.sx X).trans Y;exact k q ⟨T.g,T.o,T.E.heap λb o e o'=>hk b o' λq=>ai (hs.symm.trans (q▸e)),T.N.to kp (λa o m=>hk a o λq=>nf (q▸m)) (λa o e0=>hk a o λq=>ai (hw.symm.trans (q▸e0))),T.fo.to kp λa o m=>hk a o λq=>no (q▸m)⟩ .aK
def SS.MY(K:jz sc scope x)(he:SE W n scope e xe)(hi:SE W n sc it xi)(hns:oD xi=F6)
  (hy:sc.names.lookup y=F5 .local) (hok:cO y=F6) (hu:sT y py pos scope=F6):
  SS W n sc (.asg (aV y) (.comp e (aV x) it)) (.Assign [.Name y py] (.ListComp xe [⟨.Name x px,xi,[],0⟩] scope pos) spos):=λ{F H Q env A s μ R} ev K1 k=>by
 obtain⟨hclos,hc,_⟩:=v7 (env:=env) (scope:=scope) λy hy hf=>K1.eo.cells _ (K.free y hy hf);rw[exec_Assign_Name_used _ _ _ _ (Kw K1.eo hy hu)];refine aG (eZ (aG ?_));show Wp W A (do let _ <-comprehension (.ListComp xe [⟨.Name x px,xi,[],0⟩] scope pos) scope env _ (newList []) L0 (eval xi env) (F5 (assign (.Name y py) env))) _ s;exact aG (m9 (C9 (use:=F5 (assign (.Name y py) env)) (Q:=λo s'=>R .next s') rfl (rD hns env) hclos K.kind K.loc
  (hi ev K1 λq X r=>q.casesOn λit ζ'=>ζ'.casesOn λz q=>Az K1.wk X.N r it λhst st0=>wF K he (K1.nx X) hc (hst K1.rb.hd) st0 z q X λq Y r c=>Lc K1 hy hok q k Y r c)) (λo s' hq=>aj (aj hq)) λo o e=>e)
def SS.MZ(K:jz sc scope x)(he:SE W n scope e xe)(hi:SE W n sc it xi)(hst:noStar xi=F6)(hg:sc.names.lookup ("range":Str)=F5 .globalImplicit)(hbn:("range":Str)∈W.fI)
  (hy:sc.names.lookup y=F5 .local) (hok:cO y=F6) (hu:sT y py pos scope=F6):
  SS W n sc (.asg (aV y) (.gL e (aV x) it)) (.Assign [.Name y py] (.ListComp xe [⟨.Name x px,.Call (.Name "range" p) [xi] [] pc,[],0⟩] scope pos) spos):=λ{F H Q env A s μ R} ev K1 k=>by
 obtain⟨hclos,hc,_⟩:=v7 (env:=env) (scope:=scope) λy hy hf=>K1.eo.cells _ (K.free y hy hf);rw[exec_Assign_Name_used _ _ _ _ (Kw K1.eo hy hu)];refine aG (eZ (aG ?_));show Wp W A (do let _ <-comprehension (.ListComp xe [⟨.Name x px,.Call (.Name "range" p) [xi] [] pc,[],0⟩] scope pos) scope env _ (newList []) L0 (eval (.Call (.Name "range" p) [xi] [] pc) env) (F5 (assign (.Name y py) env))) _ s;exact aG (m9 (C9 (use:=F5 (assign (.Name y py) env)) (Q:=λo s'=>R .next s') rfl (rD rfl env) hclos K.kind K.loc
  (CT hg hbn hi hst K1 ev λq z X r=>CU X.N z r λhst st0=>wF K he (K1.nx X) hc (hst K1.rb.hd) st0 (Iu▸z) q X λq Y r c=>Lc K1 hy hok q k Y r c)) (λo s' hq=>aj (aj hq)) λo o e=>e)
end
variable{p:Str}{fd:FuncData}{fi:si}
section
variable{F:aT}{s₁:R5}
def vS(μ:Mu)(h:Heap)(env:Env)(F:aT)(m:Str->Option G7):Prop:=∀nm v,dX nm->F (aV nm)=F5 v->env.kindOf nm=F5 .local->sm μ h m nm v
def vC(μ:Mu)(h:Heap)(env:Env)(F:aT)(cm:Str->Option G7):Prop:=∀nm v,dX nm->F (aV nm)=F5 v->env.kindOf nm=F5 .cell\/env.kindOf nm=F5 .free->sj μ h env cm nm v
def RC{c:Prop}[Decidable c]{nm:Str}(hne:nm≠p):(if c then(λy=>if y=p then F5 cv else m y) else m) nm=m nm:=by
 split
 .exact aD hne
 .rfl
def RA{c:Prop}[Decidable c]{nm:Str}(hne:nm≠p):(if c then m else(λy=>if y=p then F5 cv else m y)) nm=m nm:=by
 split
 .rfl
 .exact aD hne
theorem Eg:∀{ps:List Str} {vs:List V} {cvs:List G7} {F:aT} {m cm:Str->Option G7},aM μ h vs cvs->(∀p∈ps,dX p)->(∀p∈ps,env.kindOf p=F5 .local\/(env.kindOf p=F5 .cell/\∃c,env.cells.lookup p=F5 c))->vS μ h env F m->vC μ h env F cm->
  vS μ h env (iu F (ps.map aV) vs) (bindL env.kindOf (ps.zip cvs) m)/\vC μ h env (iu F (ps.map aV) vs) (bindC env.kindOf (ps.zip cvs) cm)
 | [],vs,cvs,F,m,cm=>λy y y h1 h2=>⟨h1,h2⟩|p::ps,[],cvs,F,m,cm=>λhv y y h1 h2=>hv.jP (P:=λcvs=>vS μ h env F (bindL env.kindOf (List.zip (p::ps) cvs) m)/\vC μ h env F (bindC env.kindOf (List.zip (p::ps) cvs) cm)) ⟨h1,h2⟩|p::ps,v::vs,cvs,F,m,cm=>λhv hok hk h1 h2=>by
  refine hv.eY (P:=λcvs=>vS μ h env (iu (upd F (aV p) v) (ps.map aV) vs) (bindL env.kindOf (List.zip (p::ps) cvs) m)/\vC μ h env (iu (upd F (aV p) v) (ps.map aV) vs) (bindC env.kindOf (List.zip (p::ps) cvs) cm)) λcv r hv0 hv'=>?_;refine Eg hv' (λq hq=>hok q (.tail _ hq)) (λq hq=>hk q (.tail _ hq)) (λnm u hn e k=>?_) λnm u hn e k=>?_
  .rcases sS (hok p (.head _)) hn e with ⟨e1,e2⟩|⟨hne,e⟩
   .subst e1;subst e2;exact⟨by rw[aI k];exact aI rfl,hv0⟩
   .obtain⟨a,b⟩:=h1 nm u hn e k;exact⟨(RC hne).trans a,b⟩
  .rcases sS (hok p (.head _)) hn e with ⟨e1,e2⟩|⟨hne,e⟩
   .subst e1;subst e2;have hl:env.kindOf nm≠F5 .local:=λq=>by rw[q] at k;rcases k with k|k<;>cases k
    rcases hk nm (.head _) with q|⟨_,c,hc⟩
    .exact absurd q hl
    .exact⟨hc,by rw[aD hl];exact aI rfl,hv0⟩
   .obtain⟨a,a',b⟩:=h2 nm u hn e k;exact⟨a,(RA hne).trans a',b⟩
theorem Ja:∀{l:List (Str×lb)},(l.Pairwise λx y=>x.2≠y.2)->∀{p q:Str×lb},p∈l->q∈l->p.2=q.2->p=q
 | [],_,_,_=>λhp z z=>memN hp|x::l,h,p,q=>λhp hq e=>by
  rw[List.pairwise_cons] at h;rcases bD.mp hp with e1|hp'
  .rcases bD.mp hq with e2|hq'
   .exact e1.trans e2.symm
   .exact absurd (e1▸e) (h.1 q hq')
  .rcases bD.mp hq with e2|hq'
   .exact absurd (e2▸e.symm) (h.1 p hp')
   .exact Ja h.2 hp' hq' e
theorem zr:∀{names:List (Str×NameKind)} {k:Nat} {acc:List (Str×lb)} {x:Str},((x,NameKind.cell)∈names\/∃c,(x,c)∈acc)->∃c,(x,c)∈cellsFrom k names acc
 | [],_,_,_=>λh=>h.elim (λh=>memN h) id|(y,kd)::r,k,acc,x=>λh=>by
  unfold cellsFrom;split
  .exact zr (h.elim (λh=>(bD.mp h).elim (λe=>.inr ⟨_,by rw[(ot e).1];exact .head _⟩) .inl) λζ=>ζ.elim λc h=>.inr ⟨c,.tail _ h⟩)
  .rename_i hk;exact zr (h.elim (λh=>(bD.mp h).elim (λe=>absurd (eB.mpr (ot e).2.symm) hk) .inl) .inr)
structure DK(W:Wd)(fi:si)(a:lb)(fd:FuncData)(ps:List Str)(body:List Stmt):Prop where
 obj:∃o,W.h₀.get? a=F5 o/\o.data=.func fd
 code:W.h₀.CodeRec fd.code fd.qualname
 Ej:fd.body=.stmts body
 bind:∀vals:List G7,vals.length=ps.length->bindArgs fd ⟨vals,[]⟩=pure (ps.zip vals)
 E6:fd.closure=[]
 g:fd.globals=mainGlobals
 b:fd.builtins=builtinsNs
 co:fd.scope.isCoroutine=L0
 gen:fd.scope.isGenerator=L0
 kind:fd.scope.kind=.function
 par:fi.params=ps.map aV
 ok:∀p∈ps,dX p
 kinds:∀p∈ps,fd.scope.names.lookup p=F5 .local\/fd.scope.names.lookup p=F5 .cell
 free:∀x,fd.scope.names.lookup x≠F5 .free
 run:∀n,ft W n fd.scope fi.body body
def NH(hk:fd.scope.kind=.function)(hg:fd.globals=mainGlobals)(hb:fd.builtins=builtinsNs)(hfree:∀x,fd.scope.names.lookup x≠F5 .free){L:lb}:gU fd.scope (callEnvC fd L a) where
 kind:=hk
 g:=hg
 b:=hb
 loc:=λy h=>h
 cell:=λy h=>h
 free:=λx h=>absurd h (hfree x)
 glob:=λy h=>h
 cells:=λx hx=>hx.elim (λhx=>(zr (k:=L+1) (acc:=[]) (.inl (mem_of_lookup hx))).elim λc hc=>lookup_some hc) λhx=>absurd hx (hfree x)
def J9(Q:V->AH->Prop):Fl->aT->AH->Prop
 | .aK,_,H=>Q .none H| .ret v,_,H=>Q v H|_,_,_=>False
def Yf{a c:Nat}(h:a+20*(n+1)+1300<c):a+3+20*n+1310<c:=by
 rw[mG,<-bT] at h;rw[iy a 3];exact bp (dC (show 1313<=1320 by decide) (a+20*n)) h
def KJ{a c:Nat}(h:a+3*(n+1)+2<c):a+1+3*n+4<c/\a<c:=by
 rw[mG,<-bT] at h;rw[iy a 1];exact⟨h,bp (aW a (3*n)) (bp (aW _ 5) h)⟩
def br.call{μ₂:Mu}{h₂:Heap}(E:br X μ h₁ μ₂ h₂)(ke:∀b o,h.get? b=F5 o->h₁.get? b=F5 o)(hX:∀a,X a->h.get? a=Option.none):Ext μ h μ₂ h₂:=
 (nY ke).off E hX
def Ot{ps:List Str}{body:List Stmt}{vs:List V}(ha:W.mV f=F5 a)(X:DK W fi a fd ps body)(hlen:fi.params.length=vs.length)(ev:d0 W n fi.body (iu (λy=>L3) fi.params vs) H (J9 Q)):Fn W (n+1) f vs H Q:=λha'=>by
 have e:=ay (ha.symm.trans ha');subst e;intro A s μ cvs R K hv kk;obtain⟨o,ho,hd⟩:=X.obj;have N:=K.N;have hl:cvs.length=ps.length:=by rw[hv.length,<-hlen,X.par,aQ]
 have eo:gU fd.scope (callEnvC fd s.heap.objs.size a):=NH X.kind X.g X.b X.free;have Rb':Rb (A.deeper (callEnvC fd s.heap.objs.size a)) n:=⟨by rw[units_deeper];exact Yf K.rm.u,by rw[depth_deeper];exact(KJ K.rm.d).1,K.rm.hd⟩
 have hkin:∀p∈ps,(callEnvC fd s.heap.objs.size a).kindOf p=F5 .local\/((callEnvC fd s.heap.objs.size a).kindOf p=F5 .cell/\∃c,(callEnvC fd s.heap.objs.size a).cells.lookup p=F5 c):=λp hp=>(X.kinds p hp).imp id λq=>⟨q,eo.cells p (.inl q)⟩;refine codeAny_call_cells (KJ K.rm.d).2 (N.base a o ho) hd (K.wk.lim.keeps N.base) (X.code.keeps N.base) X.Ej (X.bind cvs hl) X.E6 (λx hx=>?_) (λs₁ I=>?_) X.co X.gen X.kind
 .rcases hkin x.1 (List.of_mem_zip hx).1 with q|⟨q,c,hc⟩
  .exact .inl q
  .exact .inr ⟨q,zC.mpr ⟨c,hc⟩⟩
 .obtain⟨h₁,tk,e⟩:=I.toInCall.same;subst e;have ke:∀b o,s.heap.get? b=F5 o->h₁.get? b=F5 o:=I.toInCall.keep;have above:∀{c},s.heap.objs.size<=c->s.heap.get? c=L3:=B4;have lt:∀{k c},(callEnvC fd s.heap.objs.size a).cells.lookup k=F5 c->s.heap.objs.size<c:=λhc=>I.above _ _ (mem_of_lookup hc);obtain⟨b1,b2⟩:=Eg (μ:=μ) (h:=h₁) (env:=callEnvC fd s.heap.objs.size a) (F:=λy=>L3) (m:=λy=>L3) (cm:=λy=>L3) (aM.ext (nY ke) .none _ hv) X.ok hkin (λy y y e=>ai e) (λy y y e=>ai e);have fo:du W μ (iu (λy=>L3) fi.params vs) h₁ (callEnvC fd s.heap.objs.size a):=⟨⟨I.toInCall.ns,N.out (above (au _)),N.o6 (above (au _)),λk c hc=>
    ⟨I.cell k c hc,N.out (above (d9 (lt hc))),N.o6 (above (d9 (lt hc))),kE (ee (lt hc))⟩,
   λk k' c hc hc'=>aF Prod.fst (Ja I.apart (mem_of_lookup hc) (mem_of_lookup hc') rfl),by rw[X.par];exact b1,by rw[X.par];exact b2⟩⟩
  refine k8 (X.run n ev ⟨K.wk,eo,Rb',N.grow ke,fo⟩ λ{fl y H' μ₂ y s₂} q Y hf=>?_);have E:Ext μ s.heap μ₂ s₂.heap:=Y.E.call ke λc q=>above (q.elim (λe=>bX e.symm) λζ=>ζ.elim λk q=>d9 (lt q));have S:bR W μ s H' μ₂ s₂:=⟨Y.g,Y.o,E,Y.N⟩
  cases hf with
  |aK=>exact kk q S .of_none|brk=>exact q.elim|cnt=>exact q.elim|ret r=>exact kk q S r
end
def Jg(x:l4):Bool:=x.ctorIdx != 0&&(x.ctorIdx != 3&&(x.ctorIdx != 5&&x.ctorIdx != 15))
def XZ{x:l4}(h:Jg x=F6)(env:Env):PySem.isTrue x env (eval x env)=(do let v <-eval x env;standAt x.pos;holding [v] (truthy v)):=by
 cases x<;>first|exact(az h).elim|exact rfl
def wC(sc sc2:Scope)(x:Str):Bool:=
 sc2.kind == .function&&(cO x&&((sc2.names.lookup x == F5 .local)&&
  sc2.names.all λy=>!(y.2 == .cell)&&((!(y.2 == .local)||((sc2.names.lookup y.1 == F5 .local)&&(!cO y.1||y.1 == x)))&&(!(y.2 == .free)||((sc.names.lookup y.1 == F5 .cell)||(sc.names.lookup y.1 == F5 .free))))))
def Wo(h:dX x):cO x=F6:=d7.mpr λc hc=>bE (h c hc)
variable{a b:Bool}
def cg(h:(a&&b)=F6)(k:a=F6->b=F6->P):P:=by
 cases a with
 |true=>exact k rfl h|false=>exact(az h).elim
def wa(h:(!a||b)=F6)(ha:a=F6):b=F6:=by rw[ha] at h;exact h
def JU(h:(a||b)=F6):a=F6\/b=F6:=Bool.or_eq_true_iff.mp h
def wD(h:wC sc sc2 x=F6):jz sc sc2 x:=
 cg h λh1 h=>cg h λh2 h=>cg h λh3 h4=>
 have h4:=d7.mp h4
 {kind:=bc h1
  cell:=λy hy q=>cg (h4 y hy) λa z=>by rw[eB.mpr q] at a;exact az a
  loc:=λy hy q=>cg (h4 y hy) λz b=>cg b λb z=>cg (wa b (eB.mpr q)) λc z=>bc c
  G4:=bc h3
  ok:=ip h2
  only:=λy hy q o=>cg (h4 y hy) λz b=>cg b λb z=>cg (wa b (eB.mpr q)) λz d=>bc (wa d (Wo o))
  free:=λy hy q=>cg (h4 y hy) λz b=>cg b λz c=>(JU (wa c (eB.mpr q))).imp bc bc}
structure gI where
 attrs:List Str
 kb:List Str
 fI:List Str
 lM:Str->Option Int
 lL:Str->Option Nat
 lK:Str->Option Nat
structure eP(S:gI)(W:Wd):Prop where
 attrs:∀x∈S.attrs,x∈W.attrs
 kb:∀x∈S.kb,x∈W.kb
 fI:∀x∈S.fI,x∈W.fI
 lM:∀x i,S.lM x=F5 i->W.lM x=F5 i
 lL:∀x i,S.lL x=F5 i->W.lL x=F5 i
 lK:∀x i,S.lK x=F5 i->W.lK x=F5 i
def glob(sc:Scope)(x:Str):Bool:=sc.names.lookup x == F5 .globalImplicit
def bi(S:gI)(sc:Scope)(x:Str):Bool:=glob sc x&&S.fI.contains x
def xP(x:Str):Bool:=!(x == ("__debug__":Str))&&!(x == ("__classdict__":Str))
def rd(h:xP x=F6):(x == ("__debug__":Str))=L0/\(x == ("__classdict__":Str))=L0:=cg h λa b=>⟨vA _▸a,vA _▸b⟩
variable{S:gI}
def eP.bi(So:eP S W)(h:Mine.bi S sc x=F6):sc.names.lookup x=F5 .globalImplicit/\x∈W.fI:=cg h λa b=>⟨bc a,So.fI _ (lC.mp b)⟩
inductive Rs{α:Type}(P:α->Prop):Type
 |no|ok (a:α) (h:P a)
section
variable{P:α->Prop}{Q:β->Prop}
def Rs.go(r:Rs P)(k:∀a,P a->Rs Q):Rs Q:=Rs.rec .no k r
def Rs.or(r:Rs P)(k:∀a,P a->Rs Q)(n:Rs Q):Rs Q:=Rs.rec n k r
def Rs.val(r:Rs P):Option α:=Rs.rec L3 (λa y=>F5 a) r
def Rs.get{r:Rs P}{a:α}(h:r.val=F5 a):P a:=by
 cases r with
 |no=>exact ai h|ok b p=>exact ay h▸p
def gd(c:Bool)(k:c=F6->Rs Q):Rs Q:=Bool.rec (motive:=λb=>(b=F6->Rs Q)->Rs Q) (λy=>.no) (λk=>k rfl) c k
def ge(c:Bool)(k:c=F6->Rs Q)(n:Rs Q):Rs Q:=Bool.rec (motive:=λb=>(b=F6->Rs Q)->Rs Q) (λy=>n) (λk=>k rfl) c k
def opt(o:Option α)(k:∀a,o=F5 a->Rs Q):Rs Q:=Option.rec (motive:=λb=>(∀a,b=F5 a->Rs Q)->Rs Q) (λy=>.no) (λa k=>k a rfl) o k
def JT(o:Option α)(k:∀a,o=F5 a->Rs Q)(n:Rs Q):Rs Q:=Option.rec (motive:=λb=>(∀a,b=F5 a->Rs Q)->Rs Q) (λy=>n) (λa k=>k a rfl) o k
end
inductive XV:l4->Type
 |const (c:Const) (k:Nat) (p:Pos):XV (.Constant c k p)|name (x:Str) (p:Pos):XV (.Name x p)|un (op:UnaryOp) (a:l4) (p:Pos):XV (.UnaryOp op a p)|bin (a:l4) (op:Operator) (b:l4) (p:Pos):XV (.BinOp a op b p)|El (op:BoolOp) (xs:List l4) (p:Pos):XV (.BoolOp op xs p)|cmp (a:l4) (ops:List CmpOp) (bs:List l4) (p:Pos):XV (.Compare a ops bs p)|ite (c a b:l4) (p:Pos):XV (.IfExp c a b p)|tup (es:List l4) (k:Nat) (p:Pos):XV (.Tuple es k p)|lst (es:List l4) (p:Pos):XV (.List es p)|dict (ks:List (Option l4)) (vs:List l4) (p:Pos):XV (.Dict ks vs p)|sub (a i:l4) (p:Pos):XV (.Subscript a i p)|slice (lo hi st:Option l4) (p:Pos):XV (.Slice lo hi st p)|attr (a:l4) (nm:Str) (p:Pos):XV (.Attribute a nm p)|call (fn:l4) (args:List l4) (iF:List Keyword) (p:Pos):XV (.Call fn args iF p)|comp (elt:l4) (gs:List Comprehension) (scope:Scope) (p:Pos):XV (.ListComp elt gs scope p)|no {x:l4}:XV x
def view(x:l4):XV x:=by
 cases x with
 |Constant c k p=>exact .const c k p|Name x p=>exact .name x p|UnaryOp op a p=>exact .un op a p|BinOp a op b p=>exact .bin a op b p|BoolOp op xs p=>exact .El op xs p|Compare a ops bs p=>exact .cmp a ops bs p|IfExp c a b p=>exact .ite c a b p|Tuple es k p=>exact .tup es k p|List es p=>exact .lst es p|Dict ks vs p=>exact .dict ks vs p|Subscript a i p=>exact .sub a i p|Slice lo hi st p=>exact .slice lo hi st p|Attribute a nm p=>exact .attr a nm p|Call fn args iF p=>exact .call fn args iF p|ListComp elt gs scope p=>exact .comp elt gs scope p|_=>exact .no
variable{x:l4}
def XV.rU(v:XV x):Rs (λr:Str×Pos=>x=.Name r.1 r.2):=by
 cases v with
 |name n p=>exact .ok (n,p) rfl|_=>exact .no
def XV.z8(v:XV x):Rs (λr:Const×Nat×Pos=>x=.Constant r.1 r.2.1 r.2.2):=by
 cases v with
 |const n k p=>exact .ok (n,k,p) rfl|_=>exact .no
def XV.IJ(v:XV x):Rs (λr:List l4×Pos=>x=.List r.1 r.2):=by
 cases v with
 |lst n p=>exact .ok (n,p) rfl|_=>exact .no
def XV.ZF(v:XV x):Rs (λr:Option l4×Option l4×Option l4×Pos=>x=.Slice r.1 r.2.1 r.2.2.1 r.2.2.2):=by
 cases v with
 |slice a b c p=>exact .ok (a,b,c,p) rfl|_=>exact .no
def XV.NF(v:XV x):Rs (λr:l4×List l4×List Keyword×Pos=>x=.Call r.1 r.2.1 r.2.2.1 r.2.2.2):=by
 cases v with
 |call a b c p=>exact .ok (a,b,c,p) rfl|_=>exact .no
def XV.aAi(v:XV x):Rs (λr:List l4×Nat×Pos=>x=.Tuple r.1 r.2.1 r.2.2):=by
 cases v with
 |tup a b p=>exact .ok (a,b,p) rfl|_=>exact .no
def XV.gL(v:XV x):Rs (λr:l4×List Comprehension×Scope×Pos=>x=.ListComp r.1 r.2.1 r.2.2.1 r.2.2.2):=by
 cases v with
 |comp a b c p=>exact .ok (a,b,c,p) rfl|_=>exact .no
def xW(l:List α):Rs (λa:α=>l=[a]):=by
 cases l with
 |nil=>exact .no|cons a r=>cases r with
  |nil=>exact .ok a rfl|cons=>exact .no
def oB(l:List α):Rs (λy:Unit=>l=[]):=by
 cases l with
 |nil=>exact .ok () rfl|cons=>exact .no
def lx(x:l4):Bool:=x.ctorIdx != 5
def rh(x:l4):Bool:=x.ctorIdx != 7
def JH(h:rh x=F6)(op:CmpOp):behindInMarks op x=L0:=by
 cases x<;>first|rfl|cases h
inductive TE(S:gI)(sc:Scope)(x:l4)(ie:IE):Prop
 |mk (se:∀{W:Wd} {n:Nat},eP S W->SE W n sc ie x) (st:lx x=F6->∀{W:Wd} {n:Nat},eP S W->ST W n sc ie x)
abbrev RE(S:gI)(sc:Scope)(x:l4):Type:=Rs (TE S sc x)
abbrev RL(S:gI)(sc:Scope)(xs:List l4):Type:=Rs λes:fC=>∀{W:Wd} {n:Nat},eP S W->gY W n sc es xs
variable{ie:IE}
def TE.se(t:TE S sc x ie)(so:eP S W):SE W n sc ie x:=t.casesOn λa y=>a so
def TE.st(t:TE S sc x ie)(h:lx x=F6)(so:eP S W):ST W n sc ie x:=t.casesOn λy b=>b h so
def TE.pl(h:Jg x=F6)(se:∀{W:Wd} {n:Nat},eP S W->SE W n sc ie x):TE S sc x ie:=⟨se,λy {y y} so=>ST.plain (se so) λenv=>XZ h env⟩
def TE.ce(h:∀{W:Wd} {n:Nat},eP S W->CE W n sc ie x):TE S sc x ie:=⟨λso=>(h so).se,λy {y y} so=>(h so).st⟩
variable{op:BoolOp}{a ia ib:IE}{p:Pos}{r:Const×Nat×Pos}{b:l4}
section
variable(S:gI)(f:∀sc x,RE S sc x)(sc:Scope)
def sJ(xs:List l4):RL S sc xs:=List.rec (motive:=λxs=>RL S sc xs) (.ok .nil λy=>.nil)
 (λx xs ih=>gd (noStar x) λh=>(f sc x).go λa ha=>ih.go λes he=>.ok (.cons a es) λso=>.cons (ha.se so) h (he so)) xs
structure TB(op:BoolOp)(xs:List l4)(ie:IE):Prop where
 se:∀{W:Wd} {n:Nat} {pos:Pos},eP S W->SE W n sc ie (.BoolOp op xs pos)
 st:∀{W:Wd} {n:Nat} {pos:Pos},eP S W->ST W n sc ie (.BoolOp op xs pos)
def Ek:BoolOp->IE->IE->IE
 | .And,a,b=>.and a b| .Or,a,b=>.or a b
theorem Zw(h:lx x=F6)(ha:TE S sc x a):TB S sc op [x] a:=⟨λso=>SE.last (ha.se so),λso=>by
 cases op with
 |And=>exact ST.Ud (ha.st h so)|Or=>exact ST.Ue (ha.st h so)⟩
theorem Zv{y:l4}{ys:List l4}{b:IE}(h:lx x=F6)(ha:TE S sc x a)(hb:TB S sc op (y::ys) b):TB S sc op (x::y::ys) (Ek op a b):=by
 cases op with
 |And=>exact⟨λso=>SE.and (ha.se so) (hb.se so),λso=>ST.and (ha.st h so) (hb.st so)⟩|Or=>exact⟨λso=>SE.or (ha.se so) (hb.se so),λso=>ST.or (ha.st h so) (hb.st so)⟩
def aAO(op:BoolOp)(xs:List l4):Rs (TB S sc op xs):=List.rec (motive:=λxs=>Rs (TB S sc op xs)) .no
 (λx xs=>List.rec (motive:=λxs=>Rs (TB S sc op xs)->Rs (TB S sc op (x::xs))) (λz=>gd (lx x) λh=>(f sc x).go λa ha=>.ok a (Zw S sc h ha))
  (λy ys z ih=>gd (lx x) λh=>(f sc x).go λa ha=>ih.go λb hb=>.ok (Ek op a b) (Zv S sc h ha hb)) xs) xs
def aAU(c:Const)(k:Nat)(p:Pos):RE S sc (.Constant c k p):=match c with
 | .int i=>.ok (.const (.int i)) (.pl rfl λy=>SE.int)| .str x=>.ok (.const (.str x.cps.toList)) (.pl rfl λy=>SE.str)| .bool b=>.ok (.const (.bool b)) (.pl rfl λy=>SE.bool)| .none=>.ok (.const .none) (.pl rfl λy=>SE.WN)|_=>.no
theorem Z6{i:Int}(e:x=.Constant r.1 r.2.1 r.2.2)(ec:r.1=.int i):TE S sc (.UnaryOp .USub x p) (.const (.int (-i))):=by
 rw[e,ec];exact⟨λy=>SE.neg,λy {y y} y=>ST.plain SE.neg λenv=>rfl⟩
def RW(c:Const):Rs (λi:Int=>c=.int i):=match c with
 | .int i=>.ok i rfl|_=>.no
def WO(c:Const):Rs (λy:Unit=>c=.none):=match c with
 | .none=>.ok () rfl|_=>.no
def ZX(c:Const):Rs (λi:Str=>c=.str i):=match c with
 | .str i=>.ok i rfl|_=>.no
def aAh(op:UnaryOp)(x:l4)(p:Pos):RE S sc (.UnaryOp op x p):=match op with
 | .Not=>gd (lx x) λh=>(f sc x).go λa ha=>.ok (.not a) ⟨λso=>SE.not (ha.se so),λy {y y} so=>ST.not (ha.st h so)⟩| .USub=>(view x).z8.go λr e=>(RW r.1).go λi ec=>.ok (.const (.int (-i))) (Z6 S sc e ec)|_=>.no
def aAf(xs:List l4):Rs (λl=>kI l xs):=List.rec (motive:=λxs=>Rs (λl=>kI l xs)) (.ok [] .nil)
 (λx xs ih=>(view x).z8.go λr e=>(ZX r.1).go λs es=>ih.go λl hl=>.ok (s.cps.toList::l) (by rw[e,es];exact .cons hl)) xs
theorem Z7{a:l4}(ha:TE S sc a ie)(e:x=.Constant r.1 r.2.1 r.2.2)(ec:r.1=.none):TE S sc (.Compare a [.IsNot] [x] p) (.op .mm (.one ie)):=by
 rw[e,ec];exact .ce λso=>SE.mm (ha.se so)
theorem Z2{a:l4}{r:List l4×Pos}(ha:TE S sc a ie)(e:x=.List r.1 r.2)(ec:r.1=[]):TE S sc (.Compare a [.NotEq] [x] p) (.op .fY (.one ie)):=by
 rw[e,ec];exact .ce λso=>SE.fY (ha.se so)
theorem Z9{a:l4}{r:List l4×Pos}{l:List (List Nat)}(ha:TE S sc a ie)(e:x=.List r.1 r.2)(hl:kI l r.1)(h:decide (r.1.length<1000)=F6):TE S sc (.Compare a [.In] [x] p) (.op (.e5 l) (.one ie)):=by
 rw[e];exact .ce λso=>SE.e5 (ha.se so) hl (dG h)
theorem yF{a:l4}{op:CmpOp}(ha:TE S sc a ia)(hb:TE S sc b ib)(h:rh b=F6):TE S sc (.Compare a [op] [b] p) (.op (.cmp op) (.two ia ib)):=
 ⟨λso=>SE.cmp (ha.se so) (hb.se so) (JH h _),λy {y y} so=>ST.cmp (ha.se so) (hb.se so) (JH h _)⟩
def aAT(a:l4)(op:CmpOp)(b:l4)(p:Pos):RE S sc (.Compare a [op] [b] p):=(f sc a).go λia ha=>
 have plain:RE S sc (.Compare a [op] [b] p):=gd (rh b) λh=>(f sc b).go λib hb=>.ok (.op (.cmp op) (.two ia ib)) (yF S sc ha hb h)
 match op with
 | .IsNot=>(view b).z8.go λr e=>(WO r.1).go λy ec=>.ok _ (Z7 S sc ha e ec)| .NotEq=>(view b).IJ.or (λr e=>(oB r.1).go λy ec=>.ok _ (Z2 S sc ha e ec)) (gd (rh b) λh=>(f sc b).go λib hb=>.ok _ (yF S sc ha hb h))| .In=>(view b).IJ.or (λr e=>gd (decide (r.1.length<1000)) λhz=>(aAf r.1).go λl hl=>.ok _ (Z9 S sc ha e hl hz)) (gd (rh b) λh=>(f sc b).go λib hb=>.ok _ (yF S sc ha hb h))|op=>gd (rh b) λh=>(f sc b).go λib hb=>.ok _ (yF S sc ha hb h)
def Nc(a:l4)(ops:List CmpOp)(bs:List l4)(p:Pos):RE S sc (.Compare a ops bs p):=match ops,bs with
 | [op],[b]=>aAT S f sc a op b p|_,_=>.no
def aAd(a:l4)(ia:IE)(ha:TE S sc a ia)(lo hi st:Option l4)(q p:Pos):RE S sc (.Subscript a (.Slice lo hi st q) p):=match lo,hi,st with
 |none,F5 b,L3=>(f sc b).go λib hb=>.ok (.op .jv (.two ia ib)) (.pl rfl λso=>SE.jv (ha.se so) (hb.se so))|some b,L3,L3=>(f sc b).go λib hb=>.ok (.op .iS (.two ia ib)) (.pl rfl λso=>SE.iS (ha.se so) (hb.se so))|some b,F5 d,L3=>(f sc b).go λib hb=>(f sc d).go λid hd=>.ok (.op .cut (.cons ia (.two ib id))) (.pl rfl λso=>SE.cut (ha.se so) (hb.se so) (hd.se so))|_,_,_=>.no
def Rs.cast{P Q:α->Prop}(r:Rs P)(h:∀a,P a->Q a):Rs Q:=r.go λa p=>.ok a (h a p)
def aAg(a i:l4)(p:Pos):RE S sc (.Subscript a i p):=(f sc a).go λia ha=>
 ge (B6 i) (λh=>(f sc i).go λii hi=>.ok (.op .sub (.two ia ii)) (.pl rfl λso=>SE.sub (ha.se so) (hi.se so) h))
  ((view i).ZF.go λr e=>(aAd S f sc a ia ha r.1 r.2.1 r.2.2.1 r.2.2.2 p).cast λy h=>by rw[e];exact h)
end
structure One(S:gI)(sc:Scope)(q x:Str)(args:List l4)(iF:List Keyword)(a:l4):Prop where
 nm:x=q
 args:args=[a]
 iF:iF=[]
 st:noStar a=F6
 bi:bi S sc q=F6
variable{a o elt:l4}{r:l4×Pos×Pos}{x:Str}{io im:IE}{args:List l4}{q:Pos}{gs:List Comprehension}{g:Comprehension}
section
variable(S:gI)(f:∀sc x,RE S sc x)(sc:Scope)
def oneArg(q x:Str)(args:List l4)(iF:List Keyword):Rs (One S sc q x args iF):=gd (x == q&&bi S sc q) λh=>(xW args).go λa ha=>(oB iF).go λy hk=>gd (noStar a) λhs=>
 .ok a (cg h λh1 h2=>⟨bc h1,ha,hk,hs,h2⟩)
structure sZ(S:gI)(sc:Scope)(q:Str)(x:l4)(r:l4×Pos×Pos):Prop where
 eq:x=.Call (.Name q r.2.1) [r.1] [] r.2.2
 st:noStar r.1=F6
 bi:bi S sc q=F6
def vx(q:Str)(x:l4):Rs (sZ S sc q x):=(view x).NF.go λr e=>(view r.1).rU.go λm em=>(oneArg S sc q m.1 r.2.1 r.2.2.1).go λa o=>
 .ok (a,m.2,r.2.2.2) ⟨by rw[e,em,o.nm,o.args,o.iF],o.st,o.bi⟩
theorem Z5(c:sZ S sc "reversed" a r)(hb:bi S sc "list"=F6)(h:TE S sc r.1 ib):TE S sc (.Call (.Name "list" p) [a] [] pos) (.op .listRev (.one ib)):=by
 rw[c.eq];exact .pl rfl λso=>SE.listRev (so.bi hb).1 (so.bi hb).2 (so.bi c.bi).1 (so.bi c.bi).2 (h.se so) c.st
def OX(x:Str):Rs (λf:F1=>f.nm=x):=ge (x == F1.nm .len) (λh=>.ok .len (bc h).symm) (ge (x == F1.nm .tuple) (λh=>.ok .tuple (bc h).symm) (ge (x == F1.nm .sorted) (λh=>.ok .sorted (bc h).symm)
 (ge (x == F1.nm .str) (λh=>.ok .str (bc h).symm) (gd (x == F1.nm .list) λh=>.ok .list (bc h).symm))))
theorem Z4{g:F1}(e:g.nm=x)(hb:bi S sc x=F6)(hs:noStar a=F6)(h:TE S sc a ia):TE S sc (.Call (.Name x p) [a] [] pos) (.op (.f1 g) (.one ia)):=by
 subst e;exact .pl rfl λso=>SE.Ol (so.bi hb).1 (so.bi hb).2 (h.se so) hs
def aAW(x:Str)(a:l4)(p pos:Pos)(hb:bi S sc x=F6)(hs:noStar a=F6):RE S sc (.Call (.Name x p) [a] [] pos):=
 have one:RE S sc (.Call (.Name x p) [a] [] pos):=(OX x).go λg e=>(f sc a).go λia ha=>.ok (.op (.f1 g) (.one ia)) (Z4 S sc e hb hs ha)
 ge (x == ("list":Str)) (λh=>(vx S sc "reversed" a).or (λr c=>(f sc r.1).go λib hi=>.ok (.op .listRev (.one ib)) (by rw[bc h] at hb ⊢;exact Z5 S sc c hb hi)) one) one
theorem Z8(hb:bi S sc x=F6)(h:(x == ("set":Str))=F6):TE S sc (.Call (.Name x p) [] [] pos) (.op .oE .nil):=by
 rw[bc h] at hb ⊢;exact .pl rfl λso=>SE.Y1 (so.bi hb).1 (so.bi hb).2
def aAQ(x:Str)(p pos:Pos)(hb:bi S sc x=F6)(args:List l4):RE S sc (.Call (.Name x p) args [] pos):=match args with
 | []=>gd (x == ("set":Str)) λh=>.ok _ (Z8 S sc hb h)| [a]=>gd (noStar a) λhs=>aAW S f sc x a p pos hb hs|_=>.no
def aAS(x:Str)(args:List l4)(p pos:Pos):RE S sc (.Call (.Name x p) args [] pos):=gd (glob sc x&&xP x) λh=>
 JT (S.lL x) (λi e=>(sJ S f sc args).go λes he=>.ok (.call i es) (.pl rfl λso=>cg h λa b=>SE.call (bc a) (so.lL x i e) (rd b).1 (he so)))
  (JT (S.lK x) (λi e=>(sJ S f sc args).go λes he=>.ok (.new i es) (.pl rfl λso=>cg h λa b=>SE.new (bc a) (so.lK x i e) (rd b).1 (he so)))
   (gd (bi S sc x) λhb=>aAQ S f sc x p pos hb args))
def Rf(args:List l4):Bool:=args.length == 1
def Vu(nm:Str)(args:List l4):Rs (λm:Mt=>m.nm=nm):=
 ge (nm == Mt.nm .append) (λh=>.ok .append (bc h).symm) (ge (nm == Mt.nm .pop) (λh=>ge (Rf args) (λy=>.ok .gM (bc h).symm) (.ok .pop (bc h).symm)) (ge (nm == Mt.nm .insert) (λh=>.ok .insert (bc h).symm)
  (ge (nm == Mt.nm .add) (λh=>.ok .add (bc h).symm) (ge (nm == Mt.nm .discard) (λh=>.ok .discard (bc h).symm) (gd (nm == Mt.nm .ew) λh=>.ok .ew (bc h).symm)))))
theorem no_b(h:L0=F6):P:=(az h).elim
def isNm{x:l4}(v:XV x):Bool:=v.casesOn (motive:=λy y=>Bool) (λy y y=>L0) (λy y=>F6) (λy y y=>L0) (λy y y y=>L0) (λy y y=>L0) (λy y y y=>L0) (λy y y y=>L0) (λy y y=>L0) (λy y=>L0) (λy y y=>L0) (λy y y=>L0) (λy y y y=>L0) (λy y y=>L0) (λy y y y=>L0) (λy y y y=>L0) L0
def baseB{x:l4}(v:XV x):Bool:=v.casesOn (motive:=λy y=>Bool) (λy y y=>F6) (λy y=>F6) (λy y y=>F6) (λy y y y=>F6) (λy y y=>F6) (λy y y y=>F6) (λy y y y=>F6) (λy y y=>F6) (λy y=>F6) (λy y y=>F6) (λy y y=>F6) (λy y y y=>F6) (λy y y=>F6) (λf a y y=>!a.isEmpty&&isNm (view f)) (λy y y y=>F6) L0
theorem nm_call{f:l4}{l:List l4}{iF:List Keyword}(v:XV f):isNm v=F6->PB (.Call f (a::l) iF p):=v.casesOn (motive:=λf v=>isNm v=F6->PB (.Call f (a::l) iF p)) (λy y y=>no_b) (λy y y y y=>rfl) (λy y y=>no_b) (λy y y y=>no_b) (λy y y=>no_b) (λy y y y=>no_b) (λy y y y=>no_b) (λy y y=>no_b) (λy y=>no_b) (λy y y=>no_b) (λy y y=>no_b) (λy y y y=>no_b) (λy y y=>no_b) (λy y y y=>no_b) (λy y y y=>no_b) no_b
theorem base_ok{x:l4}(v:XV x):baseB v=F6->PB x:=v.casesOn (motive:=λx v=>baseB v=F6->PB x) (λy y y y y y=>rfl) (λy y y y y=>rfl) (λy y y y y y=>rfl) (λy y y y y y y=>rfl) (λy y y y y y=>rfl) (λy y y y y y y=>rfl) (λy y y y y y y=>rfl) (λy y y y y y=>rfl) (λy y y y y=>rfl) (λy y y y y y=>rfl) (λy y y y y y=>rfl) (λy y y y y y y=>rfl) (λy y y y y y=>rfl) (λf a y y=>a.casesOn (motive:=λa=>baseB (.call f a _ _)=F6->PB (.Call f a _ _)) no_b λy y=>nm_call (view f)) (λy y y y y y y=>rfl) no_b
structure yv(o:l4)(apos pos:Pos)(args:List l4):Prop where
 base:PB o
 line:(apos.endLine == pos.line)=F6
 Ft:args.length<25
theorem Z1{nm:Str}{m:Mt}{es:fC}(e:m.nm=nm)(k:yv o q p args)(h:TE S sc o io)(he:∀{W:Wd} {n:Nat},eP S W->gY W n sc es args):TE S sc (.Call (.Attribute o nm q) args [] p) (.bm m io es):=by
 subst e;exact .pl rfl λso=>SE.bm (h.se so) k.base k.Ft k.line (he so)
theorem Z3{nm:Str}(e:(nm == ("extend":Str))=F6)(ea:args=[a])(c:sZ S sc "reversed" a r)(k:yv o q p args)(h:TE S sc o io)(hb:TE S sc r.1 ib):TE S sc (.Call (.Attribute o nm q) args [] p) (.jD io ib):=by
 rw[bc e,ea,c.eq];exact .pl rfl λso=>SE.jD (h.se so) k.base k.line (hb.se so) c.st (so.bi c.bi).1 (so.bi c.bi).2
def aAR(o:l4)(nm:Str)(q:Pos)(args:List l4)(p:Pos):RE S sc (.Call (.Attribute o nm q) args [] p):=gd (baseB (view o)&&((q.endLine == p.line)&&decide (args.length<25))) λh=>
 have k:yv o q p args:=cg h λa b=>cg b λb c=>⟨base_ok _ a,b,dG c⟩
 (f sc o).go λio ho=>ge (S.kb.contains nm) (λhm=>(sJ S f sc args).go λes he=>.ok (.ak io (aV nm) es) (.pl rfl λso=>SE.ak (ho.se so) k.base (so.kb _ (lC.mp hm)) k.Ft k.line (he so)))
  (ge (nm == ("extend":Str)) (λe=>(xW args).go λa ea=>(vx S sc "reversed" a).go λr c=>(f sc r.1).go λib hb=>.ok (.jD io ib) (Z3 S sc e ea c k ho hb))
   ((Vu nm args).go λm e=>(sJ S f sc args).go λes he=>.ok (.bm m io es) (Z1 S sc e k ho he)))
def aAY(x:Str)(p:Pos):RE S sc (.Name x p):=gd (xP x) λh=>ge (isVar sc x) (λhv=>gd (cO x) λho=>.ok (.var (aV x)) (.pl rfl λy=>SE.var hv ho (rd h).2 (rd h).1))
 (gd (glob sc x) λhg=>opt (S.lM x) λi e=>.ok (.const (.int i)) (.pl rfl λso=>SE.QX (bc hg) (so.lM _ _ e) (rd h).1))
def QO(g:Comprehension):Rs (λr:Str×Pos×l4=>g=⟨.Name r.1 r.2.1,r.2.2,[],0⟩):=(view g.target).rU.go λm em=>(oB g.ifs).go λy ei=>gd (g.is_async == 0) λh=>.ok (m.1,m.2,g.iter) (by
 cases g;dsimp only at em ei h ⊢;rw[em,ei,bc h])
structure TC(S:gI)(sc:Scope)(elt:l4)(gs:List Comprehension)(scope:Scope)(p:Pos)(ie:IE):Prop where
 se:∀{W:Wd} {n:Nat},eP S W->SE W n sc ie (.ListComp elt gs scope p)
 asg:∀{W:Wd} {n:Nat} {y:Str} {py q:Pos},eP S W->sc.names.lookup y=F5 .local->cO y=F6->sT y py p scope=F6->SS W n sc (.asg (aV y) ie) (.Assign [.Name y py] (.ListComp elt gs scope p) q)
theorem Zy{r:Str×Pos×l4}{c:l4×Pos×Pos}(e1:gs=[g])(e2:g=⟨.Name r.1 r.2.1,r.2.2,[],0⟩)(hK:wC sc scope r.1=F6)(he:TE S scope elt ie)(hc:sZ S sc "range" r.2.2 c)(hm:TE S sc c.1 im):TC S sc elt gs scope p (.gL ie (aV r.1) im):=by
 rw[e1,e2,hc.eq];exact⟨λso=>SE.gL (wD hK) (he.se so) (hm.se so) hc.st (so.bi hc.bi).1 (so.bi hc.bi).2,λso hy ho hu=>SS.MZ (wD hK) (he.se so) (hm.se so) hc.st (so.bi hc.bi).1 (so.bi hc.bi).2 hy ho hu⟩
theorem Zx{r:Str×Pos×l4}(e1:gs=[g])(e2:g=⟨.Name r.1 r.2.1,r.2.2,[],0⟩)(hK:wC sc scope r.1=F6)(he:TE S scope elt ie)(hn:oD r.2.2=F6)(hm:TE S sc r.2.2 im):TC S sc elt gs scope p (.comp ie (aV r.1) im):=by
 rw[e1,e2];exact⟨λso=>SE.comp (wD hK) (he.se so) (hm.se so) hn,λso hy ho hu=>SS.MY (wD hK) (he.se so) (hm.se so) hn hy ho hu⟩
def LH(elt:l4)(gs:List Comprehension)(scope:Scope)(p:Pos):Rs (TC S sc elt gs scope p):=(xW gs).go λg e1=>(QO g).go λr e2=>gd (wC sc scope r.1) λhK=>(f scope elt).go λie he=>
 (vx S sc "range" r.2.2).or (λc hc=>(f sc c.1).go λim hm=>.ok (.gL ie (aV r.1) im) (Zy S sc e1 e2 hK he hc hm)) (gd (oD r.2.2) λhn=>(f sc r.2.2).go λim hm=>.ok (.comp ie (aV r.1) im) (Zx S sc e1 e2 hK he hn hm))
def aAP(fn:l4)(args:List l4)(p:Pos):RE S sc (.Call fn args [] p):=by
 cases view fn with
 |name x q=>exact aAS S f sc x args q p|attr o nm q=>exact aAR S f sc o nm q args p|_=>exact .no
def aAe(x:l4):RE S sc x:=by
 cases view x with
 |const c k p=>exact aAU S sc c k p|name x p=>exact aAY S sc x p|un op a p=>exact aAh S f sc op a p|bin a op b p=>exact(f sc a).go λia ha=>(f sc b).go λib hb=>.ok (.op (.bin op) (.two ia ib)) (.pl rfl λso=>SE.bin (ha.se so) (hb.se so))|El op xs p=>exact(aAO S f sc op xs).cast λy h=>⟨h.se,λy=>h.st⟩|cmp a ops bs p=>exact Nc S f sc a ops bs p|ite c a b p=>exact gd (lx c) λh=>(f sc c).go λic hc=>(f sc a).go λia ha=>(f sc b).go λib hb=>.ok (.ite ic ia ib) ⟨λso=>SE.ite (hc.st h so) (ha.se so) (hb.se so),λq=>(az q).elim⟩|tup es k p=>exact(sJ S f sc es).go λies he=>.ok (.op .tup ies) (.pl rfl λso=>SE.tup (he so))|lst es p=>exact(sJ S f sc es).go λies he=>.ok (.op .lst ies) (.pl rfl λso=>SE.lst (he so))|dict ks vs p=>exact(oB ks).go λy hk=>(oB vs).go λy hv=>.ok (.op .f5 .nil) (by rw[hk,hv];exact .pl rfl λy=>SE.dict)|sub a i p=>exact aAg S f sc a i p|attr a nm p=>exact gd (S.attrs.contains nm&&baseB (view a)) λh=>(f sc a).go λia ha=>.ok (.op (.attr (aV nm)) (.one ia)) (.pl rfl λso=>cg h λh1 h2=>SE.attr (ha.se so) (so.attrs _ (lC.mp h1)) (base_ok _ h2 nm))|call fn args iF p=>exact(oB iF).go λy hk=>(aAP S f sc fn args p).cast λy h=>by rw[hk];exact h|comp elt gs scope p=>exact(LH S f sc elt gs scope p).cast λy h=>.pl rfl h.se|_=>exact .no
end
def trE(S:gI)(k:Nat):∀sc x,RE S sc x:=Nat.rec (λy y=>.no) (λy f sc x=>aAe S f sc x) k
abbrev RS(S:gI)(sc:Scope)(s:Stmt):Type:=Rs λis:IS=>∀{W:Wd} {n:Nat},eP S W->SS W n sc is s
abbrev RB(S:gI)(sc:Scope)(ss:List Stmt):Type:=Rs λis:aL=>∀{W:Wd} {n:Nat},eP S W->ft W n sc is ss
inductive SV:Stmt->Type
 |ret (e:Option l4) (p:Pos):SV (.Return e p)|asg (ts:List l4) (e:l4) (p:Pos):SV (.Assign ts e p)|aug (t:l4) (op:Operator) (e:l4) (p:Pos):SV (.AugAssign t op e p)|GH (t e:l4) (b c:List Stmt) (p:Pos):SV (.For t e b c p)|eU (t:l4) (b c:List Stmt) (p:Pos):SV (.While t b c p)|ite (t:l4) (b c:List Stmt) (p:Pos):SV (.If t b c p)|expr (e:l4) (p:Pos):SV (.Expr e p)|pass (p:Pos):SV (.Pass p)|cont (p:Pos):SV (.Continue p)|no {s:Stmt}:SV s
def aA0(s:Stmt):SV s:=by
 cases s with
 |Return e p=>exact .ret e p|Assign ts e p=>exact .asg ts e p|AugAssign t op e p=>exact .aug t op e p|For t e b c p=>exact .GH t e b c p|While t b c p=>exact .eU t b c p|If t b c p=>exact .ite t b c p|Expr e p=>exact .expr e p|Pass p=>exact .pass p|Continue p=>exact .cont p|_=>exact .no
variable{m:Str×Pos}{es:List l4}{e t:l4}{kk:Nat}{q':Pos}
section
variable(S:gI)(f:∀sc x,RE S sc x)(sc:Scope)
theorem Vz{x:l4}{xs:List l4}{ns:List Nat}(e:x=.Name m.1 m.2)(h:(eG sc m.1&&cO m.1)=F6)(hn:hN sc ns xs):hN sc (aV m.1::ns) (x::xs):=by
 rw[e];exact cg h λa b=>.cons a b hn
def aAZ(xs:List l4):Rs (λns=>hN sc ns xs):=List.rec (motive:=λxs=>Rs (λns=>hN sc ns xs)) (.ok [] .nil)
 (λx xs ih=>(view x).rU.go λm e=>gd (eG sc m.1&&cO m.1) λh=>ih.go λns hn=>.ok (aV m.1::ns) (Vz sc e h hn)) xs
def LN(l:List α):Rs (λr:α×α=>l=[r.1,r.2]):=by
 cases l with
 |nil=>exact .no|cons a r=>cases r with
  |nil=>exact .no|cons b r=>cases r with
   |nil=>exact .ok (a,b) rfl|cons=>exact .no
def aAL(x:Str)(px:Pos)(e:l4)(p:Pos):RS S sc (.Assign [.Name x px] e p):=gd (cO x) λho=>(view e).gL.or
 (λr ec=>gd ((sc.names.lookup x == F5 .local)&&sT x px r.2.2.2 r.2.2.1) λh=>(LH S f sc r.1 r.2.1 r.2.2.1 r.2.2.2).go λie hc=>.ok (.asg (aV x) ie) λso=>by rw[ec];exact cg h λa b=>hc.asg so (bc a) ho b)
 (gd (eG sc x&&kf e) λh=>(f sc e).go λie he=>.ok (.asg (aV x) ie) λso=>cg h λa b=>SS.asg (he.se so) a ho b)
structure Pr(es:List l4)(e:l4)(x y:Str)(px py:Pos)(a b:l4)(k:Nat)(q:Pos):Prop where
 es:es=[.Name x px,.Name y py]
 e:e=.Tuple [a,b] k q
theorem ZN(h:Pr es e x y px py a b k q)(h1:(eG sc x&&cO x)=F6)(h2:(eG sc y&&cO y)=F6)(hs:uq sc x y px py a b=F6)(ha:TE S sc a ia)(hb:TE S sc b ib)(so:eP S W):
  SS W n sc (.swap (aV x) (aV y) ia ib) (.Assign [.Tuple es kk q'] e p):=by
 rw[h.es,h.e];have hs':=hs;unfold uq at hs';obtain⟨a1,a2⟩:=iL.mp h1;obtain⟨b1,b2⟩:=iL.mp h2;obtain⟨c,c2⟩:=iL.mp (iL.mp (iL.mp hs').1).1;have c1:=(iL.mp c).2;intro F H Q env A s μ R;exact SS.swap (ha.se so) (hb.se so) c1 c2 a1 b1 a2 b2 λenv eo=>Zh hs eo
theorem ZK(h:Pr es e x y px py a b k q)(h1:(eG sc x&&cO x)=F6)(h2:(eG sc y&&cO y)=F6)(hs:v3 sc x y a b=F6)(he:TE S sc e ie)(so:eP S W):
  SS W n sc (.gf [aV x,aV y] ie) (.Assign [.Tuple es kk q'] e p):=by
 have he:SE W n sc ie e:=he.se so;rw[h.e] at he ⊢;rw[h.es];obtain⟨a1,a2⟩:=iL.mp h1;obtain⟨b1,b2⟩:=iL.mp h2;intro F H Q env A s μ R;exact SS.gf he (.cons a1 a2 (.cons b1 b2 .nil)) rfl λenv eo=>NS hs eo
def aAM(es:List l4)(k:Nat)(q:Pos)(e:l4)(p:Pos):RS S sc (.Assign [.Tuple es k q] e p):=(view e).aAi.or
 (λt et=>(LN t.1).go λab eab=>(LN es).go λxy exy=>(view xy.1).rU.go λx ex=>(view xy.2).rU.go λy ey=>gd (eG sc x.1&&cO x.1) λh1=>gd (eG sc y.1&&cO y.1) λh2=>
  have h:Pr es e x.1 y.1 x.2 y.2 ab.1 ab.2 t.2.1 t.2.2:=⟨by rw[exy,ex,ey],by rw[et,eab]⟩
  ge (uq sc x.1 y.1 x.2 y.2 ab.1 ab.2) (λhs=>(f sc ab.1).go λia ha=>(f sc ab.2).go λib hb=>.ok (.swap (aV x.1) (aV y.1) ia ib) (ZN S sc h h1 h2 hs ha hb))
   (gd (v3 sc x.1 y.1 ab.1 ab.2) λhs=>(f sc e).go λie he=>.ok (.gf [aV x.1,aV y.1] ie) (ZK S sc h h1 h2 hs he)))
 (gd (notTuple e&&kf e) λh=>(aAZ sc es).go λns hn=>(f sc e).go λie he=>.ok (.gf ns ie) λso=>cg h λa b=>SS.gf (he.se so) hn b λenv eo=>ZV a)
def aAK(t e:l4)(p:Pos):RS S sc (.Assign [t] e p):=match view t with
 | .name x px=>aAL S f sc x px e p| .tup es k q=>aAM S f sc es k q e p| .sub a i q=>gd (kf e) λh=>(f sc e).go λie he=>(f sc a).go λia ha=>(f sc i).go λii hi=>.ok (.cB ia ii ie) λso=>SS.cB (he.se so) (ha.se so) (hi.se so) h| .attr o nm q=>gd (kf e&&S.attrs.contains nm) λh=>(f sc e).go λie he=>(f sc o).go λio ho=>.ok (.setAttr io (aV nm) ie) λso=>cg h λa b=>SS.setAttr (he.se so) (ho.se so) (so.attrs _ (lC.mp b)) a|_=>.no
def aAN(t:l4)(op:Operator)(e:l4)(p:Pos):RS S sc (.AugAssign t op e p):=match view t with
 | .name x q=>gd (eG sc x&&(cO x&&xP x)) λh=>(f sc e).go λie he=>.ok (.aug (aV x) op ie) λso=>cg h λa b=>cg b λb c=>SS.aug (he.se so) a b (rd c).2| .attr a nm q=>gd (S.attrs.contains nm) λh=>(f sc a).go λia ha=>(f sc e).go λie he=>.ok (.lI ia (aV nm) op ie) λso=>SS.lI (ha.se so) (he.se so) (so.attrs _ (lC.mp h))|_=>.no
def sI(g:∀s,RS S sc s)(ss:List Stmt):RB S sc ss:=List.rec (motive:=λss=>RB S sc ss) (.ok .nil λy=>ft.nil) (λs ss ih=>(g s).go λis hs=>ih.go λiss hss=>.ok (.cons is iss) λso=>ft.cons (hs so) (hss so)) ss
theorem ZM{b c:List Stmt}{ib:aL}(et:t=.Name m.1 m.2)(ec:c=[])(h:(eG sc m.1&&cO m.1)=F6)(hr:sZ S sc "range" e r)(he:TE S sc r.1 ie)(hb:∀{W:Wd} {n:Nat},eP S W->ft W n sc ib b)(so:eP S W):SS W n sc (.forR (aV m.1) ie ib) (.For t e b c p):=by
 rw[et,ec,hr.eq];obtain⟨a1,a2⟩:=iL.mp h;exact SS.forR (he.se so) hr.st (so.bi hr.bi).1 (so.bi hr.bi).2 a1 a2 (hb so)
theorem ZL{b c:List Stmt}{ib:aL}(et:t=.Name m.1 m.2)(ec:c=[])(h:(eG sc m.1&&cO m.1)=F6)(hn:oD e=F6)(he:TE S sc e ie)(hb:∀{W:Wd} {n:Nat},eP S W->ft W n sc ib b)(so:eP S W):SS W n sc (.forIn (aV m.1) ie ib) (.For t e b c p):=by
 rw[et,ec];obtain⟨a1,a2⟩:=iL.mp h;exact SS.forIn (he.se so) a1 a2 hn (hb so)
def aAX(g:∀s,RS S sc s)(t e:l4)(b c:List Stmt)(p:Pos):RS S sc (.For t e b c p):=(oB c).go λy ec=>(view t).rU.go λm et=>gd (eG sc m.1&&cO m.1) λh=>
 (vx S sc "range" e).or (λr hr=>(f sc r.1).go λie he=>(sI S sc g b).go λib hb=>.ok (.forR (aV m.1) ie ib) (ZM S sc et ec h hr he hb))
  (gd (oD e) λhn=>(f sc e).go λie he=>(sI S sc g b).go λib hb=>.ok (.forIn (aV m.1) ie ib) (ZL S sc et ec h hn he hb))
def aAa(e:Option l4)(p:Pos):RS S sc (.Return e p):=match e with
 |some e=>(f sc e).go λie he=>.ok (.ret ie) λso=>SS.ret (he.se so)|none=>.ok (.ret (.const .none)) λy=>SS.YZ
def aAc(g:∀s,RS S sc s)(s:Stmt):RS S sc s:=match aA0 s with
 | .ret e p=>aAa S f sc e p| .asg ts e p=>(xW ts).go λt et=>(aAK S f sc t e p).cast λy h=>by rw[et];exact h| .aug t op e p=>aAN S f sc t op e p| .GH t e b c p=>aAX S f sc g t e b c p| .eU t b c p=>gd (lx t) λh=>(oB c).go λy ec=>(f sc t).go λit ht=>(sI S sc g b).go λib hb=>.ok (.eU it ib) λso=>by rw[ec];exact SS.eU (ht.st h so) (hb so)| .ite t b c p=>gd (lx t) λh=>(f sc t).go λit ht=>(sI S sc g b).go λib hb=>(sI S sc g c).go λic hc=>.ok (.ite it ib ic) λso=>SS.ite (ht.st h so) (hb so) (hc so)| .expr e p=>gd (kf e) λh=>(f sc e).go λie he=>.ok (.expr ie) λso=>SS.expr (he.se so) h| .pass p=>.ok .pass λy=>SS.pass| .cont p=>.ok .cont λy=>SS.cont| .no=>.no
end
def trS(S:gI)(k:Nat)(sc:Scope)(j:Nat):∀s,RS S sc s:=Nat.rec (λy=>.no) (λy g s=>aAc S (trE S k) sc g s) j
abbrev pg:Program:=PySem.Challenge.pw_no0186_02
def GB(p:Program):List (Str×Str×Arguments×List Stmt×Scope):=p.main.body.flatMap λs=>match s with
 | .FunctionDef nm args body _ _ _ sc _ _ _=>[(nm,nm,args,body,sc)]| .ClassDef cn _ _ body _ _ _ _ _ _ _=>body.flatMap λs=>match s with
  | .FunctionDef nm args body _ _ _ sc _ _ _=>[(nm,cn++(".":Str)++nm,args,body,sc)]|_=>[]
 |_=>[]
def fnAt(k:Nat):Str×Str×Arguments×List Stmt×Scope:=((GB pg)[k]?).getD (⟨#[]⟩,⟨#[]⟩,⟨[],[],L3,[],[],L3,[]⟩,[],⟨.function,[],L0,L0,[]⟩)
def arrO(l:List α):Array α:=l.toArray
def nonV:G7:=.none
def strV(x:Str)(t:Nat):G7:=.str x t
def sf(t:Nat):G7:=.str "/claim/cut.py" t
def intV(n:Int):G7:=.int n 0
def refV(a:Nat):G7:=.ref a
def tp(l:List G7):Obj:=⟨.type "tuple",L3,.seq (arrO l) 0,arrO []⟩
def fl(l:List G7):Obj:=⟨.none,L3,.fields (arrO l),arrO []⟩
def di(l:List DictEntry)(n:Nat):Obj:=⟨.type "dict",L3,.dict (arrO l) n,arrO []⟩
def oF(y:String)(l:List G7):Obj:=⟨.type y,L3,.fields (arrO l),arrO []⟩
def co(nm qn:Str)(t l ac fg x:Nat)(b:Bool)(v:List G7)(u:Nat):Obj:=oF "code" ([strV nm t,strV qn (t+1),sf (t+2),intV l,intV ac,intV 0,intV 0,intV fg,refV x,.bool b,intV 181,refV (x+1)]++v++[intV u,intV l,sf (u+1)])
def F9(k:Nat)(g:Nat)(pm c:G7):Data:=.func ⟨(fnAt k).1,(fnAt k).2.1,(fnAt k).2.2.1,.stmts (fnAt k).2.2.2.1,(fnAt k).2.2.2.2,g,[],.none,.none,.none,pm,L3,c,.none,0⟩
def fr(k:Nat):Obj:=⟨.none,L3,F9 k 0 .none .none,arrO []⟩
def fo(k:Nat)(pm c:G7):Obj:=⟨.type "function",L3,F9 k 3 pm c,arrO []⟩
def ent(P:Params)(x:Str)(t:Nat)(v:G7):DictEntry:=⟨PyData.keyHash P x,.str x t,v⟩
def alt:List α->List α
 | []=>[]| [x]=>[x]|x::_::l=>x::alt l
def tree:Nat->List Obj->BT
 |0,_=>.nil|n+1,l=>match l with
  | []=>.nil|x::l=>.node x (tree n (alt l)) (tree n (alt (l.drop 1)))
def lcl(k:Nat):List Str:=((fnAt k).2.2.2.2.names.filter λn=>n.2 == .local).map (·.1)
def tks(l:List Str)(t:Nat):List G7:=l.zipIdx.map λe=>strV e.1 (t+e.2)
def fnO(c k a t l:Nat)(m:G7):List Obj:=
 let q:=fnAt k
 let n:=q.2.2.1.args.length
 if c=1 then[tp [],fl [],fr k,co q.1 q.2.1 t l n 3 a F6 [nonV,nonV,nonV,refV (a+2)] (t+3),fo k m (refV (a+3))]
 else[tp [],fl [],tp (tks (lcl k) (t+3)),tp [],fr k,co q.1 q.2.1 t l n 3 a F6 [nonV,refV (a+2),refV (a+3),refV (a+4)] (t+3+(lcl k).length),fo k m (refV (a+5))]
def fns(P:Params)(m:G7):List Nat->Nat->Nat->Nat->List Obj×List DictEntry×List G7×Nat
 | [],_,_,t=>([],[],[],t)|l::ls,k,a,t=>
  let n:=(lcl k).length
  let g:=fns P m ls (k+1) (a+7) (t+6+n)
  (fnO 0 k a t l m++g.1,ent P (fnAt k).1 (t+5+n) (refV (a+6))::g.2.1,intV l::intV 4::refV (a+5)::g.2.2.1,g.2.2.2)
structure Itm where
 c:Nat
 l:Nat
 fs:List Nat
 ns:List Str
def gen(P:Params):List Itm->Nat->Nat->Nat->G7->List G7->List Obj×List DictEntry×List G7×G7×List G7
 | [],_,_,_,m,_=>([],[],[],m,[])|w::ws,k,a,t,m,mr=>
  let e:=ent P
  let nm:=(w.ns[0]?).getD Str.empty
  if w.c<2 then
   let n:=if w.c=1 then 0 else(lcl k).length
   let d:=if w.c=1 then 5 else 7
   let g:=gen P ws (k+1) (a+d) (t+6+n) m mr
   (fnO w.c k a t w.l m++g.1,e (fnAt k).1 (t+5+n) (refV (a+d-1))::g.2.1,intV w.l::intV 0::refV (a+d-2)::g.2.2.1,g.2.2.2.1,[])
  else if w.c<4 then
   let f:=fns P m w.fs k (a+7) (t+12)
   let n:=w.fs.length
   let E:=a+7+7*n
   let T:=f.2.2.2
   let y:=w.ns.drop 1
   let U:=T+y.length
   let b:=w.c=2
   let me:=refV (E+2)
   let ro:=me::(if b then[.type "object"] else mr)
   let g:=gen P ws (k+n) (if b then E+7 else E+5) (if b then U+8 else U+4) m ro
   let bs:=if b then[Value.type "object"] else mr.take 1
   let e0:=e "__module__" (t+7) m
   let e1:=e "__firstlineno__" (t+11) (.int w.l (t+10))::f.2.1++[e "__static_attributes__" U (refV E)]
   ([tp (if b then[] else bs),oF "builtin_function_or_method" [.builtin "type.__prepare__",.type "type"],di (e0::e "__qualname__" (t+9) (strV nm (t+8))::e1) (4+n),tp [],fl f.2.2.1,co nm nm (t+2) w.l 0 0 (a+3) L0 [nonV,nonV,nonV,nonV] (t+5),
    ⟨.type "frame",L3,.plain,arrO [F5 (refV (a+5)),F5 (refV 3),F5 (refV (a+2)),L3,F5 m,L3,F5 (refV 0)]⟩]++f.1++
    [tp (tks y T),di (e0::e1++(if b then[e "__dict__" (U+2) (refV (E+3)),e "__weakref__" (U+4) (refV (E+4)),e "__doc__" (U+5) nonV] else[e "__doc__" (U+1) nonV])) (if b then 4 else 2),
     ⟨.type "type",L3,.cls ⟨nm,bs,ro,E+1,nm,F6,[],g.2.2.2.2,L0,L3,L0⟩,arrO [if b then L3 else F5 (refV a),L3,F5 (strV nm t),F5 (strV nm (t+8)),F5 (.builtin "object.__new__"),F5 (.bool F6)]⟩]++
    (if b then[oF "getset_descriptor" [strV "__dict__" (U+1),me,.builtin "function.__dict__",.builtin "function.__dict__#set"],oF "getset_descriptor" [strV "__weakref__" (U+3),me,.builtin "ExceptionGroup.__weakref__",nonV]] else[])++
    [oF "super" [me,me,me],oF "builtin_function_or_method" [.builtin "object.__init_subclass__",me]]++g.1,
    e nm (if b then U+7 else U+3) me::g.2.1,intV w.l::intV 0::refV (a+5)::g.2.2.1,g.2.2.2.1,if b then[] else[me])
  else
   let g:=gen P ws k a (t+2) (if w.c=4 then strV nm t else m) mr
   (g.1,if w.c=4 then g.2.1 else e nm (t+1) (.int w.l t)::g.2.1,g.2.2.1,g.2.2.2.1,[])
def its:List Itm:=[⟨0,1,[],[]⟩,⟨4,0,[],["clausemill.symbols"]⟩,⟨5,0,[],["A_NIL"]⟩,⟨5,0,[],["F_DOT"]⟩,⟨0,7,[],[]⟩,⟨0,9,[],[]⟩,⟨2,11,[13,23,32,35,45,48,51,54,57,60,63],["Symbols","atom_numbers","functor_numbers","functors","texts"]⟩,⟨4,0,[],["clausemill.terms"]⟩,⟨0,69,[],[]⟩,⟨0,71,[],[]⟩,⟨0,84,[],[]⟩,⟨5,4,[],["CON"]⟩,⟨5,5,[],["INT"]⟩,⟨4,0,[],["clausemill.abstract"]⟩,⟨0,97,[],[]⟩,⟨2,101,[103,111,114,119,122,125],["CodeState","code","kernel","local","next_temporary","plan","seen"]⟩,⟨3,130,[132,148,160,180],["Matcher"]⟩,⟨3,188,[190,211,228,246],["Builder"]⟩,⟨3,256,[258,274,297,317,324,340,345,350,357],["InPlace"]⟩,⟨3,362,[364,376,390,396,417],["CodeMaker"]⟩,⟨0,442,[],[]⟩,⟨4,0,[],["clausemill.kernel"]⟩,⟨2,445,[447],["KernelClause","args","count","functor","goals"]⟩,⟨0,452,[],[]⟩,⟨0,459,[],[]⟩,⟨4,0,[],["clausemill.classify"]⟩,⟨2,464,[466],["VarInfo","count","first","first_chunk","kind","last_chunk","last_goal","slot","unsafe","var"]⟩,⟨2,476,[478,485,488,491,494,497],["ClausePlan","chunks","env_size","infos","live_after","needs_env"]⟩,⟨0,499,[],[]⟩,⟨2,507,[509,512,521],["Survey","infos"]⟩,⟨0,529,[],[]⟩,⟨0,535,[],[]⟩,⟨0,545,[],[]⟩,⟨4,0,[],["law_no0186_02"]⟩,⟨0,575,[],[]⟩,⟨1,589,[],[]⟩,⟨1,597,[],[]⟩,⟨0,600,[],[]⟩,⟨0,608,[],[]⟩,⟨1,612,[],[]⟩,⟨0,617,[],[]⟩,⟨1,626,[],[]⟩,⟨1,645,[],[]⟩,⟨0,654,[],[]⟩,⟨0,678,[],[]⟩,⟨0,686,[],[]⟩,⟨1,688,[],[]⟩,⟨1,822,[],[]⟩,⟨1,832,[],[]⟩,⟨0,858,[],[]⟩,⟨1,870,[],[]⟩]
def LL(n:Nat)(P:Params):List Obj:=
 let e:=ent P
 let g:=gen P (its.take n) 0 15 187 (strV "__main__" 164) []
 [boot_o_0 P,boot_o_1 P,boot_o_2 P,if n=0 then boot_o_3 P else di ([e "__name__" 165 g.2.2.2.1,e "__doc__" 166 nonV,e "__package__" 167 nonV,e "__loader__" 168 (.builtin "__main__.__loader__#opaque"),e "__spec__" 169 nonV,e "__annotations__" 170 (refV 6),e "__builtins__" 171 (refV 4),e "__file__" 173 (sf 172),e "__cached__" 174 nonV]++g.2.1) (9+g.2.1.length),boot_o_4 P,boot_o_5 P,boot_o_6 P,boot_o_7 P,boot_o_8 P,boot_o_9 P,boot_o_10 P,tp [],fl g.2.2.1,co "<module>" "<module>" 182 1 0 0 11 L0 [nonV,nonV,nonV,nonV] 185,
  ⟨.type "frame",L3,.plain,arrO [F5 (refV 13),F5 (refV 3),F5 (refV 3),L3,F5 (strV "__main__" 164),L3,F5 (refV 0)]⟩]++g.1
def L4(P:Params):List Obj:=LL 51 P
def pw:List Stmt:=behindTheImports pg
def sG:Env:={scope:=pg.main.scope,locals:=mainNs,globals:=mainNs,cells:=[],code:=.ref 13,frame:=F5 14}
def topC:Code:=.body pw sG
def pz:List Frame:=[topFrame ⟨0,0,0,0⟩]
def mQ:Option G7:=F5 (.ref 6)
def ZP(l:List Obj)(n tk:Nat)(w:World)(os:OsState):SharedT:=⟨tree 12 l,n,(boot_heap w.params).life,Array.mk [],boot_drawn,tk,os⟩
def SA(j n tk:Nat)(w:World)(os:OsState):SharedT:=ZP (LL j w.params) n tk w os
def S0(w:World)(os:OsState):SharedT:=SA 0 15 187 w os
def S1(w:World)(os:OsState):SharedT:=SA 16 211 451 w os
def S2(w:World)(os:OsState):SharedT:=SA 19 366 675 w os
def S3(w:World)(os:OsState):SharedT:=SA 28 532 923 w os
def S4(w:World)(os:OsState):SharedT:=SA 51 696 1161 w os
def b1:List Stmt:=(pw.drop 0).take 16
def b2:List Stmt:=(pw.drop 16).take 3
def b3:List Stmt:=(pw.drop 19).take 9
def b4:List Stmt:=pw.drop 28
def XC(w:World)(os:OsState):segRunT treeTable pg w 11 mQ 1 1214 (S0 w os) (piecesOf b1 sG topC ⟨0,0,0,0⟩ pz)=F5 (.next,S1 w os,topC,⟨101,0,129,23⟩):=by kernel_rfl
def XD(w:World)(os:OsState):segRunT treeTable pg w 11 mQ 1 1263 (S1 w os) (piecesOf b2 sG topC ⟨101,0,129,23⟩ pz)=F5 (.next,S2 w os,topC,⟨256,0,361,61⟩):=by kernel_rfl
def XE(w:World)(os:OsState):segRunT treeTable pg w 11 mQ 1 1386 (S2 w os) (piecesOf b3 sG topC ⟨256,0,361,61⟩ pz)=F5 (.next,S3 w os,topC,⟨476,0,498,16⟩):=by kernel_rfl
def XF(w:World)(os:OsState):segRunT treeTable pg w 11 mQ 1 931 (S3 w os) (piecesOf b4 sG topC ⟨476,0,498,16⟩ pz)=F5 (.next,S4 w os,topC,⟨870,0,902,67⟩):=by kernel_rfl
section
abbrev rg:OpenLaw:=PySem.Challenge.rw_no0186_02
def jc{a b:Bool}(x:a=F6)(y:b=F6):(a&&b)=F6:=by rw[x,y];rfl
def Bz(lk:Look)(a b:List Stmt):noRoadLSs lk (a++b)=(noRoadLSs lk a&&noRoadLSs lk b):=by
 induction a with
 |nil=>rfl|cons x a ih=>
  show(_&&noRoadLSs lk (a++b))=_;rw[ih,<-Bool.and_assoc];rfl
def Mp:((["vars","dir","locals"]:List Str).filter (readsOut pg pg.main.body))=[]:=by kernel_rfl
def Zb:(!(importedModules pg.main.body).all cThrough.contains)=L0:=by kernel_rfl
def W6:pg.main.body=b1++(b2++(b3++b4)):=by kernel_rfl
def Ye:noRoadLSs {strict:=L0,foot:=L3,bare:=[]} pg.main.body=F6:=by
 rw[W6,Bz,Bz,Bz];exact jc (by kernel_rfl) (jc (by kernel_rfl) (jc (by kernel_rfl) (by kernel_rfl)))
def VM:looksOpen pg=F6:=by
 unfold looksOpen;rw[Mp,Zb];exact jc (jc (jc (jc (jc (by kernel_rfl) (by kernel_rfl)) (by kernel_rfl)) (by kernel_rfl)) Ye) (by kernel_rfl)
def Yg:rg.row.wellSaid=F6:=by
 unfold OpenRow.wellSaid OpenRow.partSaid;refine jc (jc ?_ (by kernel_rfl)) (by kernel_rfl)
 iterate 13 refine jc ?_ (by kernel_rfl)
 exact VM
end
section
def KQ:rg.wellSaid=F6:=by
 unfold OpenLaw.wellSaid
 iterate 18 refine jc ?_ (by kernel_rfl)
 exact Yg
end
section
def Uk:List Stmt:=pg.main.body.drop 50
def qv:Program:={pg with main:={pg.main with body:=Uk}}
def lV:List Str:=(["_wall","A_NIL","F_DOT","fixed_atoms","fixed_functors","Symbols","variables","variables_of","occurrences","CON","INT","constant_cell","CodeState","Matcher","Builder","InPlace","CodeMaker","abstract_code","KernelClause","goal_terms","goal_special","VarInfo","ClausePlan","chunk_numbers","Survey","kind_of","slot_order","classify","_law_draw","_law_line","_law_lined","_law_names","_law_walk","_law_whole","_law_within","_law_meet","_law_event","_law_plain","_law_needs","_law_constant","_law_follow","_law_agree","_law_kernel","_law_term"]:List String).map Str.ofString
def EB:R5->Bool:=λy=>F6
@[irreducible] def hP(P:Params):Heap:=absHeap (tree 12 (L4 P)) 696 (boot_heap P).life
def sP(w:World)(os:OsState):R5:=⟨hP w.params,Array.mk [],boot_drawn,1161,os⟩
def OJ(w:World)(os:OsState):(S4 w os).abs=sP w os:=by kernel_rfl
def VC(w:World)(os:OsState):(staticsOk (importedModules pg.main.body) (boot_heap w.params) (hP w.params)&&namesBound pg (hP w.params)&&gensDone (sP w os)&&laidKept (boot_heap w.params) (hP w.params))=F6:=by kernel_rfl
def VE(w:World)(os:OsState):seen ((recsOf qv).map (·.name)) (ownsOf qv) [] {sP w os with gens:=#[]}=expectedOf qv:=by kernel_rfl
def VF(w:World)(os:OsState):(sP w os).heap.bltView=bltViewBooted:=by kernel_rfl
def VG(w:World)(os:OsState):((sP w os).heap.keysOk (looseW qv lV) ((recsOf qv).map (·.name)) ((litsOf qv).map (·.1)) ((clssOf qv (looseW qv lV)).map (·.name))&&(sP w os).heap.accountedOkI (importedModules pg.main.body)&&(sP w os).heap.isNs mainGlobals&&(sP w os).heap.isNs builtinsNs&&tablesOk qv (sP w os).heap&&EB (sP w os)&&((sP w os).gens.size == 0))=F6:=by kernel_rfl
def VH(w:World)(os:OsState):tabsOk qv (sP w os)=F6:=by kernel_rfl
def VI(w:World)(os:OsState):pinSeenD qv (drecsOf qv) (sP w os)=pinGoodD (drecsOf qv):=by kernel_rfl
def VJ(w:World)(os:OsState):plainSeenE qv (looseW qv lV) (sP w os)=plainGoodE qv (looseW qv lV):=by kernel_rfl
def VK(w:World)(os:OsState):plainSeenD qv lV (sP w os)=plainGoodD qv lV:=by kernel_rfl
def VL(w:World)(os:OsState):wideSeen qv (sP w os)=wideGood qv:=by kernel_rfl
def VD(w:World)(os:OsState):clsSeenW qv lV (sP w os)=clsGoodW qv lV:=by kernel_rfl
end
def CM(a:Arguments):Bool:=a.posonlyargs.isEmpty&&a.vararg.isNone&&a.kwonlyargs.isEmpty&&a.kwarg.isNone
theorem IV:∀{ps:List Str} {vals:List G7},vals.length=ps.length->∀p∈ps,((ps.zip vals).lookup p).isSome=F6
 | [],_,_,p,hp=>memN hp|q::ps,[],h,p,hp=>by cases h|q::ps,v::vals,h,p,hp=>by
  simp only[Dm,oZ];split
  .rfl
  .rename_i hne;rcases bD.mp hp with e|hp
   .subst e;simp at hne
   .exact IV (by simpa using h) p hp
theorem F3{f g:α->Option β}:∀{l:List α},(∀x∈l,f x=g x)->l.filterMap f=l.filterMap g
 | []=>λz=>rfl|x::l=>λh=>by rw[vN,vN,h x (.head _),F3 λy hy=>h y (.tail _ hy)]
theorem Lm:∀{ps:List Str} {vals:List G7},ps.Nodup->vals.length=ps.length->ps.filterMap (λn=>((ps.zip vals).lookup n).map (n,·))=ps.zip vals
 | [],_=>λy y=>rfl|q::ps,[]=>λy h=>by cases h|q::ps,v::vals=>λhn h=>by
  have hn:=bo.mp hn;rw[Dm,vN];simp only[oZ,jb,zD];congr 1
  refine(F3 λp hp=>?_).trans (Lm hn.2 (by simpa using h))
  have:(p == q)=L0:=by
   rw[tV]
   rintro rfl
   exact hn.1 hp
  rw[this]
def Oz{γ:Type}{z:List α}{s:β}{f:α->β->Sem (ForInStep β)}{g:β->Sem γ}(h:z=[]):forIn z s f >>= g=g s:=by subst h;rfl
def aBF{l:List α}:l.zip (([]:List β).drop k)=[]:=by rw[s6,List.zip_nil_right]
variable{n q:Str}{b:FuncBody}{g:lb}{kwd doc pm cd ct:G7}{an:Option lb}{vals:List G7}
def M8{as:List Arg}{ko:List (Option l4)}{df:List l4}{bi:lb}(hn:(as.map (·.arg)).Nodup)(hl:vals.length=(as.map (·.arg)).length):
  bindArgs ⟨n,q,⟨[],as,L3,[],ko,L3,df⟩,b,sc,g,cl,.none,kwd,doc,pm,an,cd,ct,bi⟩ ⟨vals,[]⟩=pure ((as.map (·.arg)).zip vals):=by
 have h1:¬(decide (vals.length>(as.map (·.arg)).length)&&F6)=F6:=by rw[hl,bC (ed _)];exact az
 have hm:(as.map (·.arg)).length-(([]:List G7).drop (([]:List G7).length-(as.map (·.arg)).length)).length=(as.map (·.arg)).length:=by rw[s6];rfl
 have h2:¬(!(((as.map (·.arg)).take ((as.map (·.arg)).length-(([]:List G7).drop (([]:List G7).length-(as.map (·.arg)).length)).length)).filter λn=>(((as.map (·.arg)).zip vals).lookup n).isNone).isEmpty)=F6:=by
  rw[hm,yu,List.filter_eq_nil_iff.mpr λp hp=>by rw[Option.isNone_eq_false_iff.mpr (IV hl p hp)];exact az]
  exact az
 have h3:List.filterMap (λn=>(((as.map Arg.arg).zip vals).lookup n).map (n,·)) (as.map Arg.arg++[])=(as.map Arg.arg).zip vals:=by rw[fj];exact Lm hn hl
 refine(aD h1).trans ((aD h2).trans ?_);exact(Oz aBF).trans (aF (pure (f:=Sem)) h3)
variable{ps:Arguments}
def XU(h:CM ps=F6):ps=⟨[],ps.args,L3,[],ps.kw_defaults,L3,ps.defaults⟩:=by
 have h1:=iL.mp h;have h2:=iL.mp h1.1;have h3:=iL.mp h2.1;exact(show ps=⟨ps.posonlyargs,ps.args,ps.vararg,ps.kwonlyargs,ps.kw_defaults,ps.kwarg,ps.defaults⟩ by cases ps;rfl).trans (by rw[Dh.mp h3.1,D1.mp h3.2,Dh.mp h2.2,D1.mp h1.2])
def Mz{bi:lb}(hp:CM ps=F6)(hn:(ps.args.map (·.arg)).Nodup)(hl:vals.length=(ps.args.map (·.arg)).length):
  bindArgs ⟨n,q,ps,b,sc,g,cl,.none,kwd,doc,pm,an,cd,ct,bi⟩ ⟨vals,[]⟩=pure ((ps.args.map (·.arg)).zip vals):=by
 rw[XU hp];exact M8 hn hl
theorem Ik:∀{l:List (Nat×β)} {x:Nat} {b:β},l.lookup x=F5 b->(x,b)∈l
 | [],_,_=>λh=>ai h|(y,c)::l,x,b=>λh=>by
  rw[oZ] at h;split at h
  .rename_i e;rw[bc e];cases h;exact .head _
  .exact .tail _ (Ik h)
variable{v:G7}
section
def fA:List Nat:=[21,28,35,49,56,63,70,77,84,91,98,105,112,119,133,140,147,154,168,175,182,189,196,203,224,231,238,245,264,271,278,285,304,311,318,325,332,339,346,353,360,379,386,393,400,407,419,433,447,454,468,489,496,503,510,517,524,538,552,559,566,580,587,594,601,606,611,618,625,630,637,642,647,654,661,668,673,678,683,690,695]
def Jh:List G7:=.replicate 1 (strV "__main__" 164)++.replicate 13 (strV "clausemill.symbols" 194)++.replicate 3 (strV "clausemill.terms" 332)++.replicate 30 (strV "clausemill.abstract" 366)++.replicate 3 (strV "clausemill.kernel" 755)++.replicate 14 (strV "clausemill.classify" 807)++.replicate 17 (strV "law_no0186_02" 1026)
def cL:List (Nat×Nat):=[(0,122),(5,410),(6,436),(7,471),(8,527),(9,569)]
def KA:List Nat:=[122,121,206,205,248,247,288,287,363,362,410,409,436,435,471,470,527,526,569,568]++fA
def Ai:List (Str×Nat):=((GB pg).zipIdx.filter λe=>e.1.1 == e.1.2.1).map λe=>(e.1.1,e.2)
def Ah:List (Str×Nat):=([("Symbols",0),("CodeMaker",5),("KernelClause",6),("VarInfo",7),("ClausePlan",8),("Survey",9)]:List (String×Nat)).map λe=>(Str.ofString e.1,e.2)
def Aj:List (Str×Int):=([("A_NIL",0),("F_DOT",0),("CON",4),("INT",5)]:List (String×Int)).map λe=>(Str.ofString e.1,e.2)
def xI:List ((Nat×Nat)×Nat):=[((0,5929987949),4),((0,100897158637842290),6),((0,6013939299),7),((0,1518042969209),9),((5,5996636532),19),((5,29028909779157184358610936885881),20),((5,101739320438647140),21),((5,111863565712922486446909386356),22),((5,1582366286693),23),((5,28553514230927730767136968502900),24),((5,1569298080616),25),((5,1897164968328812631054732654321497203),26),((5,7410800657534425848493992510123109),27),((5,1522388266084),28),((5,109699635645612750339947324787),29),((5,29425046964601494130652034790515),30),((5,114941589706983022890938690661),31),((5,1763479434849757986513260),32),((5,8327796176364402537107088797765516207285496933),33),((5,1938966143961158221447987740652889459),34),((5,6667233722873370993509),35),((5,1517942301043),36),((5,7270166046139272155806917352252786),37),((5,408354559388773),38),((5,447781419885367196255219558),39),((5,6722640649202348879732),40),((5,7391621563157248401458788381389939),41),((5,28873521731084510004641471294565),42),((5,443021384642753003221115244),43),((5,6030319980),44),((5,390792119415653),45),((8,101739320438647140),54),((9,6130328948),59),((9,1599429832051),60)]
def unc:Nat->Nat->List Nat->List Nat
 |0,_,l=>l|k+1,n,l=>if n<256 then l else unc k (n / 256) (n % 256::l)
def uN:List (Nat×Str×Nat):=xI.map λe=>(e.1.1,⟨(unc 40 e.1.2 []).toArray⟩,e.2)
def Gv:List (Nat×Nat):=[(0,3),(5,18),(6,47),(7,50),(8,51),(9,58)]
def tU:List Str:=(["functor","texts","atom_numbers","functors","functor_numbers","kernel","plan","code","seen","local","next_temporary","args","goals","count","var","kind","slot","first","unsafe","last_goal","first_chunk","last_chunk","infos","chunks","needs_env","env_size","live_after"]:List String).map Str.ofString
def xH:List Str:=uN.map (·.2.1)
def zY:List Str:=(["len","list","tuple","range","reversed","sorted","set","str"]:List String).map Str.ofString
def uP:Nat:=81
def nObj(P:Params):KA.all (λa=>decide (a<696))=F6:=by kernel_rfl
def tT:D7:=⟨λc m=>xI.lookup (c,m),λc=>Gv.lookup c⟩
def Co:gI:={attrs:=tU,kb:=xH,fI:=zY,lM:=λx=>Aj.lookup x,lL:=λx=>Ai.lookup x,lK:=λx=>Ah.lookup x}
@[irreducible] def zZ(f:Nat):Option aL:=(sI Co (fnAt f).2.2.2.2 (trS Co 40 (fnAt f).2.2.2.2 60) (fnAt f).2.2.2.1).val
@[irreducible] def r7(f:Nat):List Str:=(fnAt f).2.2.1.args.map (·.arg)
@[irreducible] def fT(f:Nat):Option si:=match decide (f<uP) with
 |true=>(zZ f).map λb=>⟨(r7 f).map aV,b⟩|false=>L3
@[irreducible] def gt(P:Params)(a:Nat):Option Obj:=((tree 12 (L4 P)).get a).bind alive
@[irreducible] def kP(P:Params):Frag:=KA.map λa=>(a,(gt P a).getD default)
def dF:Data->Str->Option G7
 | .dict es _,x=>nsFind es x|_,_=>L3
@[irreducible] def kZ(P:Params)(x:Str):Option G7:=match gt P 3 with
 |some o=>(match o.data with| .dict es _=>nsFind es x|_=>L3)
 |none=>L3
def t7{P:Params}{a:Nat}{o:Obj}(ha:a<696)(h:gt P a=F5 o):(hP P).get? a=F5 o:=by
 unfold gt at h;obtain⟨x,h1,h2⟩:=Option.bind_eq_some_iff.mp h;unfold hP;exact(abs_get ha h1).trans h2
def TY(P:Params):KA.all (λa=>(gt P a).isSome)=F6:=by kernel_rfl
def TM(P:Params):(kP P).In (hP P):=by
 intro a o h;unfold kP at h;obtain⟨b,hb,e⟩:=dB.mp (Ik h);cases e;have h1:=d7.mp (TY P) a hb;obtain⟨x,hx⟩:=zC.mp h1;rw[hx];exact t7 (dG (d7.mp (nObj P) a hb)) hx
def WV(P:Params):(gt P 3).isSome=F6:=by kernel_rfl
def Vo(P:Params):(hP P).nsMap mainGlobals=kZ P:=by
 funext x
 obtain⟨o,ho⟩:=zC.mp (WV P);have h2:(hP P).get? mainGlobals=F5 o:=t7 ⋯ ho
 unfold Heap.nsMap kZ;rw[h2,ho];rfl
@[irreducible] def v9(K:Frag)(c:Nat):Bool:=hasDictIn K c&&plainOver K c&&(findIn K (.ref c) "__setattr__" == F5 (F5 (.builtin "object.__setattr__")))&&plainGet K c ""&&makesIn K c&&keepIn K (.ref c)
def Na(P:Params):cL.all (λc=>v9 (kP P) c.2)=F6:=by kernel_rfl
def attrOk(P:Params):cL.all (λc=>tU.all λnm=>gK c.1 (aV nm)||findIn (kP P) (.ref c.2) nm == F5 L3)=F6:=by kernel_rfl
def Wn:(tU.all cO&&xH.all cO&&uN.all λe=>cO e.2.1)=F6:=by kernel_rfl
def QV(P:Params):Ai.all (λe=>(fA[e.2]?).any λa=>kZ P e.1 == F5 (.ref a))=F6:=by kernel_rfl
def QN(P:Params):Ah.all (λe=>(cL.lookup e.2).any λa=>kZ P e.1 == F5 (.ref a))=F6:=by kernel_rfl
def isI:G7->Int->Bool
 | .int j _,k=>j == k|_,_=>L0
def strB:G7->Str->Bool
 | .str q _,s=>q == s|_,_=>L0
def flB:Data->(Array G7->Bool)->Bool
 | .fields vs,k=>k vs|_,_=>L0
def any_of{o:Option α}{f:α->Bool}(h:o.any f=F6):∃a,o=F5 a/\f a=F6:=by
 cases o with
 |none=>exact(az h).elim|some a=>exact⟨a,rfl,h⟩
def isI_of{k:Int}:isI v k=F6->∃t,v=.int k t:=by
 cases v with
 |int j t=>exact λh=>⟨t,aF (Value.int · t) (bc h)⟩|_=>exact λh=>(az h).elim
def strB_of{k:Str}:strB v k=F6->∃t,v=.str k t:=by
 cases v with
 |str j t=>exact λh=>⟨t,aF (Value.str · t) (bc h)⟩|_=>exact λh=>(az h).elim
def flB_of{d:Data}{k:Array G7->Bool}:flB d k=F6->∃vs,d=.fields vs/\k vs=F6:=by
 cases d with
 |fields vs=>exact λh=>⟨vs,rfl,h⟩|_=>exact λh=>(az h).elim
def QW(P:Params):Aj.all (λe=>(kZ P e.1).any λv=>isI v e.2)=F6:=by kernel_rfl
def M6(P:Params):zY.all (λx=>(kZ P x).isNone&&x != "__name__")=F6:=by kernel_rfl
def To(P:Params):fA.all (λa=>keepIn (kP P) (.ref a)&&isFn (kP P) (.ref a))=F6:=by kernel_rfl
def Vv(P:Params):uN.all (λe=>(cL.lookup e.1).any λc=>(fA[e.2.2]?).any λa=>findIn (kP P) (.ref c) e.2.1 == F5 (F5 (.ref a)))=F6:=by kernel_rfl
def RF(P:Params):Gv.all (λe=>(cL.lookup e.1).any λc=>(fA[e.2]?).any λa=>findIn (kP P) (.ref c) "__init__" == F5 (F5 (.ref a)))=F6:=by kernel_rfl
def Vt:xI=uN.map λe=>((e.1,aV e.2.1),e.2.2):=by kernel_rfl
def Ou(P:Params):fA.map (gt P)=(fA.zip Jh).zipIdx.map λe=>F5 (fo e.2 e.1.2 (.ref (e.1.1-1))):=by kernel_rfl
@[irreducible] def codeB(P:Params)(a f:Nat):Bool:=(gt P (a-1)).any λo=>flB o.data λvs=>(vs[1]?).any λv=>strB v (fnAt f).2.1
def codeOk(P:Params):fA.zipIdx.all (λe=>codeB P e.1 e.2&&decide (e.1<696))=F6:=by kernel_rfl
@[irreducible] def F8(f:Nat):Bool:=CM (fnAt f).2.2.1&&decide (r7 f).Nodup&&(r7 f).all (λp=>cO p&&((fnAt f).2.2.2.2.names.lookup p == F5 .local||(fnAt f).2.2.2.2.names.lookup p == F5 .cell))&&
 (fnAt f).2.2.2.2.names.all (λy=>y.2 != .free)&&!(fnAt f).2.2.2.2.isCoroutine&&!(fnAt f).2.2.2.2.isGenerator&&(fnAt f).2.2.2.2.kind == .function
def Oo:(List.range uP).all F8=F6:=by kernel_rfl
end
variable{a:Nat}
section
theorem n5[BEq α][LawfulBEq α]:∀{l:List (α×β)} {x:α} {b:β},l.lookup x=F5 b->(x,b)∈l
 | [],_,_=>λh=>ai h|(y,c)::l,x,b=>λh=>by
  rw[oZ] at h;split at h
  .rename_i e;rw[bc e];cases h;exact .head _
  .exact .tail _ (n5 h)
def Lu{a:lb}{m m':Str->Option G7}(x:h.Ns a m)(y:h.Ns a m'):m=m':=by
 obtain⟨o,es,ep,h1,h2,_,h3⟩:=x;obtain⟨o',es',ep',h1',h2',_,h3'⟩:=y;have e:=ay (h1.symm.trans h1');subst e
 funext k
 rw[<-h3 k,<-h3' k];exact congrFun (aF dF (h2.symm.trans h2')) k
def Rc(P:Params):(hP P).isNs mainGlobals=F6:=by kernel_rfl
def Zj(P:Params):(gt P 1).isSome=F6:=by kernel_rfl
def p6(w:World)(h:Heap)(mb:Str->Option G7):Wd where
 prog:=pg
 w:=w
 K:=kP w.params
 h₀:=h
 cls:=λc=>cL.lookup c
 mg:=kZ w.params
 mb:=mb
 attrs:=tU
 kb:=xH
 fI:=zY
 T:=tT
 lM:=λx=>Aj.lookup x
 lL:=λx=>Ai.lookup x
 lK:=λx=>Ah.lookup x
 mV:=λf=>fA[f]?
section
variable{mb:Str->Option G7}
def qz{c:Nat}(e:cL.lookup c=F5 a):v9 (kP w.params) a=F6:=d7.mp (Na w.params) _ (n5 e)
structure Lp(K:Frag)(c:Nat):Prop where
 dict:hasDictIn K c=F6
 over:plainOver K c=F6
 set:findIn K (.ref c) "__setattr__"=F5 (F5 (.builtin "object.__setattr__"))
 get:plainGet K c ""=F6
 make:makesIn K c=F6
 keep:keepIn K (.ref c)=F6
def qx{K:Frag}{c:Nat}(h:v9 K c=F6):Lp K c:=by
 unfold v9 at h;exact cg h λh f=>cg h λh e=>cg h λh d=>cg h λh c=>cg h λa b=>⟨a,b,bc c,d,e,f⟩
def AM(e:fA[f]?=F5 a):keepIn (kP w.params) (.ref a)=F6/\isFn (kP w.params) (.ref a)=F6:=
 iL.mp (d7.mp (To w.params) _ (d8 e))
def names0:(∀nm∈tU,dX nm)/\(∀nm∈xH,dX nm)/\∀e∈uN,dX e.2.1:=by
 have h:=Wn;simp only[d5,d7] at h;exact⟨λx m=>ip (h.1.1 x m),λx m=>ip (h.1.2 x m),λe m=>ip (h.2 e m)⟩
def aA6(hk:∀b o,(hP w.params).get? b=F5 o->h.get? b=F5 o)(hb:h.Ns builtinsNs mb)(hl:h.NoLimit)(hbt:∀x:Str,x≠"__name__"->mb x=bootBuiltins x):kN (p6 w h mb) where
 uE:=(TM w.params).keeps hk
 g:=by
  have:=(Heap.Ns.of_isNs (Rc w.params)).keeps hk
  rw[Vo] at this;exact this
 b:=hb
 lim:=hl
 Kx:=by
  obtain⟨o,ho⟩:=zC.mp (Zj w.params);exact λn=>ai (n.symm.trans (hk _ _ (t7 (P:=w.params) (a:=1) ⋯ ho)))
 blt:=hbt
 zk:=λc a e=>(qx (qz (w:=w) e)).dict
 cover:=λc a e=>(qx (qz (w:=w) e)).over
 FG:=λc a e=>(qx (qz (w:=w) e)).set
 zu:=λc a nm e=>(qx (qz (w:=w) e)).get
 E7:=λc a e=>(qx (qz (w:=w) e)).make
 zj:=λc a nm e hn hc=>(JU (d7.mp (d7.mp (attrOk w.params) _ (n5 e)) nm hn)).elim (λr=>(az (hc.symm.trans r)).elim) bc
 vi:=names0.1
 int:=λx i e=>by
  have:=d7.mp (QW w.params) _ (n5 e)
  show ∃t,kZ w.params x=_;obtain⟨v,hv,q⟩:=any_of this;obtain⟨t,rfl⟩:=isI_of q;exact⟨t,hv⟩
 fn:=λx f e=>by
  have:=d7.mp (QV w.params) _ (n5 e)
  obtain⟨a,ha,q⟩:=any_of this;exact⟨a,ha,bc q⟩
 AW:=λf a e=>(AM e).1
 Eu:=λx c e=>by
  have:=d7.mp (QN w.params) _ (n5 e)
  obtain⟨a,ha,q⟩:=any_of this;exact⟨a,ha,bc q,(qx (qz (w:=w) ha)).keep⟩
 free:=λx hx=>by
  have:=d7.mp (M6 w.params) _ hx
  simp only[d5,D1,nP] at this;exact this
 pQ:=λc nm f a hc hn e=>by
  have e:xI.lookup (c,aV nm)=F5 f:=e;rw[Vt] at e;obtain⟨x,hx,ex⟩:=dB.mp (n5 e);have e1:x.1=c:=aF (·.1.1) ex;have e2:aV x.2.1=aV nm:=aF (·.1.2) ex;have e3:x.2.2=f:=aF (·.2) ex;have e2:=wB (names0.2.2 x hx) (names0.2.1 nm hn) e2
  have:=d7.mp (Vv w.params) _ hx
  rw[e1,e2,e3] at this;obtain⟨c',h1,q⟩:=any_of this;obtain⟨a',h2,q⟩:=any_of q;cases ay (h1.symm.trans hc);exact⟨a',h2,bc q,(AM h2).2⟩
 Il:=names0.2.1
 init:=λc f a hc e=>by
  have:=d7.mp (RF w.params) _ (n5 e)
  obtain⟨c',h1,q⟩:=any_of this;obtain⟨a',h2,q⟩:=any_of q;cases ay (h1.symm.trans hc);exact⟨a',h2,bc q,(AM h2).2⟩
def ZO:eP Co (p6 w h mb):=⟨λy h=>h,λy h=>h,λy h=>h,λy y h=>h,λy y h=>h,λy y h=>h⟩
def Ov(P:Params)(e:fA[f]?=F5 a):∃pm,gt P a=F5 (fo f pm (.ref (a-1))):=by
 have hf:f<fA.length:=(dT.mp e).1;have q:=aF (λl=>l[f]?) (Ou P);simp only[gC,e,zD] at q
 cases h:(fA.zip Jh).zipIdx[f]? with
 |none=>rw[h] at q;cases q|some y=>
  rw[h] at q;rw[List.getElem?_zipIdx,qW] at h;obtain⟨z,hz,rfl⟩:=h;rw[List.getElem?_zip_eq_some] at hz
  have:z.1=a:=ay (hz.1.symm.trans e)
  simp only[zD,Option.some.injEq,cW,this] at q;exact⟨_,q⟩
inductive ye(W:Wd)(f:Nat)(fi:si):Prop
 |mk {a:lb} {fd:FuncData} {ps:List Str} {body:List Stmt} (ha:W.mV f=F5 a) (x:DK W fi a fd ps body):ye W f fi
def OZ(e:fT f=F5 fi):decide (f<uP)=F6/\∃b,zZ f=F5 b/\⟨(r7 f).map aV,b⟩=fi:=by
 unfold fT at e
 cases h:decide (f<uP) with
 |true=>
  rw[h] at e;exact⟨rfl,qW.mp e⟩
 |false=>
  rw[h] at e;exact ai e
def Om(hk:∀b o,(hP w.params).get? b=F5 o->h.get? b=F5 o)(e:fT f=F5 fi):ye (p6 w h mb) f fi:=by
 obtain⟨hlt,b,hb,e⟩:=OZ e;subst e;have hlt:=dG hlt;have hlen:uP=fA.length:=by kernel_rfl
 obtain⟨a,ha⟩:∃a,fA[f]?=F5 a:=⟨_,bu (hlen▸hlt)⟩;obtain⟨pm,ho⟩:=Ov w.params ha;have hc:=d7.mp (codeOk w.params) (a,f) (jS.mpr ⟨f,by rw[List.getElem?_zipIdx,ha];simp⟩)
 obtain⟨hc,hn⟩:=iL.mp hc;have hn:=dG hn;have hB:=d7.mp Oo f (oe.mpr hlt);unfold F8 at hB;simp only[d5,vA,d7,AB,vB,eB,nP,ne_eq] at hB;obtain⟨⟨⟨⟨⟨⟨h1,h2⟩,h3⟩,h4⟩,h5⟩,h6⟩,h7⟩:=hB;refine ye.mk (a:=a) (fd:=⟨(fnAt f).1,(fnAt f).2.1,(fnAt f).2.2.1,.stmts (fnAt f).2.2.2.1,(fnAt f).2.2.2.2,3,[],.none,.none,.none,pm,L3,.ref (a-1),.none,0⟩) (ps:=r7 f) (body:=(fnAt f).2.2.2.1) ha ?_;exact {
  obj:=⟨_,hk _ _ (t7 hn ho),rfl⟩
  code:=by
   unfold codeB at hc;obtain⟨o,h8,hc⟩:=any_of hc;obtain⟨vs,h9,hc⟩:=flB_of hc;obtain⟨v,h10,hc⟩:=any_of hc;obtain⟨t,rfl⟩:=strB_of hc;exact⟨a-1,o,vs,t,rfl,hk _ _ (t7 (bp (oj _ _) hn) h8),h9,h10⟩
  Ej:=rfl
  bind:=λvals hl=>by
   unfold r7 at h2 hl ⊢;exact Mz h1 h2 hl
  E6:=rfl
  g:=rfl
  b:=rfl
  co:=h5
  gen:=h6
  kind:=h7
  par:=rfl
  ok:=λp hp=>ip (h3 p hp).1
  kinds:=λp hp=>(h3 p hp).2
  free:=λx q=>h4 _ (mem_of_lookup q) rfl
  run:=λn=>by
   unfold zZ at hb;exact Rs.get hb ZO}
structure a9(W:Wd):Prop where
 T:W.T=tT
 fn:∀{f n:Nat} {fi:si} {vs:List V} {H:AH} {Q:V->AH->Prop},fT f=F5 fi->fi.params.length=vs.length->d0 W n fi.body (iu (λy=>L3) fi.params vs) H (J9 Q)->Fn W (n+1) f vs H Q
def Xq(hk:∀b o,(hP w.params).get? b=F5 o->h.get? b=F5 o):a9 (p6 w h mb):=⟨rfl,λe hl ev=>(Om hk e).casesOn λha x=>Ot ha x hl ev⟩
end
end
section
def W7:pw=b1++(b2++(b3++(b4++[]))):=by kernel_rfl
def ZE(w:World):((boot_heap w.params).isNs mainGlobals&&(Array.mk []:Array GenState).size == 0,(boot_heap w.params).objs.size,(boot_heap w.params).nsMap mainGlobals "__annotations__")=(F6,11,mQ):=by kernel_rfl
def Xo(w:World)(os:OsState):topGo treeTable pg w 11 mQ 12 ⟨boot_heap w.params,Array.mk [],boot_drawn,boot_toks,os⟩ (topStub pg)=F5 ((S0 w os).abs,⟨denote treeTable topC,topC,⟨0,0,0,0⟩,pz⟩):=by kernel_rfl
def M5(w:World)(os:OsState):segRun treeTable pg w 11 mQ 1 1 (S0 w os).abs (blockOf pw sG topC ⟨0,0,0,0⟩ pz)=F5 (.next,(S0 w os).abs,topC,⟨0,0,0,0⟩):=by kernel_rfl
def Oe(w:World)(os:OsState):topRun treeTable pg w 11 mQ 2 (S4 w os).abs ⟨doneF .next,topC,⟨870,0,902,67⟩,pz⟩=F5 (S4 w os).abs:=by kernel_rfl
def W2:opening pg=plainProg pg.main.scope.names:=by kernel_rfl
def Oc(s:R5):fenceModules? pg s=F5 s:=by kernel_rfl
def Wz:∀w:World,(fencedOpening treeTable pg w 20000).map (λs=>(s.heap,s.gens,s.drawn,s.toks))=F5 (boot_heap w.params,Array.mk [],boot_drawn,boot_toks):=boot_open W2 ⋯ Oc
def Yi(w:World)(os:OsState):topRun treeTable pg w 11 mQ (12+(1+(1214+(1263+(1386+(931+2)))))) ⟨boot_heap w.params,Array.mk [],boot_drawn,boot_toks,os⟩ (topStub pg)=F5 (S4 w os).abs:=by
 refine go_top (Xo w os) (piece_block (M5 w os) ?_);rw[W7];exact piece_app (segRun_of (XC w os)) (piece_app (segRun_of (XD w os)) (piece_app (segRun_of (XE w os)) (piece_app (segRun_of (XF w os)) (piece_nil (Oe w os)))))
def Uq:LeftO rg.row.prog qv lV EB (λs=>s.heap) (λw=>hP w.params) 20000:=by
 refine LeftO.of_pieces (p:=pg) (H₁:=hP) (gs₁:=Array.mk []) (d₁:=boot_drawn) (k₁:=1161) Wz ZE (λw os=>(Yi w os).trans (aF F5 (OJ w os))) ⋯ λw=>?_
 funext os
 refine iQ (VC w os) (iQ ?_ rfl);unfold openSeen openGood;exact iQ (VE w os) (iQ (VF w os) (iQ (VG w os) (iQ (VH w os) (iQ (VI w os) (iQ (VJ w os) (iQ (VK w os) (iQ (VL w os) (VD w os))))))))
end
variable{l:List Int}
section
@[irreducible] def pL:DefRec:=⟨"law",(fnAt 80).2.2.1,(fnAt 80).2.2.2.1,(fnAt 80).2.2.2.2,⟨870,0,902,67⟩⟩
def Qv:defOf qv rg.row.name=F5 (pL,[]):=by kernel_rfl
def aAD:rg.row.prog.theDef rg.row.name=F5 (pL.params,pL.body,pL.scope):=by kernel_rfl
def UG:kwWritten? pL.params.kwonlyargs pL.params.kw_defaults=F5 []:=by kernel_rfl
def Wm:(chainsOk qv&&opensWell rg.row.prog&&(frees rg.row.toRowW&&rg.row.within.isEmpty))=F6:=by kernel_rfl
def Mr:rg.row.prog.bare:=⟨rfl,rfl,rfl,rfl,rfl,by decide+kernel⟩
def Xr:rg.row.toRowW.promised:=⟨[.list []],by decide+kernel,by decide+kernel⟩
theorem Gz{R:WRecords}:∀{xs:List WData},WShape.hasItems R xs .int=F6->∃l:List Int,xs=l.map WData.int
 | []=>λy=>⟨[],rfl⟩|x::xs=>λh=>by
  simp only[WShape.hasItems,d5] at h;obtain⟨i,rfl⟩:=hasW_int h.1;obtain⟨l,rfl⟩:=Gz h.2;exact⟨i::l,rfl⟩
def aA7:∀{vs:List G7},WellAll w.params h vs (l.map WData.int)->aM μ h (l.map V.int) vs:=by
 induction l with
 |nil=>
  intro vs x;cases x;exact .nil
 |cons i l ih=>
  intro vs x;obtain⟨v,vs',rfl,a,r⟩:=wellAll_cons_inv x;obtain⟨t,rfl⟩:=D9 ((encInt pg w).is a).1;exact .cons .f7 (ih r)
def Y9(h:rg.row.pre.holds rg.row.records {args:=[.list (l.map WData.int)]}=F6):l.length<=63:=by
 have h1:(WTm.not (.lt (.lit (.int 63)) (.len (.arg 0)))).holds [] {args:=[.list (l.map WData.int)]}=F6:=(holds_andW h).1;have hv:(WTm.not (.lt (.lit (.int 63)) (.len (.arg 0)))).value [] {args:=[.list (l.map WData.int)]}=F5 (.bool (!decide ((63:Int)<((l.map WData.int).length:Int)))):=by kernel_rfl
 have:=condW_of h1 hv
 simp only[aQ,vA,decide_eq_false_iff_not] at this;exact mC.mp (mB.mp this)
def Uj:pL.name="law":=by kernel_rfl
def Xk(l:List Int):rg.row.claim.post [.list (l.map WData.int)] (.bool F6) [.list (l.map WData.int)]=F6:=by kernel_rfl
def Ui(P:Params):(kZ P "law" == F5 (.ref 695)&&fA[80]? == F5 695)=F6:=by kernel_rfl
def S6(hIL:∀{W:Wd},a9 W->∀xs:List Int,xs.length<=63->Fn W 200 80 [.lst (xs.map .int)] [] (λv y=>v=.bool F6)):rg.Holds:=by
 refine holds_law KQ λy=>holds_open (r:=rg.row) (q:=qv) (loose:=lV) (XP:=λy y=>True) (YP:=λw h=>∀b o,(hP w.params).get? b=F5 o->h.get? b=F5 o) Uq (λw s e b o hb=>by
   have e:s.heap=hP w.params:=e;rw[e];exact hb) (λw h h' Y k b o e=>k b o (Y b o e)) (λy y=>cC) (λy y y y y=>cC) Qv aAD UG (λs y=>recFacts_nil rfl) rfl (row_said KQ) Wm Mr Xr ?_
 intro w s₀ s₁ mg mb G Y a o pm cd doc dV kV ho hd hcd hD hmg hg args vals as hpre hlay hrd hwl hlo;have T:=G.T;have Wk:kN (p6 w s₁.heap mb):=aA6 Y T.b T.nolimit T.builtins;have hm:mg=kZ w.params:=Lu T.g Wk.g;have h81:=Ui w.params;simp only[d5,eB] at h81;have ha:a=695:=by
  have:kZ w.params "law"=F5 (.ref a):=by rw[<-hm,<-Uj];exact hmg
  rw[h81.1] at this;cases this;rfl
 subst ha;obtain⟨d,r,rfl,hx,hr⟩:=hasAllW_cons (pre_splitW hpre).1;obtain rfl:=hasAllW_nil hr;obtain⟨xs,rfl,hi⟩:=hasW_list hx;obtain⟨l,rfl⟩:=Gz hi;have hlen:=Y9 (pre_splitW hpre).2;obtain⟨v,vs',rfl,wv,wr⟩:=wellAll_cons_inv hwl;cases wr
 cases wv with
 |@list b vs _ hb wvs=>
 let μ:Mu:=⟨[],[],λy=>0⟩
 have N:aY (p6 w s₁.heap mb) μ [] s₁.heap:=⟨λy y h=>h,λy h=>(memN h),dU,λy h=>(memN h),rfl,λh=>ai h⟩;have R:Rm callerA 200:=⟨by show 4+20*200+1300<9900;decide,by show 1+300+3*200+2<1000;decide,rfl⟩
 have hvs:aM μ s₁.heap [.lst (l.map .int)] [.ref b]:=.one ⟨rfl,(λh=>memN h),⟨hb⟩,by rw[aQ];exact aA hlen ⋯,aA7 wvs⟩
 refine k8 (W:=p6 w s₁.heap mb) (AV (hIL (Xq Y) l hlen) h81.2 ⟨Wk,R,N⟩ hvs λ{v H' μ' cv s'} q X r=>?_);subst q;cases (show cv=.bool F6 from r)
 exact⟨.inl ⟨_,.bool F6,[],rfl,λy=>rfl,.bool F6,Xk l,λy=>⟨dU,λy h=>memN h⟩⟩,.of_keep X.N.base,X.o,.of_eq (X.g.trans hg)⟩
end
end Mine
end
namespace Mine.U
variable{α:Type}{P:Prop}
def memN{a:α}(h:a∈[]):P:=absurd h dZ
set_option genCtorIdx true in
set_option genInjectivity true in
inductive Tm where
 |v (n:Nat)|c (k:Bool) (z:Int)|s1 (f:Nat) (x:Tm)|s2 (f:Nat) (x y:Tm)
 deriving DecidableEq
abbrev Sb:=Nat->Tm
def Tm.app(σ:Sb):Tm->Tm
 | .v n=>σ n| .c k z=>.c k z| .s1 f x=>.s1 f (x.app σ)| .s2 f x y=>.s2 f (x.app σ) (y.app σ)
def Tm.has(n:Nat):Tm->Prop
 | .v m=>m=n| .c _ _=>False| .s1 _ x=>x.has n| .s2 _ x y=>x.has n\/y.has n
def Tm.a7:Tm->Nat
 | .v _=>1| .c _ _=>1| .s1 _ x=>x.a7+1| .s2 _ x y=>x.a7+y.a7+1
def Tm.dep:Tm->Nat
 | .v _=>0| .c _ _=>0| .s1 _ x=>x.dep+1| .s2 _ x y=>max x.dep y.dep+1
def Tm.bf:Tm->Bool
 | .v _=>F6|_=>L0
variable{σ:Sb}{f n m:Nat}{x y:Tm}
def vj:(Tm.v n).app σ=σ n:=rfl
def ES:(Tm.s1 f x).app σ=.s1 f (x.app σ):=rfl
def EU:(Tm.s2 f x y).app σ=.s2 f (x.app σ) (y.app σ):=rfl
def Qt:(Tm.v m).has n=(m=n):=rfl
def Qr:(Tm.s2 f x y).has n=(x.has n\/y.has n):=rfl
def Tm.uj(t:Tm):0<t.a7:=by cases t<;>exact om _
variable{w:Tm}
def r9{z:Tm}(h:x=z)(k:y=w):Tm.s2 f x y=.s2 f z w:=h▸k▸rfl
variable{τ:Sb}{t:Tm}
def app_congr:(∀n,t.has n->σ n=τ n)->t.app σ=t.app τ:=by
 induction t with
 |v n=>exact λh=>h n rfl|c=>exact λz=>rfl|s1 f x ih=>exact λh=>aF (Tm.s1 f) (ih h)|s2 f x y i1 i2=>exact λh=>r9 (i1 λn q=>h n (.inl q)) (i2 λn q=>h n (.inr q))
def o3(t:Tm):t.app .v=t:=by
 induction t with
 |v=>rfl|c=>rfl|s1 f x ih=>exact aF (Tm.s1 f) ih|s2 f x y i1 i2=>exact r9 i1 i2
def zO(h:∀n,t.has n->σ n=.v n):t.app σ=t:=(app_congr h).trans (o3 t)
def fw(σ τ:Sb)(t:Tm):(t.app τ).app σ=t.app λn=>(τ n).app σ:=by
 induction t with
 |v=>rfl|c=>rfl|s1 f x ih=>exact aF (Tm.s1 f) ih|s2 f x y i1 i2=>exact r9 i1 i2
def OS{p q r:α->Prop}:(∃m,p m/\r m)\/(∃m,q m/\r m)↔∃m,(p m\/q m)/\r m:=⟨λh=>h.elim (λζ=>ζ.elim λm ζ'=>ζ'.elim λa b=>⟨m,.inl a,b⟩) λζ=>ζ.elim λm ζ'=>ζ'.elim λa b=>⟨m,.inr a,b⟩,λζ=>ζ.elim λm ζ'=>ζ'.elim λa b=>a.elim (λa=>.inl ⟨m,a,b⟩) λa=>.inr ⟨m,a,b⟩⟩
def dg:(t.app σ).has n↔∃m,t.has m/\(σ m).has n:=by
 induction t with
 |v m=>exact⟨λh=>⟨m,rfl,h⟩,λ⟨k,e,h⟩=>e▸h⟩|c=>exact⟨False.elim,λ⟨_,h,_⟩=>h⟩|s1 f x ih=>exact ih|s2 f x y i1 i2=>exact(or_congr i1 i2).trans OS
def Cf:t.has n->(σ n).a7<=(t.app σ).a7:=by
 induction t with
 |v m=>exact λh=>h▸au _|c=>exact False.elim|s1 f x ih=>exact λh=>fE (ih h)|s2 f x y i1 i2=>exact λh=>fE (h.elim (λh=>aA (i1 h) (aW _ _)) λh=>aA (i2 h) (cI _ _))
def Gf(h:t.has n)(hv:t≠.v n):(σ n).a7<(t.app σ).a7:=by
 cases t with
 |v m=>exact absurd (aF Tm.v h) hv|c=>exact h.elim|s1 f x=>exact kD (Cf (t:=x) h)|s2 f x y=>exact kD (Or.elim h (λh=>aA (Cf h) (aW _ _)) λh=>aA (Cf h) (cI _ _))
def Wi(h:t.has n)(hv:t≠.v n)(e:σ n=t.app σ):False:=ee (Gf h hv) (aF Tm.a7 e)
abbrev Bd:=List (Nat×Tm)
def Bd.at(b:Bd)(n:Nat):Option Tm:=(b.find? λp=>decide (p.1=n)).map (·.2)
def Sat(b:Bd)(σ:Sb):Prop:=∀x t,b.at x=F5 t->σ x=t.app σ
structure af(b:Bd)(S:Sb):Prop where
 sol:Sat b S
 id:∀x,b.at x=L3->S x=.v x
 mg:∀σ,Sat b σ->∀z,(S z).app σ=σ z
 rank:∃r:Nat->Nat,∀x y,b.at x=F5 (.v y)->r y<r x
 nd:(b.map (·.1)).Nodup
variable{b:Bd}{S:Sb}
def af.Bo(M:af b S)(h:Sat b σ)(t:Tm):(t.app S).app σ=t.app σ:=by
 rw[fw];exact app_congr λn y=>M.mg σ h n
variable{u:Tm}
def Og:u.app S=u->u.has m->S m=.v m:=by
 induction u with
 |v k=>exact λe h=>h▸e|c=>exact λz h=>h.elim|s1 f x ih=>exact λe h=>ih (Tm.s1.inj e).2 h|s2 f x y i1 i2=>exact λe h=>Or.elim h (i1 (Tm.s2.inj e).2.1) (i2 (Tm.s2.inj e).2.2)
def tM(e:t.app σ=.v m):∃k,t=.v k/\σ k=.v m:=by
 cases t with
 |v k=>exact⟨k,rfl,e⟩|c=>cases e|s1=>cases e|s2=>cases e
def af.free(M:af b S)(h:(S n).has m):b.at m=L3:=by
 have h4:=Og (M.mg S M.sol n) h;obtain⟨r,hr⟩:=M.rank
 have:∀{i k},r k<i->S k=.v m->k=m\/r m<r k:=λ{i}=>by
  induction i with
  |zero=>exact λh=>nomatch h
  |succ i ih=>
   intro k hk e
   cases q:b.at k with
   |none=>exact .inl (Tm.v.inj ((M.id k q).symm.trans e))|some t=>
    obtain⟨j,rfl,hj⟩:=tM ((M.sol k t q).symm.trans e);have l:=hr k j q;exact .inr ((ih (bw l (qQ hk)) hj).elim (λe=>e▸l) λh=>jV h l)
 cases q:b.at m with
 |none=>rfl|some t=>
  obtain⟨k,rfl,hk⟩:=tM ((M.sol m t q).symm.trans h4);have l:=hr m k q;exact((this (dy _) hk).elim (λe=>ed _ (e▸l)) λh=>ed _ (jV h l)).elim
def af.inst(M:af b S)(τ:Sb):Sat b λn=>(S n).app τ:=by
 intro x t e;show(S x).app τ=_;rw[M.sol x t e,fw]
def af.nil:af [] .v:=⟨λx t e=>(by cases e),λy y=>rfl,λσ y z=>rfl,⟨λy=>0,λy y e=>(by cases e)⟩,dU⟩
def Mi(h:b.at n=L3):n∉b.map (·.1):=by
 unfold Bd.at at h;rw[D2,Dc] at h;intro q;obtain⟨p,hp,e⟩:=dB.mp q;exact h p hp (bE e)
variable{x:Nat}
def nL(h:b.at x=L3):Bd.at (b++[(x,t)]) n=if n=x then F5 t else b.at n:=by
 show Option.map _ (List.find? _ (b++[(x,t)]))=if n=x then F5 t else Option.map _ (List.find? _ b)
 rw[List.find?_append];by_cases e:n=x
 .rw[aI e,e,D2.mp h,Option.none_or,List.find?_cons_of_pos (p:=λp:Nat×Tm=>decide (p.1=x)) (bE rfl)];rfl
 .rw[aD e,List.find?_cons_of_neg (λq=>e (dG q).symm),List.find?_nil,Option.or_none]
def one(x:Nat)(t:Tm):Sb:=λn=>if n=x then t else .v n
variable{r:Nat->Nat}{z:Nat}
def rt(h:n≠x):one x t n=.v n:=aD h
def xY:one x t x=t:=aI rfl
def Ww{v:Tm}(h:¬v.has x):v.app (one x t)=v:=zO λn hn=>rt λe=>h (e▸hn)
def JS{v:Tm}(h:(v.app (one x t)).has n):v.has n\/t.has n:=by
 obtain⟨j,h2,h3⟩:=dg.mp h;by_cases e:j=x
 .exact .inr (by rw[e,xY] at h3;exact h3)
 .exact .inl (by rw[rt e] at h3;exact h3▸h2)
def uc(hx:b.at x=L3):Sat (b++[(x,t)]) σ↔Sat b σ/\σ x=t.app σ:=by
 unfold Sat;refine⟨λh=>⟨λy u e=>h y u ?_,h x t (by rw[nL hx,aI rfl])⟩,λζ y u e=>ζ.elim λh1 h2=>?_⟩
 .rw[nL hx,aD]
  .exact e
  .exact λq=>by rw[q,hx] at e;exact nomatch e
 .rw[nL hx] at e;by_cases q:y=x
  .rw[aI q] at e;rw[q,<-ay e];exact h2
  .rw[aD q] at e;exact h1 y u e
def rk(b:Bd)(x:Nat)(r:Nat->Nat)(z:Nat):Nat:=if b.at z=L3 then(if z=x then 1 else 0) else r z+2
def CZ(h:b.at z=L3):rk b x r z=if z=x then 1 else 0:=aI h
def KD(h:b.at z≠L3):rk b x r z=r z+2:=aD h
def Yc(h:b.at z=L3\/r z<n):rk b x r z<n+2:=by
 by_cases q:b.at z=L3
 .rw[CZ q];split
  .exact cP (cP (ba _))
  .exact om _
 .exact KD q▸Nat.add_lt_add_right (h.resolve_left q) 2
def af.bind(M:af b S)(hx:b.at x=L3)(ht:¬(t.app S).has x)(hv:∀y,t=.v y->b.at y=L3):
  af (b++[(x,t)]) (λn=>(S n).app (one x (t.app S)))/\∀σ,Sat (b++[(x,t)]) σ↔Sat b σ/\σ x=t.app σ:=by
 refine⟨⟨(uc hx).mpr ⟨M.inst _,?_⟩,λy e=>?_,λσ h z=>?_,?_,?_⟩,λσ=>uc hx⟩
 .rw[M.id x hx,<-fw,Ww ht];exact xY
 .rw[nL hx] at e;by_cases q:y=x
  .exact nomatch (aI q).symm.trans e
  .rw[aD q] at e;rw[M.id y e];exact rt q
 .obtain⟨h1,h2⟩:=(uc hx).mp h;rw[fw,<-M.mg σ h1 z];refine app_congr λn o=>?_;by_cases q:n=x
  .rw[q,xY,M.Bo h1,h2]
  .rw[rt q];rfl
 .obtain⟨r,hr⟩:=M.rank;refine⟨rk b x r,λy k e=>?_⟩;rw[nL hx] at e;by_cases q:y=x
  .rw[aI q] at e;have hk:=hv k (ay e);rw[CZ hk,CZ (q▸hx),aI q,aD]
   .exact Nat.one_pos
   .exact λq=>ht (by rw[ay e,vj,M.id k hk];exact q)
  .rw[aD q] at e;exact KD (x:=x) (r:=r) (λq=>nomatch e.symm.trans q)▸Yc (.inr (hr y k e))
 .rw[b8,fm];exact⟨M.nd,bo.mpr ⟨dZ,dU⟩,λa ha c hc e=>Mi hx ((e.trans (bB.mp hc):a=x)▸ha)⟩
inductive Walk(b:Bd):Tm->Tm->Prop
 |stop {t:Tm}:(∀n,t=.v n->b.at n=L3)->Walk b t t|step {n:Nat} {t u:Tm}:b.at n=F5 t->Walk b t u->Walk b (.v n) u
def Walk.sat(w:Walk b t u)(h:Sat b σ):t.app σ=u.app σ:=by
 induction w with
 |stop=>rfl|step e _ ih=>rw[<-ih];exact h _ _ e
def Walk.free(w:Walk b t u):∀n,u=.v n->b.at n=L3:=by
 induction w with
 |stop h=>exact h|step _ _ ih=>exact ih
def Walk.JO(h:t.bf=L0):Walk b t t:=.stop λn e=>by rw[e] at h;cases h
def v_or(t:Tm):(∃n,t=.v n)\/t.bf=L0:=by
 cases t with
 |v n=>exact .inl ⟨n,rfl⟩|c=>exact .inr rfl|s1=>exact .inr rfl|s2=>exact .inr rfl
def af.walks(M:af b S)(t:Tm):∃u,Walk b t u:=by
 obtain⟨r,hr⟩:=M.rank;have key:∀{k n:Nat},r n<k->∃u,Walk b (.v n) u:=λ{k}=>by
  induction k with
  |zero=>exact λh=>nomatch h
  |succ k ih=>
   intro n hn
   cases e:b.at n with
   |none=>exact⟨_,.stop λm q=>Tm.v.inj q▸e⟩|some t=>
    exact(v_or t).elim (λζ=>ζ.elim λm q=>(ih (bw (hr n m (q▸e)) (qQ hn))).elim λu w=>⟨u,.step e (q▸w)⟩) λh=>⟨t,.step e (.JO h)⟩
 exact(v_or t).elim (λζ=>ζ.elim λm q=>q▸key (dy (r m))) λh=>⟨t,.JO h⟩
def Walk.var(M:af b S)(w:Walk b t (.v n)):t.app S=.v n:=by
 rw[w.sat M.sol];exact M.id n (w.free n rfl)
def Walk.yJ(M:af b S)(w:Walk b t u):u=.v n↔t.app S=.v n:=by
 refine⟨λe=>Walk.var M (e▸w),λe=>?_⟩;obtain⟨m,q,h⟩:=tM ((w.sat M.sol).symm.trans e);exact q.trans ((M.id m (w.free m q)).symm.trans h)
structure jY(Q:Tm->Prop):Prop where
 s1:∀f x,Q (.s1 f x)->Q x
 s2:∀f x y,Q (.s2 f x y)->Q x/\Q y
def BQ(Q:Tm->Prop)(b:Bd):Prop:=∀p∈b,Q (.v p.1)/\Q p.2
def nN(h:b.at n=F5 t):(n,t)∈b:=by
 unfold Bd.at at h;obtain⟨p,h1,h2⟩:=qW.mp h;have h3:=List.find?_some (p:=λp:Nat×Tm=>decide (p.1=n)) h1
 have:=dG h3
 rw[<-this,<-h2];exact List.mem_of_find?_eq_some h1
def Walk.dW(w:Walk b t u){Q:Tm->Prop}(hb:BQ Q b)(h:Q t):Q u:=by
 induction w with
 |stop=>exact h|step e _ ih=>exact ih (hb _ (nN e)).2
def Dir(S:Sb)(s t:Tm)(S':Sb):Prop:=
 (∀x,s.app S=.v x->S'=λn=>(S n).app (one x (t.app S)))/\∀y,(s.app S).bf=L0->t.app S=.v y->S'=λn=>(S n).app (one y (s.app S))
def Wx(x:Nat):one x (.v x)=.v:=by
 funext n
 by_cases h:n=x
 .rw[h,xY]
 .exact rt h
def v_not(h:t.bf=L0)(e:t=.v x):P:=nomatch (e▸h:(Tm.v x).bf=L0)
variable{s:Tm}
def Dir.same(h:s.app S=t.app S):Dir S s t S:=⟨λx e=>funext λn=>by rw[<-h,e,Wx,o3],λy e e'=>v_not e (h.trans e')⟩
variable{S':Sb}
def Dir.none(h1:(s.app S).bf=L0)(h2:(t.app S).bf=L0):Dir S s t S':=⟨λy=>v_not h1,λy y=>v_not h2⟩
def Dir.bind(hd:(s.app S=.v x/\u.app S=t.app S)\/((s.app S).bf=L0/\t.app S=.v x/\u.app S=s.app S)):Dir S s t λn=>(S n).app (one x (u.app S)):=
 hd.elim (λh=>⟨λy e=>by rw[h.2,Tm.v.inj (h.1.symm.trans e)],λy e z=>v_not e h.1⟩) λh=>⟨λy e=>v_not h.1 e,λy z e=>by rw[h.2.2,Tm.v.inj (h.2.1.symm.trans e)]⟩
structure Met(b:Bd)(S:Sb)(s t:Tm)(b':Bd)(S':Sb):Prop where
 av:af b' S'
 sat:∀σ,Sat b' σ↔Sat b σ/\s.app σ=t.app σ
 pre:b <+:b'
 keys:∀n,b'.at n≠L3->b.at n=L3->(s.app S).has n\/(t.app S).has n
 dW:∀Q,jY Q->BQ Q b->Q s->Q t->BQ Q b'
 step:∃D:Sb,(∀n,S' n=(S n).app D)/\(∀n,¬((s.app S).has n\/(t.app S).has n)->D n=.v n)/\∀n m,(s.app S).has n\/(t.app S).has n->(D n).has m->(s.app S).has m\/(t.app S).has m
 dir:Dir S s t S'
def fu(b:Bd)(s t:Tm):Prop:=∀σ,Sat b σ->s.app σ≠t.app σ
structure da(b₀:Bd)(S₀:Sb)(s t:Tm)(b:Bd)(S:Sb)(todo:List (Tm×Tm)):Prop where
 av:af b S
 sat:∀σ,(Sat b₀ σ/\s.app σ=t.app σ)↔Sat b σ/\∀p∈todo,p.1.app σ=p.2.app σ
 pre:b₀ <+:b
 keys:∀n,b.at n≠L3->b₀.at n=L3->(s.app S₀).has n\/(t.app S₀).has n
 dW:∀Q,jY Q->BQ Q b₀->Q s->Q t->BQ Q b/\∀p∈todo,Q p.1/\Q p.2
 step:∃D:Sb,(∀n,S n=(S₀ n).app D)/\(∀n,¬((s.app S₀).has n\/(t.app S₀).has n)->D n=.v n)/\∀n m,(s.app S₀).has n\/(t.app S₀).has n->(D n).has m->(s.app S₀).has m\/(t.app S₀).has m
 ins:∀p∈todo,∀n,(p.1.app S).has n\/(p.2.app S).has n->(s.app S₀).has n\/(t.app S₀).has n
 dir:(S=S₀/\todo=[(s,t)])\/(todo=[]/\Dir S₀ s t S)\/((s.app S₀).bf=L0/\(t.app S₀).bf=L0)
def da.start(M:af b S)(s t:Tm):da b S s t b S [(s,t)] where
 av:=M
 sat:=λσ=>and_congr_right' (List.forall_mem_singleton (p:=λp:Tm×Tm=>p.1.app σ=p.2.app σ) (a:=(s,t))).symm
 pre:=og
 keys:=λn h1 h2=>absurd h2 h1
 dW:=λQ y hb h1 h2=>⟨hb,List.forall_mem_singleton.mpr ⟨h1,h2⟩⟩
 step:=⟨.v,λn=>(o3 _).symm,λy y=>rfl,λn m h e=>(show n=m from e)▸h⟩
 ins:=List.forall_mem_singleton.mpr λn h=>h
 dir:=.inl ⟨rfl,rfl⟩
section
variable{b₀:Bd}{S₀:Sb}{one two:Tm}{todo:List (Tm×Tm)}
def da.done(m:da b₀ S₀ s t b S []):Met b₀ S₀ s t b S where
 av:=m.av
 sat:=λσ=>⟨λh=>(m.sat σ).mpr ⟨h,λy m=>memN m⟩,λh=>((m.sat σ).mp h).1⟩
 pre:=m.pre
 keys:=m.keys
 dW:=λQ h1 h2 h3 h4=>(m.dW Q h1 h2 h3 h4).1
 step:=m.step
 dir:=m.dir.elim (λh=>nomatch h.2) λh=>h.elim (·.2) λh=>.none h.1 h.2
def Dir.next(h:(S=S₀/\(one,two)::todo=[(s,t)])\/((one,two)::todo=[]/\Dir S₀ s t S)\/((s.app S₀).bf=L0/\(t.app S₀).bf=L0)):(Dir S one two S'->(S'=S₀/\todo=[(s,t)])\/(todo=[]/\Dir S₀ s t S')\/((s.app S₀).bf=L0/\(t.app S₀).bf=L0))/\((one.app S).bf=L0->(two.app S).bf=L0->(s.app S₀).bf=L0/\(t.app S₀).bf=L0):=by
 rcases h with ⟨rfl,e⟩|h|h
 .cases e;exact⟨λh=>.inr (.inl ⟨rfl,h⟩),.intro⟩
 .exact nomatch h.1
 .exact⟨λy=>.inr (.inr h),λy y=>h⟩
def Gn{A B C D E:Prop}(e:A↔B/\C/\D)(h:B->(C↔E)):A↔(B/\E)/\D:=⟨λa=>have z:=e.mp a;⟨⟨z.1,(h z.1).mp z.2.1⟩,z.2.2⟩,λζ=>ζ.elim λζ' d=>ζ'.elim λb c=>e.mpr ⟨b,(h b).mpr c,d⟩⟩
def da.xq(m:da b₀ S₀ s t b S ((one,two)::todo))(σ:Sb):(Sat b₀ σ/\s.app σ=t.app σ)↔Sat b σ/\one.app σ=two.app σ/\∀p∈todo,p.1.app σ=p.2.app σ:=(m.sat σ).trans (and_congr_right' List.forall_mem_cons)
def da.skip(m:da b₀ S₀ s t b S ((one,two)::todo))(h:∀σ,Sat b σ->one.app σ=two.app σ):da b₀ S₀ s t b S todo where
 av:=m.av
 sat:=λσ=>⟨λa=>have z:=(m.xq σ).mp a;⟨z.1,z.2.2⟩,λz=>(m.xq σ).mpr ⟨z.1,h σ z.1,z.2⟩⟩
 pre:=m.pre
 keys:=m.keys
 dW:=λQ h1 h2 h3 h4=>⟨(m.dW Q h1 h2 h3 h4).1,λp hp=>(m.dW Q h1 h2 h3 h4).2 p (.tail _ hp)⟩
 step:=m.step
 ins:=λp hp=>m.ins p (.tail _ hp)
 dir:=(Dir.next m.dir).1 (.same (h _ m.av.sol))
def da.bound(m:da b₀ S₀ s t b S ((one,two)::todo))(h1:∀σ,Sat b σ->(one.app σ=two.app σ↔σ x=u.app σ))(hx:b.at x=L3)(hu:∀y,u=.v y->b.at y=L3)(hn:¬(u.app S).has x)
  (hin:∀n,n=x\/(u.app S).has n->(one.app S).has n\/(two.app S).has n) (hq:∀Q,jY Q->BQ Q b->Q one->Q two->Q (.v x)/\Q u)
  (hd:(one.app S=.v x/\u.app S=two.app S)\/((one.app S).bf=L0/\two.app S=.v x/\u.app S=one.app S)):da b₀ S₀ s t (b++[(x,u)]) (λn=>(S n).app (Mine.U.one x (u.app S))) todo:=by
 have hb:=m.av.bind hx hn hu;have hin':∀n,n=x\/(u.app S).has n->(s.app S₀).has n\/(t.app S₀).has n:=λn h=>m.ins _ (.head _) n (hin n h);have step:∀{v:Tm} {n},(v.app λn=>(S n).app (Mine.U.one x (u.app S))).has n->(v.app S).has n\/(u.app S).has n:=λ{v n} h=>JS (fw (Mine.U.one x (u.app S)) S v▸h);refine⟨hb.1,λσ=>(Gn (m.xq σ) (h1 σ)).trans (and_congr_left' (hb.2 σ).symm),m.pre.trans (qO _ _),λn q q0=>?_,λQ h1 h2 h3 h4=>?_,?_,λp hp n h=>?_,(Dir.next m.dir).1 (Dir.bind hd)⟩
 .rw[nL hx] at q;by_cases e:n=x
  .exact hin' n (.inl e)
  .rw[aD e] at q;exact m.keys n q q0
 .have z:=m.dW Q h1 h2 h3 h4;have y:=z.2 _ (.head _);exact⟨λp hp=>(cD.mp hp).elim (z.1 p) λhp=>(bB.mp hp).symm▸hq Q h1 z.1 y.1 y.2,λp hp=>z.2 p (.tail _ hp)⟩
 .obtain⟨D,d1,d2,d3⟩:=m.step;refine⟨λn=>(D n).app (Mine.U.one x (u.app S)),λn=>(aF _ (d1 n)).trans (fw _ _ _),λn q=>?_,λn k q h=>(JS h).elim (d3 n k q) λh=>hin' k (.inr h)⟩;show(D n).app _=_;rw[d2 n q];exact rt λe=>q (hin' _ (.inl e))
 .exact h.elim (λh=>(step h).elim (λh=>m.ins p (.tail _ hp) n (.inl h)) λh=>hin' n (.inr h)) λh=>(step h).elim (λh=>m.ins p (.tail _ hp) n (.inr h)) λh=>hin' n (.inr h)
def da.parts(m:da b₀ S₀ s t b S ((one,two)::todo)){ps:List (Tm×Tm)}(h:∀σ,Sat b σ->(one.app σ=two.app σ↔∀p∈ps,p.1.app σ=p.2.app σ))
  (hin:∀p∈ps,∀n,(p.1.app S).has n\/(p.2.app S).has n->(one.app S).has n\/(two.app S).has n) (hq:∀Q,jY Q->BQ Q b->Q one->Q two->∀p∈ps,Q p.1/\Q p.2) (h1:(one.app S).bf=L0) (h2:(two.app S).bf=L0):da b₀ S₀ s t b S (ps++todo) where
 av:=m.av
 sat:=λσ=>(Gn (m.xq σ) (h σ)).trans (and_assoc.trans (and_congr_right' List.forall_mem_append.symm))
 pre:=m.pre
 keys:=m.keys
 dW:=λQ h1 h2 h3 h4=>
  have z:=m.dW Q h1 h2 h3 h4;have y:=z.2 _ (.head _)
  ⟨z.1,λp hp=>(cD.mp hp).elim (hq Q h1 z.1 y.1 y.2 p) λhp=>z.2 p (.tail _ hp)⟩
 step:=m.step
 ins:=λp hp n h=>(cD.mp hp).elim (λhp=>m.ins _ (.head _) n (hin p hp n h)) λhp=>m.ins p (.tail _ hp) n h
 dir:=.inr (.inr ((Dir.next (S':=S) m.dir).2 h1 h2))
def da.fails(m:da b₀ S₀ s t b S ((one,two)::todo))(h:∀σ,Sat b σ->one.app σ≠two.app σ):fu b₀ s t:=λσ a e=>by
 obtain⟨q,r⟩:=(m.sat σ).mp ⟨a,e⟩;exact h σ q (r _ (.head _))
end
def bh(tb:List Nat):Tm->Tm×List Nat
 | .v n=>if n∈tb then(.v (tb.idxOf n),tb) else(.v tb.length,tb++[n])| .c k z=>(.c k z,tb)| .s1 f x=>(.s1 f (bh tb x).1,(bh tb x).2)| .s2 f x y=>(.s2 f (bh tb x).1 (bh (bh tb x).2 y).1,(bh (bh tb x).2 y).2)
def eH(tb:List Nat):List Tm->List Tm×List Nat
 | []=>([],tb)|t::ts=>((bh tb t).1::(eH (bh tb t).2 ts).1,(eH (bh tb t).2 ts).2)
def eW(ts:List Tm):List Tm:=(eH [] ts).1
def bY(ts:List Tm):List Nat:=(eH [] ts).2
variable{tb:List Nat}{ts:List Tm}
section
variable{x:Tm}
def kY:bh tb (.v n)=if n∈tb then(.v (tb.idxOf n),tb) else(.v tb.length,tb++[n]):=rfl
end
structure ff(τ ω:Sb)(tb tb':List Nat):Prop where
 to:tb.map τ=tb'.map .v
 back:tb'.map ω=tb.map .v
variable{ω:Sb}{us:List Tm}
section
variable{tb':List Nat}{a b:Nat}
def ff.len(C:ff τ ω tb tb'):tb.length=tb'.length:=aQ (f:=τ)▸(aF List.length C.to).trans (aQ _)
def ff.at_(C:ff τ ω tb tb')(i a b:Nat)(h1:tb[i]?=F5 a)(h2:tb'[i]?=F5 b):τ a=.v b:=by
 have e:=aF (·[i]?) C.to;rw[gC,gC,h1,h2] at e;exact ay e
def ff.nil:ff τ ω [] []:=⟨rfl,rfl⟩
def ff.mem(C:ff τ ω tb tb')(h1:τ a=.v b)(h:a∈tb):b∈tb':=by
 have m:=s8 (f:=τ) h;rw[C.to,h1] at m;exact let ⟨_,m,e⟩:=dB.mp m;Tm.v.inj e▸m
def ff.snoc(C:ff τ ω tb tb')(h1:τ a=.v b)(h2:ω b=.v a):ff τ ω (tb++[a]) (tb'++[b]):=⟨by rw[b8,b8,C.to];exact aF (tb'.map Tm.v++[·]) h1,by rw[b8,b8,C.back];exact aF (tb.map Tm.v++[·]) h2⟩
def Q8(h1:τ a=.v b)(h2:ω b=.v a):∀{tb':List Nat},tb.map τ=tb'.map .v->tb'.map ω=tb.map .v->tb.idxOf a=tb'.idxOf b:=by
 induction tb with
 |nil=>
  intro tb' e _
  cases tb' with
  |nil=>rfl|cons=>exact nomatch e
 |cons x tb ih=>
  intro tb' e e'
  cases tb' with
  |nil=>exact nomatch e
  |cons y tb'=>
   have p:=qH e;have p':=qH e';have q:(x == a)=(y == b):=oS.mpr ⟨λz=>eB.mpr (Tm.v.inj (p.1.symm.trans (eB.mp z▸h1))),λz=>eB.mpr (Tm.v.inj (p'.1.symm.trans (eB.mp z▸h2)))⟩;rw[List.idxOf_cons,List.idxOf_cons,ih p.2 p'.2,q]
def U3:∀{tb tb':List Nat},(u.app τ).app ω=u->ff τ ω tb tb'->(bh tb u).1=(bh tb' (u.app τ)).1/\ff τ ω (bh tb u).2 (bh tb' (u.app τ)).2:=by
 induction u with
 |v a=>
  intro tb tb' h C;obtain⟨b,e,h2⟩:=tM h;rw[vj,show τ a=.v b from e,kY,kY]
  by_cases q:a∈tb
  .rw[aI q,aI (C.mem e q)];exact⟨aF Tm.v (Q8 e h2 C.to C.back),C⟩
  .rw[aD q,aD λr=>q (ff.mem ⟨C.back,C.to⟩ h2 r)];exact⟨aF Tm.v C.len,C.snoc e h2⟩
 |c=>exact λo C=>⟨rfl,C⟩|s1 f x ih=>exact λh C=>have z:=ih (Tm.s1.inj h).2 C;⟨aF (Tm.s1 f) z.1,z.2⟩|s2 f x y i1 i2=>exact λh C=>have z:=i1 (Tm.s2.inj h).2.1 C;have w:=i2 (Tm.s2.inj h).2.2 z.2;⟨r9 z.1 w.1,w.2⟩
def Uw:∀{tb tb':List Nat},(us.map (Tm.app τ)).map (Tm.app ω)=us->ff τ ω tb tb'->(eH tb us).1=(eH tb' (us.map (Tm.app τ))).1/\ff τ ω (eH tb us).2 (eH tb' (us.map (Tm.app τ))).2:=by
 induction us with
 |nil=>exact λy C=>⟨rfl,C⟩|cons u us ih=>exact λh C=>have h:=qH h;have z:=U3 h.1 C;have w:=ih h.2 z.2;⟨List.cons_eq_cons.mpr ⟨z.1,w.1⟩,w.2⟩
end
def pN:∀{tb:List Nat},n∈(bh tb t).2↔n∈tb\/t.has n:=by
 induction t with
 |v m=>
  intro tb;rw[kY];by_cases h:m∈tb
  .rw[aI h];exact⟨.inl,λq=>q.elim id λq=>(show m=n from q)▸h⟩
  .rw[aD h,cD,bB,Qt,eq_comm]
 |c=>exact⟨.inl,λh=>h.elim id False.elim⟩|s1 f x ih=>exact ih|s2 f x y i1 i2=>exact i2.trans ((or_congr_left i1).trans or_assoc)
def tu{p:α->Prop}{a:α}{l:List α}:p a\/(∃x∈l,p x)↔∃x∈a::l,p x:=⟨λh=>h.elim (λh=>⟨a,.head _,h⟩) λζ=>ζ.elim λx ζ'=>ζ'.elim λm h=>⟨x,.tail _ m,h⟩,λ⟨x,m,h⟩=>(bD.mp m).elim (λe=>.inl (e▸h)) λm=>.inr ⟨x,m,h⟩⟩
def pM:∀{tb:List Nat},n∈(eH tb ts).2↔n∈tb\/∃t∈ts,t.has n:=by
 induction ts with
 |nil=>exact⟨.inl,λh=>h.elim id λζ=>ζ.elim λy ζ'=>ζ'.elim λm y=>memN m⟩|cons t ts ih=>exact ih.trans ((or_congr_left pN).trans (or_assoc.trans (or_congr_right tu)))
variable{π:Sb}
def MT:t.app σ=t.app π->t.has n->σ n=π n:=by
 induction t with
 |v m=>exact λe h=>h▸e|c=>exact λz h=>h.elim|s1 f x ih=>exact λe h=>ih (Tm.s1.inj e).2 h|s2 f x y i1 i2=>exact λe h=>Or.elim h (i1 (Tm.s2.inj e).2.1) (i2 (Tm.s2.inj e).2.2)
def map_inj(h:n∈bY ts)(e:ts.map (Tm.app σ)=ts.map (Tm.app π)):σ n=π n:=
 have ⟨_,m,hn⟩:=(pM.mp h).resolve_left dZ
 MT (List.map_inj_left.mp e _ m) hn
abbrev Place:=Nat×Nat
abbrev tP(n:Nat):Place:=(116,n)
abbrev yP(n:Nat):Place:=(121,n)
abbrev aP(n:Nat):Place:=(97,n)
inductive bO where
 |getVar (p q:Place)|jh (p q:Place)|kU (k:Bool) (z:Int) (q:Place)|uY (q:Place)|putStr (f:Nat) (q:Place)|ky (p:Place)|ir (p:Place)|iJ (p:Place)|ku (k:Bool) (z:Int)|jo (n:Nat)|kq (p q:Place)|lj (q:Place)|kn (p q:Place)|jN (p q:Place)|lh (k:Bool) (z:Int) (q:Place)|jd (f:Nat)|level (p:Place)|mark (p:Place)|hY (p:Place)|cut|alloc (n:Nat)|hZ|call (f:Nat) (n:Nat)|exec (f:Nat)|proceed
structure Pl where
 void:Nat->Bool
 perm:Nat->Bool
 slot:Nat->Nat
 uns:Nat->Bool
 last:Nat->Int
set_option genCtorIdx true in
inductive Gl where
 |call (f:Nat) (as:List Tm)|bi (f:Nat) (as:List Tm)|ao (k:Nat)|mk (k:Nat)|ct (k:Nat)|cut
structure Cs where
 seen:List Nat
 loc:List Nat
 nt:Nat
abbrev Wr:=List bO×Cs
inductive Pc where
 |tm (t:Tm)|rg (p:Place)
section
variable(pl:Pl)
def place(k:Nat):Place:=if pl.perm k=F6 then yP (pl.slot k) else tP k
def add(l:List Nat)(k:Nat):List Nat:=if k∈l then l else l++[k]
def Cs.dk(c:Cs)(k:Nat):Cs:={c with seen:=add c.seen k}
def Cs.lU(c:Cs)(k:Nat):Cs:={c with loc:=add c.loc k}
def Cs.cS(c:Cs):Cs:={c with nt:=c.nt+1}
def aq:Tm->Bool
 | .s1 _ _=>F6| .s2 _ _ _=>F6|_=>L0
def b6:Tm->List Tm
 | .s1 _ x=>[x]| .s2 _ x y=>[x,y]|_=>[]
def fnOf:Tm->Nat
 | .s1 f _=>f| .s2 f _ _=>f|_=>0
def iV:Tm->Bool
 | .v k=>pl.void k|_=>L0
def mW(t:Tm)(q:Place)(c:Cs):Wr:=match t with
 | .v k=>if pl.void k=F6 then([],c) else if k∈c.seen then([.jh (place pl k) q],c) else([.getVar (place pl k) q],(c.dk k).lU k)| .c b z=>([.kU b z q],c)|_=>([],c)
def iD:List Tm->Nat->Cs->Wr
 | [],_,c=>([],c)|t::ts,n,c=>
   let w:=mW pl t (aP n) c
   let r:=iD ts (n+1) w.2
   (w.1++r.1,r.2)
def uf(k:Nat)(c:Cs):Wr:=
 if k∈c.loc then([.ir (place pl k)],if pl.perm k=F6 then c else {c with loc:=c.loc.filter (· != k)}) else([.iJ (place pl k)],c)
def kr(k:Nat)(c:Cs):Wr:=if k∈c.seen then uf pl k c else([.ky (place pl k)],c.dk k)
def uX(f:Nat)(r:Place):bO:=if f=0 then .uY r else .putStr f r
def iB(n:Nat):List bO:=if n=0 then[] else[.jo n]
def lP:Pc->Bool
 | .tm t=>iV pl t| .rg _=>L0
def eL(p:Pc)(c:Cs):Wr:=match p with
 | .tm (.v k)=>kr pl k c| .tm (.c b z)=>([.ku b z],c)| .rg r=>([.iJ r],c)|_=>([],c)
def dH:List Pc->Nat->Cs->Wr
 | [],n,c=>(iB n,c)|p::ps,n,c=>if lP pl p=F6 then dH ps (n+1) c else(iB n++((eL pl p c).1++(dH ps 0 (eL pl p c).2).1),(dH ps 0 (eL pl p c).2).2)
abbrev Pr:=List bO×List Pc×Cs
def fin(t:Tm)(r:Place)(ps:List Pc)(c:Cs):Wr:=(uX (fnOf t) r::(dH pl ps 0 c).1,(dH pl ps 0 c).2)
def c5(pr:Cs->Pr)(t:Tm)(c:Cs):List bO×Pc×Cs:=
 if aq t=F6 then((pr c).1++(fin pl t (tP (pr c).2.2.nt) (pr c).2.1 (pr c).2.2.cS).1,.rg (tP (pr c).2.2.nt),(fin pl t (tP (pr c).2.2.nt) (pr c).2.1 (pr c).2.2.cS).2) else([],.tm t,c)
def eI(pr:Cs->Pr)(t:Tm)(c:Cs):List bO×Pc×Cs:=
 if aq t=F6 then((pr c.cS).1++(fin pl t (tP c.nt) (pr c.cS).2.1 (pr c.cS).2.2).1,.rg (tP c.nt),(fin pl t (tP c.nt) (pr c.cS).2.1 (pr c.cS).2.2).2) else([],.tm t,c)
def Xl(w:List bO×Pc×Cs):Pr:=(w.1,[w.2.1],w.2.2)
def Xm(p:Pc)(i:List bO)(v:List bO×Pc×Cs):Pr:=(i++v.1,[v.2.1,p],v.2.2)
def bG(t:Tm):Cs->Pr:=Tm.rec (motive:=λz=>Cs->Pr) (λz c=>([],[],c)) (λz z c=>([],[],c)) (λz x ih c=>Xl (c5 pl ih x c)) (λz x y i1 i2 c=>Xm (c5 pl i2 y c).2.1 (c5 pl i2 y c).1 (eI pl i1 x (c5 pl i2 y c).2.2)) t
def kO(t:Tm)(r:Place)(c:Cs):Wr:=((bG pl t c).1++(fin pl t r (bG pl t c).2.1 (bG pl t c).2.2).1,(fin pl t r (bG pl t c).2.1 (bG pl t c).2.2).2)
def un(k:Nat)(lg:Int):Bool:=pl.uns k&&decide (0<=lg/\pl.last k=lg)
def n4(k:Nat)(q:Place)(lg:Int)(c:Cs):Wr:=
 if pl.void k=F6 then([.lj q],c) else if k∈c.seen then([if un pl k lg=F6 then .kn (place pl k) q else .jN (place pl k) q],c) else([.kq (place pl k) q],if pl.perm k=F6 then(c.dk k).lU k else c.dk k)
def n3(t:Tm)(q:Place)(lg:Int)(c:Cs):Wr:=match t with
 | .v k=>n4 pl k q lg c| .c b z=>([.lh b z q],c)|t=>kO pl t q c
def ig(lg:Int):List Tm->Nat->Cs->Wr
 | [],_,c=>([],c)|t::ts,n,c=>((n3 pl t (aP n) lg c).1++(ig lg ts (n+1) (n3 pl t (aP n) lg c).2).1,(ig lg ts (n+1) (n3 pl t (aP n) lg c).2).2)
def jM(i:Place->bO)(k:Nat)(c:Cs):Wr:=if pl.void k=F6 then([],c) else([i (place pl k)],c.dk k)
def gm(g:Gl)(i:Nat)(c:Cs):Wr:=match g with
 | .call _ as=>ig pl i as 1 c| .bi f as=>((ig pl (-1) as 1 c).1++[.jd f],(ig pl (-1) as 1 c).2)| .ao k=>jM pl .level k c| .mk k=>jM pl .mark k c| .ct k=>jM pl .hY k c| .cut=>([.cut],c)
end
def pD:Gl->bO
 | .call f _=>.exec f|_=>.proceed
def qw(la:Nat):Gl->List bO
 | .call f _=>[.call f la]|_=>[]
def iT(pl:Pl)(la:Nat->Nat)(e:Bool):List Gl->Nat->Cs->List bO
 | [],_,_=>[]|g::gs,i,c=>(gm pl g i c).1++(if gs.isEmpty=F6 then(if e=F6 then[.hZ] else[])++[pD g] else qw (la i) g++iT pl la e gs (i+1) (gm pl g i c).2)
def hW(pl:Pl)(N:Nat)(la:Nat->Nat)(e:Bool)(es:Nat)(args:List Tm)(goals:List Gl):List bO:=(if e=F6 then[.alloc es] else[])++((iD pl args 1 ⟨[],[],N⟩).1++iT pl la e goals 0 (iD pl args 1 ⟨[],[],N⟩).2)
abbrev Ev:=Nat×Nat×List Tm
structure FS where
 b:Bd
 hold:Place->Option Tm
 loose:List Nat
 ls:Nat->Int
 rest:List Tm
 aE:Nat
 living:Int
 evs:List Ev
 kept:List Tm
def pt(h:Place->Option Tm)(p:Place)(t:Tm):Place->Option Tm:=λq=>if q=p then F5 t else h q
def ar(f:Nat):Nat:=if f=32 then 1 else 2
def cR(f n:Nat):Tm:=if f=32 then .s1 f (.v (n+1)) else .s2 f (.v (n+1)) (.v (n+2))
def jm(names:List Nat)(n:Nat)(picks:List Nat):Option Nat:=if names≠[]/\0<(picks[n % picks.length]?).getD 0 then names[(picks[n % picks.length]?).getD 0 % names.length]? else L3
def zW(b:Bd)(n:Nat)(o:Option Nat):Bd:=Option.rec (motive:=λy=>Bd) b (λx=>b++[(x,.c L0 (700+(n:Int)))]) o
def event(b:Bd)(S:Sb)(f:Nat×Nat)(ts:List Tm)(evs:List Ev)(picks:List Nat):Bd×List Ev:=(zW b (evs.length+1) (jm (bY (ts.map (Tm.app S))) (evs.length+1) picks),evs++[(f.1,f.2,eW (ts.map (Tm.app S)))])
def gr(living:Int)(p:Place):Bool:=decide (p.1=121/\(p.2:Int)<=living)
def wu(living:Int)(p:Place):Bool:=decide (p.1=116)||gr living p
def lN(F:FS)(S:Sb)(parts:List Tm)(f:Nat×Nat)(kp:Place->Bool)(living:Int)(picks:List Nat):FS:=
 let e:=event F.b S f parts F.evs picks
 {F with hold:=λp=>if kp p=F6 then F.hold p else L3,living:=living,kept:=F.kept++parts,b:=e.1,evs:=e.2}
def eM(S:Sb)(parts:List Tm):Prop:=∀t∈parts,(t.app S).dep<=150
def Tm.WT:Tm->Prop
 | .s1 f x=>f=32/\x.WT| .s2 f x y=>(f=0\/f=33)/\x.WT/\y.WT|_=>True
structure aU(n:Nat)(t:Tm):Prop where
 lo:∀x,t.has x->x<=n
 wt:t.WT
 dp:t.dep<=100
def e6:Int:=-1000
section
variable(R:List bO->FS->Prop)(Fl:List Ev->Prop)(Dn:FS->Prop)(sig:Nat->Nat)(picks:List Nat)
def R_getVar:Prop:=∀{F is p q t},F.rest=[]->F.hold q=F5 t->aU F.aE t->R is {F with hold:=pt F.hold p t}->R (.getVar p q::is) F
def R_getVal:Prop:=∀{F is p q t u t' u' S},F.rest=[]->F.hold p=F5 t->F.hold q=F5 u->Walk F.b t t'->Walk F.b u u'->af F.b S->BQ (aU F.aE) F.b->aU F.aE t'->aU F.aE u'->(∀n∈F.loose,F.ls n=-2)->
  (∀{s1 s2},(s1=u'/\s2=t'/\(∃x,u'=.v x/\x∈F.loose))\/(s1=t'/\s2=u'/\∀x,u'=.v x->x∈F.loose->∃y,t'=.v y/\y∈F.loose)->(∀{b' S'},Met F.b S s1 s2 b' S'->R is {F with b:=b'})/\(fu F.b s1 s2->Fl F.evs))->R (.jh p q::is) F
def R_getCon:Prop:=∀{F is k z q t S},F.rest=[]->F.hold q=F5 t->af F.b S->BQ (aU F.aE) F.b->aU F.aE t->(∀{b' S'},Met F.b S t (.c k z) b' S'->R is {F with b:=b'})->(fu F.b t (.c k z)->Fl F.evs)->R (.kU k z q::is) F
def R_putC:Prop:=∀{F is f q},F.rest=[]->(f=32\/f=0\/f=33)->R is {F with hold:=pt F.hold q (cR f F.aE),rest:=b6 (cR f F.aE),aE:=F.aE+ar f}->R (uX f q::is) F
def R_setVar:Prop:=∀{F is p t r},F.rest=t::r->aU F.aE t->R is {F with hold:=pt F.hold p t,rest:=r}->R (.ky p::is) F
def R_setCon:Prop:=∀{F is k z t r S},F.rest=t::r->af F.b S->BQ (aU F.aE) F.b->aU F.aE t->(∀{b' S'},Met F.b S t (.c k z) b' S'->R is {F with b:=b',rest:=r})->(fu F.b t (.c k z)->Fl F.evs)->R (.ku k z::is) F
def R_setVoid:Prop:=∀{F is n},F.rest≠[]->n<=F.rest.length->R is {F with rest:=F.rest.drop n}->R (.jo n::is) F
def R_setVal:Prop:=∀{F is p t u x r S},F.rest=x::r->F.hold p=F5 t->Walk F.b t u->(∀n,u=.v n->n∉F.loose)->af F.b S->BQ (aU F.aE) F.b->aU F.aE t->aU F.aE u->aU F.aE x->(∀{b' S'},Met F.b S x u b' S'->R is {F with b:=b',rest:=r})->(fu F.b x u->Fl F.evs)->R (.iJ p::is) F
def R_setLoc:Prop:=∀{F is p t u x r S},F.rest=x::r->F.hold p=F5 t->Walk F.b t u->af F.b S->BQ (aU F.aE) F.b->aU F.aE t->aU F.aE u->aU F.aE x->(∀{b' S'},Met F.b S x u b' S'->R is {F with b:=b',rest:=r,loose:=F.loose.filter λn=>decide (u≠.v n)})->(fu F.b x u->Fl F.evs)->R (.ir p::is) F
def R_putVarT:Prop:=∀{F is n q},F.rest=[]->R is {F with hold:=pt (pt F.hold (tP n) (.v (F.aE+1))) q (.v (F.aE+1)),aE:=F.aE+1}->R (.kq (tP n) q::is) F
def R_putVarY:Prop:=∀{F is n q},F.rest=[]->(∀x∈F.loose,x<=F.aE)->R is {F with hold:=pt (pt F.hold (yP n) (.v (F.aE+1))) q (.v (F.aE+1)),aE:=F.aE+1,loose:=F.loose++[F.aE+1],ls:=λm=>if m=F.aE+1 then(n:Int) else F.ls m}->R (.kq (yP n) q::is) F
def R_putVoid:Prop:=∀{F is q},F.rest=[]->q.1=97->R is {F with hold:=pt F.hold q (.v (F.aE+1)),aE:=F.aE+1}->R (.lj q::is) F
def R_putUns:Prop:=∀{F is p q t u},F.rest=[]->F.hold p=F5 t->Walk F.b t u->BQ (aU F.aE) F.b->aU F.aE t->aU F.aE u->R is {F with hold:=pt F.hold q u,loose:=F.loose.filter λn=>decide (u≠.v n)}->R (.kn p q::is) F
def R_putVal:Prop:=∀{F is p q t},F.rest=[]->F.hold p=F5 t->aU F.aE t->R is {F with hold:=pt F.hold q t}->R (.jN p q::is) F
def R_putCon:Prop:=∀{F is k z q},F.rest=[]->R is {F with hold:=pt F.hold q (.c k z)}->R (.lh k z q::is) F
def R_built:Prop:=∀{F is f parts S},F.rest=[]->sig f=parts.length/\parts.length<=100->(∀i t,parts[i]?=F5 t->F.hold (aP (i+1))=F5 t/\aU F.aE t)->af F.b S->BQ (aU F.aE) F.b->eM S parts->R is (lN F S parts (1,f) (wu F.living) F.living picks)->R (.jd f::is) F
def R_level:Prop:=∀{F is p},F.rest=[]->R is {F with hold:=pt F.hold p (.c L0 e6)}->R (.level p::is) F
def R_mark:Prop:=∀{F is p},F.rest=[]->R is {F with hold:=pt F.hold p (.c L0 (5000+(F.evs.length:Int)))}->R (.mark p::is) F
def R_cutTo:Prop:=∀{F is p t S},F.rest=[]->F.hold p=F5 t->af F.b S->BQ (aU F.aE) F.b->aU F.aE t->eM S [t]->R is {F with evs:=F.evs++[(2,0,eW [t.app S])]}->R (.hY p::is) F
def R_cut:Prop:=∀{F is},F.rest=[]->R is {F with evs:=F.evs++[(3,0,[])]}->R (.cut::is) F
def R_dealloc:Prop:=∀{F is},F.rest=[]->R is {F with living:=-1}->R (.hZ::is) F
def R_call:Prop:=∀{F is f parts S} {n:Nat},F.rest=[]->sig f=parts.length/\parts.length<=100->(∀i t,parts[i]?=F5 t->F.hold (aP (i+1))=F5 t/\aU F.aE t)->(n:Int)<=F.living->af F.b S->BQ (aU F.aE) F.b->eM S parts->
  (∀t m,(t∈parts\/∃j,j<=n/\F.hold (yP j)=F5 t)->t.app S=.v m->m∈F.loose->F.ls m<=(n:Int))->R is (lN F S parts (0,f) (gr n) n picks)->R (.call f n::is) F
def R_exec:Prop:=∀{F f parts S},F.rest=[]->sig f=parts.length/\parts.length<=100->(∀i t,parts[i]?=F5 t->F.hold (aP (i+1))=F5 t/\aU F.aE t)->F.living=-1->af F.b S->BQ (aU F.aE) F.b->eM S parts->
  (∀t m,t∈parts->t.app S=.v m->m∈F.loose->F.ls m<=-1)->Dn (lN F S parts (0,f) (gr (-1)) (-1) picks)->R [.exec f] F
def R_proceed:Prop:=∀{F},F.rest=[]->F.living=-1->Dn F->R [.proceed] F
end
structure Rules(R:List bO->FS->Prop)(Fl:List Ev->Prop)(Dn:FS->Prop)(sig:Nat->Nat)(picks:List Nat):Prop where
 getVar:R_getVar R
 jh:R_getVal R Fl
 kU:R_getCon R Fl
 Jr:R_putC R
 ky:R_setVar R
 ku:R_setCon R Fl
 jo:R_setVoid R
 iJ:R_setVal R Fl
 ir:R_setLoc R Fl
 Ju:R_putVarT R
 Jv:R_putVarY R
 lj:R_putVoid R
 kn:R_putUns R
 jN:R_putVal R
 lh:R_putCon R
 jd:R_built R sig picks
 level:R_level R
 mark:R_mark R
 hY:R_cutTo R
 cut:R_cut R
 hZ:R_dealloc R
 call:R_call R sig picks
 exec:R_exec R Dn sig picks
 proceed:R_proceed R Dn
def Gr(n:Nat):jY (aU n):=⟨λf x h=>⟨h.lo,h.wt.2,gE h.dp⟩,λf x y h=>
 have e:max x.dep y.dep<=100:=gE h.dp
 ⟨⟨λz q=>h.lo z (.inl q),h.wt.2.1,aA (jT _ _) e⟩,⟨λz q=>h.lo z (.inr q),h.wt.2.2,aA (jU _ _) e⟩⟩⟩
def aU.mono(h:aU n t)(l:n<=m):aU m t:=⟨λx q=>aA (h.lo x q) l,h.wt,h.dp⟩
def aU.v{k:Nat}(h:k<=n):aU n (.v k):=⟨λy e=>e▸h,cC,ba _⟩
variable{z:Int}
def aU.c{k:Bool}:aU n (.c k z):=⟨λy e=>e.elim,cC,ba _⟩
def jG(h:t.bf=F6)(k:∀n,t=.v n->P):P:=by
 cases t with
 |v n=>exact k n rfl|_=>exact(az h).elim
def af.ind(M:af b S){P:Nat->Prop}(h0:∀n,b.at n=L3->P n)(h1:∀n t,b.at n=F5 t->(∀m,t.has m->P m)->P n):∀n,P n:=by
 obtain⟨r,hr⟩:=M.rank;have key:∀(k j n:Nat),(S n).a7<k->r n<j->P n:=by
  intro k
  induction k with
  |zero=>exact λy y h=>absurd h (tF _)|succ k ihk=>
   intro j
   induction j with
   |zero=>exact λy y h=>absurd h (tF _)|succ j ihj=>
    intro n hk hj
    cases e:b.at n with
    |none=>exact h0 n e|some t=>
     have hs:=M.sol n t e;refine h1 n t e λm hm=>?_
     cases hv:t.bf with
     |false=>exact ihk (r m+1) m (bw (hs▸Gf hm λe=>nomatch (e▸hv:(Tm.v m).bf=L0)) (qQ hk)) (dy _)
     |true=>
      refine jG hv λx ex=>?_;subst ex;cases (show x=m from hm)
      exact ihj m (bp (bX (aF Tm.a7 hs.symm)) hk) (bw (hr n m e) (qQ hj))
 exact λn=>key _ _ n (dy _) (dy _)
def KV(M:af b S){N:Nat->Prop}(h:BQ (λt=>∀n,t.has n->N n) b):∀n,N n->∀y,(S n).has y->N y:=M.ind (λn e h y hy=>by rw[M.id n e] at hy;exact(show n=y from hy)▸h) λn t e ih z y hy=>by
 rw[M.sol n t e] at hy;obtain⟨m,h1,h2⟩:=dg.mp hy;exact ih m h1 ((h _ (nN e)).2 m h1) y h2
def NL(S:Sb)(L:List Nat)(t:Tm):Prop:=∀x,(t.app S).has x->x∉L
def NI(S:Sb)(L:List Nat)(t:Tm):Prop:=(t.app S).bf=F6\/NL S L t
structure Ok(F:FS)(S:Sb):Prop where
 av:af F.b S
 c9:BQ (aU F.aE) F.b
 low:∀x∈F.loose,x<=F.aE
structure Mo(F:FS)(S:Sb)(F':FS)(S':Sb):Prop where
 ok:Ok F' S'
 sp:F.aE<=F'.aE
 nl:∀{t},aU F.aE t->NL S F.loose t->NL S' F'.loose t
 ni:∀{t},aU F.aE t->NI S F.loose t->NI S' F'.loose t
 fx:F'.evs=F.evs/\F'.living=F.living/\F'.kept=F.kept
 vl:∀{t n},aU F.aE t->t.app S'=.v n->n∈F'.loose->F'.ls n<=-2\/(t.app S=.v n/\n∈F.loose/\F'.ls n=F.ls n)
variable{g:Nat->Int}{F F' F2:FS}{L:List Nat}{T:Tm}{b':Bd}{r:List Tm}{h:Place->Option Tm}
section
variable{S2 D:Sb}
def Ok.same(O:Ok F S):Mo F S {F with hold:=h,rest:=r} S:=⟨⟨O.av,O.c9,O.low⟩,au _,λy q=>q,λy q=>q,⟨rfl,rfl,rfl⟩,λy e m=>.inr ⟨e,m,rfl⟩⟩
def Mo.trans(a:Mo F S F' S')(b:Mo F' S' F2 S2):Mo F S F2 S2:=⟨b.ok,aA a.sp b.sp,λi q=>b.nl (i.mono a.sp) (a.nl i q),λi q=>b.ni (i.mono a.sp) (a.ni i q),⟨b.fx.1.trans a.fx.1,b.fx.2.1.trans a.fx.2.1,b.fx.2.2.trans a.fx.2.2⟩,λi e m=>(b.vl (i.mono a.sp) e m).elim .inl λh=>(a.vl i h.1 h.2.1).imp (λz=>h.2.2▸z) λk=>⟨k.1,k.2.1,h.2.2.trans k.2.2⟩⟩
def nC(L:List Nat)(g:Nat->Int)(D:Sb):Prop:=∀n,D n=.v n\/(∀x,(D n).has x->x∉L)\/(n∈L/\(D n).bf=F6/\∀x∈L,g x<=-2)
def nC.nl(hd:nC L g D)(hS:∀n,S' n=(S n).app D)(h:NL S L u):NL S' L u:=λx hx=>by
 rw[show S'=λn=>(S n).app D from funext hS,<-fw] at hx
 obtain⟨n,h1,h2⟩:=dg.mp hx;rcases hd n with e|e|e
 .rw[e] at h2;exact(show n=x from h2)▸h n h1
 .exact e x h2
 .exact absurd e.1 (h n h1)
def nC.ni(hd:nC L g D)(hS:∀n,S' n=(S n).app D)(h:NI S L u):NI S' L u:=h.elim (λq=>jG q λn e=>by
 have e2:u.app S'=D n:=by rw[show S'=λn=>(S n).app D from funext hS,<-fw,e];rfl
 unfold NI NL;rw[e2];exact(hd n).elim (λe=>.inl (by rw[e];rfl)) λe=>e.elim .inr λe=>.inl e.2.1) λq=>.inr (hd.nl hS q)
def nC.vl(hd:nC L g D)(hS:∀n,S' n=(S n).app D)(e:u.app S'=.v n)(m:n∈L):g n<=-2\/u.app S=.v n:=by
 rw[show S'=λn=>(S n).app D from funext hS,<-fw] at e
 obtain⟨k,e1,e2⟩:=tM e;rcases hd k with h|h|h
 .exact .inr (e1.trans (h.symm.trans e2))
 .exact absurd m (h n (e2▸rfl))
 .exact .inl (h.2.2 n m)
def JR{y:Nat}(h:(∀x,w.has x->x∉L)\/(y∈L/\w.bf=F6/\∀x∈L,g x<=-2)):nC L g (one y w):=λn=>by
 unfold one;by_cases e:n=y
 .rw[aI e];exact .inr (h.imp id λq=>⟨e▸q.1,q.2⟩)
 .rw[aD e];exact .inl rfl
def Way(S:Sb)(L:List Nat)(g:Nat->Int)(s t:Tm):Prop:=(NL S L s/\NL S L t)\/(∃x,s.app S=.v x/\NL S L t)\/∃x,s.app S=.v x/\x∈L/\NI S L t/\∀x∈L,g x<=-2
def Met.N5(M:Met F.b S s t b' S')(w:Way S L g s t):∃D,nC L g D/\∀n,S' n=(S n).app D:=by
 rcases w with ⟨h1,h2⟩|⟨x,h1,h3⟩|⟨x,h1,h2,h3,h4⟩
 .obtain⟨D,d1,d2,d3⟩:=M.step;refine⟨D,λn=>?_,d1⟩;by_cases q:(s.app S).has n\/(t.app S).has n
  .exact .inr (.inl λx hx=>(d3 n x q hx).elim (h1 x) (h2 x))
  .exact .inl (d2 n q)
 .exact⟨_,JR (.inl h3),congrFun (M.dir.1 x h1)⟩
 .exact⟨_,JR (h3.elim (λq=>.inr ⟨h2,q,h4⟩) .inl),congrFun (M.dir.1 x h1)⟩
def Met.mo(O:Ok F S)(M:Met F.b S s t b' S')(hs:aU F.aE s)(ht:aU F.aE t)(w:Way S F.loose F.ls s t):Mo F S {F with b:=b',rest:=r} S':=by
 obtain⟨D,hd,e⟩:=M.N5 w;exact⟨⟨M.av,M.dW _ (Gr _) O.c9 hs ht,O.low⟩,au _,λy=>hd.nl e,λy=>hd.ni e,⟨rfl,rfl,rfl⟩,λy z m=>(hd.vl e z m).imp id λz=>⟨z,m,rfl⟩⟩
def Ok.pop(O:Ok F S){f:Nat->Bool}:Mo F S {F with loose:=F.loose.filter f} S:=⟨⟨O.av,O.c9,λx m=>O.low x (gX.mp m).1⟩,au _,λy q x hx m=>q x hx (gX.mp m).1,λy q=>q.imp id λq x hx m=>q x hx (gX.mp m).1,⟨rfl,rfl,rfl⟩,λy e m=>.inr ⟨e,(gX.mp m).1,rfl⟩⟩
def Jj(O:Ok F S)(w:Walk F.b t u)(h:NI S F.loose t):NL S (F.loose.filter λn=>decide (u≠.v n)) t:=λx hx m=>by
 obtain⟨m1,m2⟩:=gX.mp m;exact h.elim (λq=>jG q λn e=>dG m2 ((w.yJ O.av).mpr (by rw[e] at hx ⊢;exact aF Tm.v hx))) λq=>q x hx m1
def By(O:Ok F S)(w:Walk F.b t u):NL S L u↔NL S L t:=by unfold NL;rw[w.sat O.av.sol]
def JA(O:Ok F S)(w:Walk F.b t u):NI S L u↔NI S L t:=by unfold NI NL;rw[w.sat O.av.sol]
def xO(h:(cR f n).has x):n<x/\x<=n+ar f:=by
 unfold cR at h;unfold ar;by_cases e:f=32
 .rw[aI e] at h;rw[aI e];exact(show n+1=x from h)▸⟨dy _,au _⟩
 .rw[aD e] at h;rw[aD e];exact h.elim (λh=>(show n+1=x from h)▸⟨dy _,cJ _⟩) λh=>(show n+2=x from h)▸⟨yy (dy _),au _⟩
def WB(h:f=32\/f=0\/f=33):aU (n+ar f) (cR f n):=⟨λx q=>(xO q).2,by
 unfold cR;by_cases e:f=32
 .rw[aI e];exact⟨e,cC⟩
 .rw[aD e];exact⟨h.resolve_left e,cC,cC⟩,by
 unfold cR;by_cases e:f=32
 .rw[aI e];exact(by decide:1<=100)
 .rw[aD e];exact(by decide:1<=100)⟩
def Ok.new(O:Ok F S)(h:F.aE<x):S x=.v x:=O.av.id x (by
 cases e:F.b.at x with
 |none=>rfl|some t=>exact absurd ((O.c9 _ (nN e)).1.lo x rfl) (qS.mpr h))
def Ok.more(O:Ok F S):Mo F S {F with hold:=h,rest:=r,aE:=F.aE+m} S:=⟨⟨O.av,λp q=>⟨(O.c9 p q).1.mono (aW _ _),(O.c9 p q).2.mono (aW _ _)⟩,λx q=>aA (O.low x q) (aW _ _)⟩,aW _ _,λy q=>q,λy q=>q,⟨rfl,rfl,rfl⟩,λy e m=>.inr ⟨e,m,rfl⟩⟩
def Ok.old(O:Ok F S)(i:aU F.aE t)(hx:(t.app S).has x):x<=F.aE:=by
 obtain⟨m,h1,h2⟩:=dg.mp hx;exact KV O.av (N:=λn=>n<=F.aE) (λp m=>⟨(O.c9 p m).1.lo,(O.c9 p m).2.lo⟩) m (i.lo m h1) x h2
def Ok.I0(O:Ok F S):Mo F S {F with hold:=h,aE:=F.aE+1,loose:=F.loose++[F.aE+1],ls:=λm=>if m=F.aE+1 then z else F.ls m} S:=by
 have no:∀{t x},aU F.aE t->(t.app S).has x->x∈F.loose++[F.aE+1]->x∈F.loose/\x≠F.aE+1:=λ{t x} i hx m=>by
  have l:=O.old i hx;have ne:x≠F.aE+1:=ee (kD l);exact⟨(cD.mp m).resolve_right λm=>ne (bB.mp m),ne⟩
 exact⟨⟨O.av,λp q=>⟨(O.c9 p q).1.mono (cJ _),(O.c9 p q).2.mono (cJ _)⟩,λx q=>(cD.mp q).elim (λq=>fE (O.low x q)) λq=>bX (bB.mp q)⟩,cJ _,λi q x hx m=>q x hx (no i hx m).1,λi q=>q.imp id λq x hx m=>q x hx (no i hx m).1,⟨rfl,rfl,rfl⟩,λ{t n} i e m=>have z:=no i (e▸rfl) m;.inr ⟨e,z.1,aD z.2⟩⟩
end
structure Pe where
 t:Tm
 T:Tm
 p:Option Place
 h:Bool
def gA(val:Nat->Option Tm)(k:Nat)(t:Tm):Nat->Option Tm:=λj=>if j=k then F5 t else val j
structure Vn(pl:Pl)(lv:Nat->Prop)(c:Cs)(F:FS)(S:Sb)(k:Nat)(t:Tm):Prop where
 hold:lv k->F.hold (place pl k)=F5 t
 ni:NI S F.loose t
 nl:k∉c.loc->NL S F.loose t
 lvl:∀n,t.app S=.v n->n∈F.loose->F.ls n<=-2\/(pl.perm k=F6/\F.ls n=pl.slot k/\pl.uns k=F6)
structure Vk(pl:Pl)(N:Nat)(lv:Nat->Prop)(c:Cs)(F:FS)(S:Sb)(k:Nat)(t:Tm):Prop where
 bL:aU F.aE t
 lt:k<N
 nv:pl.void k=L0->Vn pl lv c F S k t
structure Pk(N:Nat)(F:FS)(S:Sb)(e:Pe):Prop where
 bL:aU F.aE e.T
 ni:NI S F.loose e.T
 nl:e.h=L0->NL S F.loose e.T
 oJ:∀p,e.p=F5 p->F.hold p=F5 e.T/\p.1=97
 vs:∀k,e.t.has k->k<N
structure Inv(pl:Pl)(N n0:Nat)(X:FS)(lv:Nat->Prop)(c:Cs)(F:FS)(S:Sb)(val:Nat->Option Tm)(pd:List Pe):Prop where
 ok:Ok F S
 sp:n0<=F.aE
 fx:F.evs=X.evs/\F.living=X.living/\F.kept=X.kept
 seen:∀k,pl.void k=L0->k∉c.seen->val k=L3
 sv:∀k,k∈c.seen->∃t,val k=F5 t
 vk:∀k t,val k=F5 t->Vk pl N lv c F S k t
 nt:N<=c.nt
 yh:∀n t,F.hold (yP n)=F5 t->∃k,val k=F5 t/\pl.void k=L0/\pl.perm k=F6/\pl.slot k=n
 pk:∀e∈pd,Pk N F S e
structure gG(pl:Pl)(N n0:Nat)(b:Bd)(val:Nat->Option Tm)(pd:List Pe)(π σ:Sb):Prop where
 sat:Sat b σ
 ag:∀n,N<=n->n<=n0->σ n=π n
 vc:∀k t,val k=F5 t->π k=t.app σ
 pd:∀e∈pd,(e.h=F6/\iV pl e.t=F6)\/e.t.app π=e.T.app σ
structure Eqv(pl:Pl)(N n0:Nat)(P:Sb->Prop)(b:Bd)(val:Nat->Option Tm)(pd:List Pe):Prop where
 snd:∀{π σ},gG pl N n0 b val pd π σ->P π
 cmp:∀{π},P π->∃σ,gG pl N n0 b val pd π σ
def Inj(pl:Pl)(N:Nat):Prop:=∀j k,j<N->k<N->pl.void j=L0->pl.void k=L0->place pl j=place pl k->j=k
variable{pl:Pl}{N n0 k j:Nat}{lv:Nat->Prop}{X:FS}{c':Cs}{val val':Nat->Option Tm}{pd pd':List Pe}{e:Pe}
section
variable{c:Cs}{P:Sb->Prop}
def f6{o:Option α}{x:α}{P:Prop}(h:o=L3)(h':o=F5 x):P:=nomatch h.symm.trans h'
def XS(h:place pl k=yP n):pl.perm k=F6/\pl.slot k=n:=by
 unfold place at h;by_cases q:pl.perm k=F6
 .rw[aI q] at h;exact⟨q,(ot h).2⟩
 .rw[aD q] at h;exact absurd (ot h).1 ⋯
def Vn.mo(v:Vn pl lv c F S k t)(i:aU F.aE t)(m:Mo F S F' S')(hh:F'.hold (place pl k)=F.hold (place pl k)):Vn pl lv c F' S' k t:=
 ⟨λl=>hh.trans (v.hold l),m.ni i v.ni,λq=>m.nl i (v.nl q),λn e q=>(m.vl i e q).elim .inl λ⟨a,b,c⟩=>c▸v.lvl n a b⟩
def Inv.mo(I:Inv pl N n0 X lv c F S val pd)(m:Mo F S F' S')(hh:∀p,((∃k t,val k=F5 t/\pl.void k=L0/\p=place pl k)\/∃e∈pd,e.p=F5 p)->F'.hold p=F.hold p)(hy:∀n t,F'.hold (yP n)=F5 t->F.hold (yP n)=F5 t):Inv pl N n0 X lv c F' S' val pd:=
 ⟨m.ok,aA I.sp m.sp,⟨m.fx.1.trans I.fx.1,m.fx.2.1.trans I.fx.2.1,m.fx.2.2.trans I.fx.2.2⟩,I.seen,I.sv,λk t e=>have v:=I.vk k t e
  ⟨v.bL.mono m.sp,v.lt,λq=>(v.nv q).mo v.bL m (hh _ (.inl ⟨k,t,e,q,rfl⟩))⟩,I.nt,λn t h=>I.yh n t (hy n t h),λe q=>have v:=I.pk e q
  ⟨v.bL.mono m.sp,m.ni v.bL v.ni,λh=>m.nl v.bL (v.nl h),λp h=>⟨(hh p (.inr ⟨e,q,h⟩)).trans (v.oJ p h).1,(v.oJ p h).2⟩,v.vs⟩⟩
def Inv.same(I:Inv pl N n0 X lv c F S val pd):Inv pl N n0 X lv c {F with rest:=r} S val pd:=I.mo (I.ok.same (h:=F.hold)) (λy y=>rfl) λy y h=>h
def Inv.perm(I:Inv pl N n0 X lv c F S val pd)(h:∀e∈pd',e∈pd):Inv pl N n0 X lv c F S val pd':=⟨I.ok,I.sp,I.fx,I.seen,I.sv,I.vk,I.nt,I.yh,λe q=>I.pk e (h e q)⟩
def Inv.tl(I:Inv pl N n0 X lv c F S val (e::pd)):Inv pl N n0 X lv c F S val pd:=I.perm λy q=>.tail _ q
def Inv.cS(I:Inv pl N n0 X lv c F S val pd):Inv pl N n0 X lv c.cS F S val pd:=⟨I.ok,I.sp,I.fx,I.seen,I.sv,λk t e=>have v:=I.vk k t e;⟨v.bL,v.lt,λq=>⟨(v.nv q).hold,(v.nv q).ni,(v.nv q).nl,(v.nv q).lvl⟩⟩,fE I.nt,I.yh,I.pk⟩
def Eqv.iff(E:Eqv pl N n0 P b val pd)(h:∀{π σ},gG pl N n0 b val pd π σ↔gG pl N n0 b' val' pd' π σ):Eqv pl N n0 P b' val' pd':=⟨λq=>E.snd (h.mpr q),λq=>(E.cmp q).elim λσ s=>⟨σ,h.mp s⟩⟩
def xu:gG pl N n0 b val (e::pd) π σ↔((e.h=F6/\iV pl e.t=F6)\/e.t.app π=e.T.app σ)/\gG pl N n0 b val pd π σ:=⟨λs=>⟨s.pd e (.head _),s.sat,s.ag,s.vc,λe m=>s.pd e (.tail _ m)⟩,λζ=>ζ.elim λq s=>⟨s.sat,s.ag,s.vc,λe' m=>(bD.mp m).elim (λx=>x▸q) (s.pd e')⟩⟩
def um{Q:Sb->Prop}(h:∀σ,Sat b' σ↔Sat b σ/\Q σ):gG pl N n0 b' val pd π σ↔Q σ/\gG pl N n0 b val pd π σ:=⟨λs=>⟨((h σ).mp s.sat).2,((h σ).mp s.sat).1,s.ag,s.vc,s.pd⟩,λζ=>ζ.elim λq s=>⟨(h σ).mpr ⟨s.sat,q⟩,s.ag,s.vc,s.pd⟩⟩
def WM(E:Eqv pl N n0 P b val pd)(h:∀{π σ},¬gG pl N n0 b val pd π σ)(π:Sb):¬P π:=λq=>(E.cmp q).elim λy s=>h s
def Eqv.void(E:Eqv pl N n0 P b val (e::pd))(h:e.h=F6/\iV pl e.t=F6):Eqv pl N n0 P b val pd:=E.iff (xu.trans ⟨λq=>q.2,λq=>⟨.inl h,q⟩⟩)
def ZI(M:Met b S t u b' S')(h:∀{π σ},Sat b σ->(∀k t,val k=F5 t->π k=t.app σ)->(((e.h=F6/\iV pl e.t=F6)\/e.t.app π=e.T.app σ)↔t.app σ=u.app σ)):gG pl N n0 b val (e::pd) π σ↔gG pl N n0 b' val pd π σ:=
 xu.trans ⟨λq=>(um M.sat).mpr ⟨(h q.2.sat q.2.vc).mp q.1,q.2⟩,λq=>have q:=(um M.sat).mp q;⟨(h q.2.sat q.2.vc).mpr q.1,q.2⟩⟩
def Eqv.met(E:Eqv pl N n0 P b val (e::pd))(M:Met b S t u b' S')(h:∀{π σ},Sat b σ->(∀k t,val k=F5 t->π k=t.app σ)->(((e.h=F6/\iV pl e.t=F6)\/e.t.app π=e.T.app σ)↔t.app σ=u.app σ)):Eqv pl N n0 P b' val pd:=E.iff (ZI M h)
def Eqv.sR(E:Eqv pl N n0 P b val (e::pd))(U:fu b t u)(h:∀{π σ},Sat b σ->(∀k t,val k=F5 t->π k=t.app σ)->(((e.h=F6/\iV pl e.t=F6)\/e.t.app π=e.T.app σ)↔t.app σ=u.app σ)):∀π,¬P π:=
 WM E λs=>have q:=xu.mp s;U _ q.2.sat ((h q.2.sat q.2.vc).mp q.1)
def u4(h:gA val k t j=F5 w):(j=k/\w=t)\/(j≠k/\val j=F5 w):=by
 unfold gA at h;by_cases q:j=k
 .rw[aI q] at h;exact .inl ⟨q,(ay h).symm⟩
 .rw[aD q] at h;exact .inr ⟨q,h⟩
def jQ(hn:val k=L3)(h:val j=F5 w):gA val k t j=F5 w:=(aD λq=>f6 hn (q▸h)).trans h
def ju:gA val k t k=F5 t:=aI rfl
def Eqv.var(E:Eqv pl N n0 P b val (e::pd))(he:e.t=.v k)(hv:e.h=L0\/pl.void k=L0)(hn:val k=L3):Eqv pl N n0 P b (gA val k e.T) pd:=E.iff (xu.trans
 ⟨λζ=>ζ.elim λq s=>⟨s.sat,s.ag,λj w h=>(u4 h).elim (λh=>by
   rw[he] at q;rw[h.1,h.2];exact q.resolve_left λz=>hv.elim (λh=>az (h.symm.trans z.1)) λh=>az (h.symm.trans z.2)) λh=>s.vc j w h.2,s.pd⟩,
  λs=>⟨by rw[he];exact .inr (s.vc k e.T ju),s.sat,s.ag,λj w h=>s.vc j w (jQ hn h),s.pd⟩⟩)
def rS{l:List Nat}:j∈add l k↔j∈l\/j=k:=by
 unfold add;by_cases h:k∈l
 .rw[aI h];exact⟨.inl,λq=>q.elim id λe=>e▸h⟩
 .rw[aD h,cD,bB]
def Inv.var(I:Inv pl N n0 X lv c F S val pd)(hn:val k=L3)(i:aU F.aE t)(lt:k<N)(v:Vn pl lv c' {F with hold:=h,rest:=r} S k t)(h0:h (place pl k)=F5 t)(h1:c'.seen=add c.seen k)(h2:c'.nt=c.nt)(h3:∀j,j≠k->j∉c'.loc->j∉c.loc)(hv:pl.void k=L0)
  (ho:∀p,p≠place pl k->((∃k t,val k=F5 t/\pl.void k=L0/\p=place pl k)\/(∃e∈pd,e.p=F5 p)\/p.1=121)->h p=F.hold p) (hp:∀j t,val j=F5 t->pl.void j=L0->place pl j≠place pl k) (he:∀e∈pd,e.p≠F5 (place pl k)):Inv pl N n0 X lv c' {F with hold:=h,rest:=r} S (gA val k t) pd:=
 ⟨⟨I.ok.av,I.ok.c9,I.ok.low⟩,I.sp,I.fx,λj q z=>by rw[h1,rS] at z;exact(aD λe=>z (.inr e)).trans (I.seen j q λm=>z (.inl m)),λj q=>by
  by_cases e:j=k
  .exact⟨t,aI e⟩
  .rw[h1,rS] at q;exact(I.sv j (q.resolve_right e)).elim λw a=>⟨w,jQ hn a⟩,λj w a=>(u4 a).elim (λa=>by rw[a.1,a.2];exact⟨i,lt,λo=>v⟩) λa=>have z:=I.vk j w a.2;⟨z.bL,z.lt,λq=>have y:=z.nv q;⟨λl=>(ho _ (hp j w a.2 q) (.inl ⟨j,w,a.2,q,rfl⟩)).trans (y.hold l),y.ni,λm=>y.nl (h3 j a.1 m),y.lvl⟩⟩,h2▸I.nt,λn w a=>by
  by_cases e:yP n=place pl k
  .exact have z:=XS e.symm;⟨k,ju.trans (h0.symm.trans (e▸a)),hv,z.1,z.2⟩
  .exact(I.yh n w ((ho _ e (.inr (.inr rfl))).symm.trans a)).elim λj ζ'=>ζ'.elim λz1 ζ''=>ζ''.elim λz2 z3=>⟨j,jQ hn z1,z2,z3⟩,λe m=>have z:=I.pk e m;⟨z.bL,z.ni,z.nl,λp q=>⟨(ho p (λx=>he e m (x▸q)) (.inr (.inl ⟨e,m,q⟩))).trans (z.oJ p q).1,(z.oJ p q).2⟩,z.vs⟩⟩
def Inv.ghost(I:Inv pl N n0 X lv c F S val pd)(hn:val k=L3)(i:aU F.aE t)(lt:k<N)(hv:pl.void k=F6):Inv pl N n0 X lv c F S (gA val k t) pd:=
 ⟨I.ok,I.sp,I.fx,λj q z=>(aD λe:j=k=>az (q.symm.trans (e▸hv))).trans (I.seen j q z),λj q=>(I.sv j q).elim λw a=>⟨w,jQ hn a⟩,λj w a=>(u4 a).elim (λa=>by rw[a.1,a.2];exact⟨i,lt,λq=>absurd (q.symm.trans hv) az⟩) λa=>I.vk j w a.2,I.nt,λn w a=>(I.yh n w a).elim λj z=>⟨j,jQ hn z.1,z.2⟩,I.pk⟩
end
def p7:List Tm->List Tm->Nat->List Pe
 |t::ts,T::Ts,i=>⟨t,T,F5 (aP i),F6⟩::p7 ts Ts (i+1)|_,_,_=>[]
def gB(b:Bd)(val:Nat->Option Tm)(π σ:Sb):Prop:=Sat b σ/\∀k t,val k=F5 t->π k=t.app σ
variable{i:Nat}{p:Place}{Q:Prop}{R:List bO->FS->Prop}{Dn:FS->Prop}{sig:Nat->Nat}{picks:List Nat}{is:List bO}
section
variable{c:Cs}{P:Sb->Prop}
def oH(hk:k<N)(h:p.1=97\/(p.1=116/\N<=p.2)):p≠place pl k:=by
 unfold place;intro e;by_cases q:pl.perm k=F6
 .rw[aI q] at e;rw[e] at h;exact h.elim (show ¬(121:Nat)=97 by decide) λh=>(show ¬(121:Nat)=116 by decide) h.1
 .rw[aD q] at e;rw[e] at h;exact h.elim (show ¬(116:Nat)=97 by decide) λh=>ed _ (bw hk h.2)
def I9(h:NI S L t)(h1:∀x,t.app S=.v x->x∈L->Q)(h2:NL S L t->Q):Q:=h.elim (λq=>jG q λx e=>(oT (x∈L)).elim (h1 x e) λn=>h2 λy hy=>by rw[e] at hy;exact(show x=y from hy)▸n) h2
def Le(h:NI S L t)(h':NI S L u)(o:∀x,u.app S=.v x->x∈L->∃y,t.app S=.v y/\y∈L)(hz:∀x∈L,g x<=-2):Way S L g t u:=I9 h (λx e m=>.inr (.inr ⟨x,e,m,h',hz⟩)) λn=>I9 h' (λx e m=>(o x e m).elim λy ζ'=>ζ'.elim λe' m'=>absurd m' (n y (by rw[e'];rfl))) λn'=>.inl ⟨n,n'⟩
def Inv.meet(I:Inv pl N n0 X lv c F S val pd)(M:Met F.b S t u b' S')(ht:aU F.aE t)(hu:aU F.aE u)(w:Way S F.loose F.ls t u):Inv pl N n0 X lv c {F with b:=b',rest:=r} S' val pd:=I.mo (M.mo I.ok ht hu w) (λy y=>rfl) λy y h=>h
def Inv.new(inj:Inj pl N)(I:Inv pl N n0 X lv c F S val pd)(hn:val k=L3)(lt:k<N)(hv:pl.void k=L0)(it:aU F.aE t)(ni:NI S F.loose t)(nl:k∉c'.loc->NL S F.loose t)(ll:∀n,t.app S=.v n->n∈F.loose->F.ls n<=-2\/(pl.perm k=F6/\F.ls n=pl.slot k/\pl.uns k=F6))(h1:c'.seen=add c.seen k)(h2:c'.nt=c.nt)(h3:∀j,j≠k->j∉c'.loc->j∉c.loc)(h0:h (place pl k)=F5 t)(ho:∀p,p≠place pl k->((∃k t,val k=F5 t/\pl.void k=L0/\p=place pl k)\/(∃e∈pd,e.p=F5 p)\/p.1=121)->h p=F.hold p):Inv pl N n0 X lv c' {F with hold:=h,rest:=r} S (gA val k t) pd:=
 I.var hn it lt ⟨λy=>h0,ni,nl,ll⟩ h0 h1 h2 h3 hv ho (λj t a q x=>f6 hn (inj j k (I.vk j t a).lt lt q hv x▸a)) λe m x=>oH (pl:=pl) lt (.inl ((I.pk e m).oJ _ x).2) rfl
variable{Fl:List Ev->Prop}(rl:Rules R Fl Dn sig picks)(hF:(∀π,¬P π)->Fl X.evs)
include rl hF
def QS(hz:∀n∈F.loose,F.ls n=-2)(I:Inv pl N n0 X lv c F S val (e::pd))(E:Eqv pl N n0 P F.b val (e::pd))(hp:e.p=F5 p)(hr:F.rest=[])(he:e.t=.v k)(hv:pl.void k=L0)(al:lv k)(hk:k∈c.seen)(K:∀{b' S'},Inv pl N n0 X lv c {F with b:=b'} S' val pd->Eqv pl N n0 P b' val pd->R is {F with b:=b'}):R (.jh (place pl k) p::is) F:=by
 obtain⟨t,ht⟩:=I.sv k hk;have v:=I.vk k t ht;have y:=v.nv hv;have q:=I.pk e (.head _);obtain⟨u1,w1⟩:=I.ok.av.walks t;obtain⟨u2,w2⟩:=I.ok.av.walks e.T;have b1:=w1.dW I.ok.c9 v.bL;have b2:=w2.dW I.ok.c9 q.bL;have n1:=(JA I.ok w1).mpr y.ni;have n2:=(JA I.ok w2).mpr q.ni;have lz:∀n∈F.loose,F.ls n<=-2:=λn m=>Int.le_of_eq (hz n m);have iff:∀{π σ:Sb},Sat F.b σ->(∀k t,val k=F5 t->π k=t.app σ)->(((e.h=F6/\iV pl e.t=F6)\/e.t.app π=e.T.app σ)↔u1.app σ=u2.app σ):=λ{π σ} s vc=>by
  rw[he,vj,vc k t ht,w1.sat s,w2.sat s];exact⟨λh=>h.resolve_left λz=>az (hv.symm.trans z.2),.inr⟩
 refine rl.jh hr (y.hold al) (q.oJ p hp).1 w1 w2 I.ok.av I.ok.c9 b1 b2 hz λ{s1 s2} cs=>cs.elim (λ⟨e1,e2,x,ex,mx⟩=>?_) λ⟨e1,e2,o⟩=>?_
 .subst e1 e2;exact⟨λM=>K (I.tl.meet (r:=F.rest) M b2 b1 (.inr (.inr ⟨x,by rw[<-w2.sat I.ok.av.sol];exact w2.yJ I.ok.av |>.mp ex,mx,n1,lz⟩))) (E.met M λs vc=>(iff s vc).trans eq_comm),λU=>I.fx.1▸hF (E.sR U λs vc=>(iff s vc).trans eq_comm)⟩
 .subst e1 e2;exact⟨λM=>K (I.tl.meet (r:=F.rest) M b1 b2 (Le n1 n2 (λx ex mx=>by
   rw[<-w2.sat I.ok.av.sol] at ex;obtain⟨y,ey,my⟩:=o x ((w2.yJ I.ok.av).mpr ex) mx;exact⟨y,by rw[<-w1.sat I.ok.av.sol];exact(w1.yJ I.ok.av).mp ey,my⟩) lz)) (E.met M iff),λU=>I.fx.1▸hF (E.sR U iff)⟩
def Qw(inj:Inj pl N)(al:∀k,lv k)(hz:∀n∈F.loose,F.ls n=-2)(I:Inv pl N n0 X lv c F S val (e::pd))(E:Eqv pl N n0 P F.b val (e::pd))(hp:e.p=F5 p)(hh:e.h=F6)(hs:aq e.t=L0)(hr:F.rest=[])(K:∀{F' S' val'},(∀n∈F'.loose,F'.ls n=-2)->Inv pl N n0 X lv (mW pl e.t p c).2 F' S' val' pd->Eqv pl N n0 P F'.b val' pd->F'.rest=[]->(∀k,val' k≠L3↔val k≠L3\/(pl.void k=L0/\e.t.has k))->R is F'):R ((mW pl e.t p c).1++is) F:=by
 have q:=I.pk e (.head _);have lz:∀n∈F.loose,F.ls n<=-2:=λn m=>Int.le_of_eq (hz n m)
 cases ht:e.t with
 |v k=>
  rw[ht] at K;unfold mW at K ⊢
  dsimp only at K ⊢
  by_cases hv:pl.void k=F6
  .rw[aI hv] at K ⊢;exact K hz I.tl (E.void ⟨hh,by rw[ht];exact hv⟩) hr λj=>⟨.inl,λh=>h.elim id λh=>absurd ((show k=j from h.2)▸h.1) (by rw[hv];exact az.symm)⟩
  .rw[aD hv] at K ⊢;have hv:=jy.mpr hv;by_cases hk:k∈c.seen
   .rw[aI hk] at K ⊢;exact QS rl hF hz I E hp hr ht hv (al k) hk λI E=>K hz I E hr λj=>⟨.inl,λh=>h.elim id λh=>(show k=j from h.2)▸(λz=>(I.sv k hk).elim λo w=>f6 z w)⟩
   .rw[aD hk] at K ⊢;have hn:=I.seen k hv hk;refine rl.getVar hr (q.oJ p hp).1 q.bL (K hz (I.tl.new (c':=(c.dk k).lU k) (r:=F.rest) (h:=pt F.hold (place pl k) e.T) inj hn (q.vs k (by rw[ht];exact rfl)) hv q.bL q.ni (λm=>absurd (rS.mpr (.inr rfl)) m) (λn o m=>.inl (lz n m)) rfl rfl (λj o m m'=>m (rS.mpr (.inl m'))) (aI rfl) λp q o=>aD q) (E.var ht (.inr hv) hn) hr λj=>?_)
    by_cases z:j=k
    .exact⟨λo=>.inr ⟨z▸hv,z.symm⟩,λo y=>f6 y (by rw[z];exact ju)⟩
    .unfold gA;rw[aD z];exact⟨.inl,λh=>h.elim id λh=>absurd (show k=j from h.2).symm z⟩
 |c k z=>
  rw[ht] at K;have iff:∀{π σ:Sb},Sat F.b σ->(∀k t,val k=F5 t->π k=t.app σ)->(((e.h=F6/\iV pl e.t=F6)\/e.t.app π=e.T.app σ)↔e.T.app σ=(Tm.c k z).app σ):=λo o=>by rw[ht];exact⟨λh=>(h.resolve_left λz=>nomatch z.2).symm,λh=>.inr h.symm⟩
  exact rl.kU hr (q.oJ p hp).1 I.ok.av I.ok.c9 q.bL (λM=>K hz (I.tl.meet (r:=F.rest) M q.bL .c (Le q.ni (.inr λo h=>h.elim) (λo e=>nomatch e) lz)) (E.met M iff) hr λj=>⟨.inl,λh=>h.elim id λh=>h.2.elim⟩) λU=>I.fx.1▸hF (E.sR U iff)
 |s1 f x=>rw[ht] at hs;exact nomatch hs
 |s2 f x y=>rw[ht] at hs;exact nomatch hs
def Gg(inj:Inj pl N)(al:∀k,lv k):∀{Ts i c F S val},(∀t∈ts,aq t=L0)->ts.length=Ts.length->(∀n∈F.loose,F.ls n=-2)->Inv pl N n0 X lv c F S val (p7 ts Ts i)->Eqv pl N n0 P F.b val (p7 ts Ts i)->F.rest=[]->(∀{F' S' val'},(∀n∈F'.loose,F'.ls n=-2)->Inv pl N n0 X lv (iD pl ts i c).2 F' S' val' []->Eqv pl N n0 P F'.b val' []->F'.rest=[]->(∀k,val' k≠L3↔val k≠L3\/(pl.void k=L0/\∃t∈ts,t.has k))->R is F')->R ((iD pl ts i c).1++is) F:=by
 induction ts with
 |nil=>
  intro Ts i c F S val _ hl hz I E hr K;cases nE.mp hl.symm;exact K hz I E hr λk=>⟨.inl,λh=>h.elim id λζ=>ζ.elim λy ζ'=>ζ'.elim λy ζ''=>ζ''.elim λm y=>memN m⟩
 |cons t ts ih=>
  intro Ts i c F S val hs hl hz I E hr K
  cases Ts with
  |nil=>exact nomatch hl
  |cons T Ts=>
   show R ((mW pl t (aP i) c).1++_++is) F;rw[dw];refine Qw rl hF inj al (e:=⟨t,T,F5 (aP i),F6⟩) hz I E rfl rfl (hs t (.head _)) hr λhz I E hr a=>ih (λt m=>hs t (.tail _ m)) (qU hl) hz I E hr λhz I E hr b=>K hz I E hr λk=>(b k).trans ?_;rw[a k,or_assoc,<-and_or_left,tu]
end
def dj(n:Nat):Tm->Nat
 | .v m=>if m=n then 1 else 0| .c _ _=>0| .s1 _ x=>dj n x| .s2 _ x y=>dj n x+dj n y
def il(k:Nat):List Tm->Nat
 | []=>0|t::ts=>dj k t+il k ts
def pV(h:t.has n):1<=dj n t:=by
 induction t with
 |v m=>exact bX (aI h).symm|c=>exact h.elim|s1 f x ih=>exact ih h|s2 f x y i1 i2=>exact h.elim (λh=>aA (i1 h) (aW _ _)) λh=>aA (i2 h) (cI _ _)
def xU(m:t∈ts)(h:t.has k):1<=il k ts:=by
 induction ts with
 |nil=>exact memN m|cons u ts ih=>exact(bD.mp m).elim (λe=>aA (pV (e▸h)) (aW _ _)) λm=>aA (ih m) (cI _ _)
def LP{a b:Nat}(h:a+b<=1)(h1:1<=a)(h2:1<=b):P:=absurd (aA (eb h1 h2) h) ⋯
def Fr(pl:Pl)(val:Nat->Option Tm)(ts:List Tm):Prop:=∀k,pl.void k=F6->il k ts<=1/\∀t∈ts,t.has k->val k=L3
structure St(H:Place->Prop)(A:Nat->Prop)(F:FS)(S:Sb)(val:Nat->Option Tm)(F':FS)(S':Sb)(val':Nat->Option Tm):Prop where
 mo:Mo F S F' S'
 ho:∀p,H p->F'.hold p=F.hold p
 an:∀{π σ},gB F'.b val' π σ->gB F.b val π σ
 nw:∀k,val' k≠L3↔val k≠L3\/A k
structure vb(lo m:Nat)(F:FS)(S:Sb)(val:Nat->Option Tm)(p:Place)(t T:Tm):Prop where
 tp:p.1=116/\lo<=p.2/\p.2<m
 hold:F.hold p=F5 T
 bL:aU F.aE T
 nl:NL S F.loose T
 an:∀{π σ},gB F.b val π σ->t.app π=T.app σ
def lF(lo m:Nat)(F:FS)(S:Sb)(val:Nat->Option Tm):Pc->Tm->Prop
 | .tm u,t=>u=t/\aq t=L0| .rg p,t=>∃T,vb lo m F S val p t T
def oq(lo m:Nat)(F:FS)(S:Sb)(val:Nat->Option Tm):List Pc->List Tm->Prop
 |p::ps,t::ts=>lF lo m F S val p t/\oq lo m F S val ps ts| [],[]=>True|_,_=>False
def dz:List Pc->List Tm
 | []=>[]| .tm t::ps=>t::dz ps| .rg _::ps=>dz ps
def oQ(ts Ts:List Tm):List Pe:=List.zipWith (λt T=>⟨t,T,L3,L0⟩) ts Ts
def Hs(N:Nat)(p:Place):Prop:=p.1=97\/(p.1=116/\N<=p.2)
variable{val2:Nat->Option Tm}{P:Sb->Prop}{lo lo' m':Nat}{Ts:List Tm}{H H':Place->Prop}{A A':Nat->Prop}{q:Place}{pc:Pc}{ps:List Pc}{x:Tm}
section
variable{c:Cs}{S2:Sb}
def St.weak(s:St H A F S val F' S' val')(h:∀p,H' p->H p)(a:∀k,A k↔A' k):St H' A' F S val F' S' val':=⟨s.mo,λp q=>s.ho p (h p q),s.an,λk=>(s.nw k).trans (or_congr_right (a k))⟩
def St.trans(s:St H A F S val F' S' val')(s':St H A' F' S' val' F2 S2 val2):St H (λk=>A k\/A' k) F S val F2 S2 val2:=⟨s.mo.trans s'.mo,λp q=>(s'.ho p q).trans (s.ho p q),λa=>s.an (s'.an a),λk=>by rw[s'.nw,s.nw,or_assoc]⟩
def Fr.step(f:Fr pl val (t::ts))(s:St H A F S val F' S' val')(a:∀k,A k->t.has k):Fr pl val' ts:=λk v=>⟨aA (cI _ _) (f k v).1,λu m hu=>sa λz=>((s.nw k).mp z).elim (λz=>z ((f k v).2 u (.tail _ m) hu)) λz=>LP (f k v).1 (pV (a k z)) (xU m hu)⟩
def vb.mo(g:vb lo m F S val p t T)(s:St H A F S val F' S' val')(hp:H p)(hl:lo'<=lo)(hc:m<=m'):vb lo' m' F' S' val' p t T:=⟨⟨g.tp.1,aA hl g.tp.2.1,bw g.tp.2.2 hc⟩,(s.ho p hp).trans g.hold,g.bL.mono s.mo.sp,s.mo.nl g.bL g.nl,λa=>g.an (s.an a)⟩
def lF.mo(g:lF lo m F S val pc t)(s:St H A F S val F' S' val')(hp:∀p,p.1=116->lo<=p.2->p.2<m->H p)(hl:lo'<=lo)(hc:m<=m'):lF lo' m' F' S' val' pc t:=by
 cases pc with
 |tm u=>exact g|rg p=>exact g.elim λT g=>⟨T,g.mo s (hp p g.tp.1 g.tp.2.1 g.tp.2.2) hl hc⟩
def oq.mo(s:St H A F S val F' S' val')(hp:∀p,p.1=116->lo<=p.2->p.2<m->H p)(hl:lo'<=lo)(hc:m<=m'):∀{ts},oq lo m F S val ps ts->oq lo' m' F' S' val' ps ts:=by
 induction ps with
 |nil=>
  intro ts g
  cases ts with
  |nil=>exact cC|cons=>exact g.elim
 |cons pc ps ih=>
  intro ts g
  cases ts with
  |nil=>exact g.elim|cons t ts=>exact⟨g.1.mo s hp hl hc,ih g.2⟩
def Inv.aAt(I:Inv pl N n0 X lv c F S val pd)(nl:∀t,val k=F5 t->NL S F.loose t):Inv pl N n0 X lv {c with loc:=c.loc.filter (· != k)} F S val pd:=⟨I.ok,I.sp,I.fx,I.seen,I.sv,λj t h=>have v:=I.vk j t h
 ⟨v.bL,v.lt,λz=>have y:=v.nv z;⟨y.hold,y.ni,λq=>by
  by_cases e:j=k
  .exact nl t (e▸h)
  .exact y.nl λm=>q (gX.mpr ⟨m,nP.mpr e⟩),y.lvl⟩⟩,I.nt,I.yh,I.pk⟩
def rf{a b:Bool}(h:(a=F6/\b=F6)\/x=y)(z:a=L0):x=y:=h.resolve_left λq=>az (z.symm.trans q.1)
variable{Fl:List Ev->Prop}(rl:Rules R Fl Dn sig picks)(hF:(∀π,¬P π)->Fl X.evs)
include rl hF
def Kb(I:Inv pl N n0 X lv c F S val (e::pd))(E:Eqv pl N n0 P F.b val (e::pd))(hr:F.rest=e.T::r)(hh:e.h=L0)(hp:F.hold p=F5 t)(it:aU F.aE t)(nl:NL S F.loose t)(an:∀{π σ},gB F.b val π σ->e.t.app π=t.app σ)
  (K:∀{b' S'},St (λy=>True) (λy=>False) F S val {F with b:=b',rest:=r} S' val->(∀{π σ},gB b' val π σ->e.t.app π=e.T.app σ)->Inv pl N n0 X lv c {F with b:=b',rest:=r} S' val pd->Eqv pl N n0 P b' val pd->R is {F with b:=b',rest:=r}):R (.iJ p::is) F:=by
 obtain⟨u,w⟩:=I.ok.av.walks t;have q:=I.pk e (.head _);have nu:=(By I.ok w (L:=F.loose)).mpr nl;have hu:=w.dW I.ok.c9 it;have iff:∀{π σ:Sb},Sat F.b σ->(∀k t,val k=F5 t->π k=t.app σ)->(((e.h=F6/\iV pl e.t=F6)\/e.t.app π=e.T.app σ)↔e.T.app σ=u.app σ):=λs vc=>⟨λh=>(rf h hh).symm.trans ((an ⟨s,vc⟩).trans (w.sat s)),λh=>.inr (((an ⟨s,vc⟩).trans (w.sat s)).trans h.symm)⟩;have way:Way S F.loose F.ls e.T u:=.inl ⟨q.nl hh,nu⟩;exact rl.iJ hr hp w (λn en=>nu n (by rw[en,show(Tm.v n).app S=.v n from I.ok.av.id n (w.free n en)];rfl)) I.ok.av I.ok.c9 it hu q.bL (λM=>K ⟨M.mo I.ok q.bL hu way,λy y=>rfl,λa=>⟨((M.sat _).mp a.1).1,a.2⟩,λk=>(or_iff_left (λh=>h)).symm⟩ (λa=>have z:=(M.sat _).mp a.1;rf ((iff z.1 a.2).mpr z.2) hh) (I.tl.meet M q.bL hu way) (E.met M iff)) λU=>I.fx.1▸hF (E.sR U iff)
def Y4(I:Inv pl N n0 X lv c F S val (e::pd))(E:Eqv pl N n0 P F.b val (e::pd))(hr:F.rest=e.T::r)(hh:e.h=L0)(hp:F.hold p=F5 t)(it:aU F.aE t)(ni:NI S F.loose t)(an:∀{π σ},gB F.b val π σ->e.t.app π=t.app σ)
  (K:∀{b' S' l},St (λy=>True) (λy=>False) F S val {F with b:=b',rest:=r,loose:=l} S' val->NL S' l t->(∀{π σ},gB b' val π σ->e.t.app π=e.T.app σ)->Inv pl N n0 X lv c {F with b:=b',rest:=r,loose:=l} S' val pd->Eqv pl N n0 P b' val pd->R is {F with b:=b',rest:=r,loose:=l}):R (.ir p::is) F:=by
 obtain⟨u,w⟩:=I.ok.av.walks t;have m0:=I.ok.pop (f:=λn=>decide (u≠.v n));have I':=I.mo m0 (λy y=>rfl) λy y h=>h;have q:=I'.pk e (.head _);have nl:=Jj I.ok w ni;have nu:=(By I.ok w).mpr nl;have hu:=w.dW I.ok.c9 it;have iff:∀{π σ:Sb},Sat F.b σ->(∀k t,val k=F5 t->π k=t.app σ)->(((e.h=F6/\iV pl e.t=F6)\/e.t.app π=e.T.app σ)↔e.T.app σ=u.app σ):=λs vc=>⟨λh=>(rf h hh).symm.trans ((an ⟨s,vc⟩).trans (w.sat s)),λh=>.inr (((an ⟨s,vc⟩).trans (w.sat s)).trans h.symm)⟩;exact rl.ir hr hp w I.ok.av I.ok.c9 it hu q.bL (λM=>have m:=Met.mo (F:={F with loose:=F.loose.filter λn=>decide (u≠.v n)}) (r:=r) I'.ok M q.bL hu (.inl ⟨q.nl hh,nu⟩);K ⟨m0.trans m,λy y=>rfl,λa=>⟨((M.sat _).mp a.1).1,a.2⟩,λk=>(or_iff_left (λh=>h)).symm⟩ (m.nl it nl) (λa=>have z:=(M.sat _).mp a.1;rf ((iff z.1 a.2).mpr z.2) hh) (I'.tl.mo m (λy y=>rfl) λy y h=>h) (E.met M iff)) λU=>I.fx.1▸hF (E.sR U iff)
def Yk(inj:Inj pl N)(I:Inv pl N n0 X lv c F S val (e::pd))(hpd:∀e∈pd,e.p=L3)(E:Eqv pl N n0 P F.b val (e::pd))(hr:F.rest=e.T::r)(hh:e.h=L0)(g:lF lo m F S val pc e.t)(nv:lP pl pc=L0)(al:∀t,pc=.tm t->∀k,t.has k->pl.void k=L0->lv k)
  (K:∀{F' S' val'},St (Hs N) (λk=>∃t∈dz [pc],t.has k) F S val F' S' val'->(∀{π σ},gB F'.b val' π σ->e.t.app π=e.T.app σ)->Inv pl N n0 X lv (eL pl pc c).2 F' S' val' pd->Eqv pl N n0 P F'.b val' pd->F'.rest=r->(eL pl pc c).2.nt=c.nt->R is F'):R ((eL pl pc c).1++is) F:=by
 have q:=I.pk e (.head _)
 cases pc with
 |rg p=>
  obtain⟨T,g⟩:=g;exact Kb rl hF I E hr hh g.hold g.bL g.nl g.an λs a I E=>K (s.weak (λo o=>cC) λk=>⟨False.elim,λ⟨_,m,_⟩=>nomatch m⟩) a I E rfl rfl
 |tm u=>
  obtain⟨rfl,hs⟩:=g;have one:∀{k:Nat},e.t.has k↔∃t∈dz [.tm e.t],t.has k:=⟨λh=>⟨_,.head _,h⟩,λ⟨_,m,h⟩=>bB.mp m▸h⟩
  cases ht:e.t with
  |v k=>
   rw[ht] at K one nv al;have hv:pl.void k=L0:=nv;have lt:k<N:=q.vs k (by rw[ht];exact rfl)
   have alk:=al _ rfl k rfl hv;show R ((kr pl k c).1++is) F;have K:∀{F' S' val'},St (Hs N) (λj=>k=j) F S val F' S' val'->(∀{π σ},gB F'.b val' π σ->e.t.app π=e.T.app σ)->Inv pl N n0 X lv (kr pl k c).2 F' S' val' pd->Eqv pl N n0 P F'.b val' pd->F'.rest=r->(kr pl k c).2.nt=c.nt->R is F':=λs a I E hr hn=>K (s.weak (λo h=>h) λj=>one) (ht▸a) I E hr hn;unfold kr at K ⊢;by_cases hk:k∈c.seen
   .rw[aI hk] at K ⊢;obtain⟨t,hv1⟩:=I.sv k hk;have v:=I.vk k t hv1;have y:=v.nv hv;have an:∀{π σ},gB F.b val π σ->e.t.app π=t.app σ:=λa=>by rw[ht];exact a.2 k t hv1
    have ok:∀{F' S' val'},St (λo=>True) (λo=>False) F S val F' S' val'->St (Hs N) (λj=>k=j) F S val F' S' val':=λs=>⟨s.mo,λp o=>s.ho p cC,s.an,λj=>(s.nw j).trans ⟨λh=>h.imp id False.elim,λh=>.inl (h.elim id λe=>e▸λz=>f6 z hv1)⟩⟩;unfold uf at K ⊢;by_cases h2:k∈c.loc
    .rw[aI h2] at K ⊢;refine Y4 rl hF I E hr hh (y.hold alk) v.bL y.ni an λs nl a I E=>?_;by_cases hp:pl.perm k=F6
     .rw[aI hp] at K;exact K (ok s) a I E rfl rfl
     .rw[aD hp] at K;exact K (ok s) a (I.aAt λt h=>ay (hv1.symm.trans h)▸nl) E rfl rfl
    .rw[aD h2] at K ⊢;exact Kb rl hF I E hr hh (y.hold alk) v.bL (y.nl h2) an λs a I E=>K (ok s) a I E rfl rfl
   .rw[aD hk] at K ⊢;have hn:=I.seen k hv hk;have nl:=q.nl hh;refine rl.ky hr q.bL (K ⟨I.ok.same,λp hp=>aD (oH (pl:=pl) lt hp),λa=>⟨a.1,λj t h=>a.2 j t (jQ hn h)⟩,λj=>?_⟩ (λa=>by rw[ht];exact a.2 k e.T ju) (I.tl.new (c':=c.dk k) (r:=r) (h:=pt F.hold (place pl k) e.T) inj hn lt hv q.bL q.ni (λo=>nl) (λn z m=>absurd m (nl n (by rw[z];rfl))) rfl rfl (λj o m m'=>m m') (aI rfl) λp q o=>aD q) (E.var ht (.inl hh) hn) rfl rfl)
    by_cases z:j=k
    .exact⟨λo=>.inr z.symm,λo y=>f6 y (by rw[z];exact ju)⟩
    .unfold gA;rw[aD z];exact⟨.inl,λh=>h.elim id λh=>absurd h.symm z⟩
  |c k z=>
   rw[ht] at K one;have iff:∀{π σ:Sb},Sat F.b σ->(∀k t,val k=F5 t->π k=t.app σ)->(((e.h=F6/\iV pl e.t=F6)\/e.t.app π=e.T.app σ)↔e.T.app σ=(Tm.c k z).app σ):=λo o=>by rw[ht];exact⟨λh=>(rf h hh).symm,λh=>.inr h.symm⟩
   have way:Way S F.loose F.ls e.T (.c k z):=.inl ⟨q.nl hh,λo h=>h.elim⟩;exact rl.ku hr I.ok.av I.ok.c9 q.bL (λM=>K ⟨M.mo I.ok q.bL .c way,λo o=>rfl,λa=>⟨((M.sat _).mp a.1).1,a.2⟩,λj=>(or_iff_left λh=>(one.mpr h).elim).symm⟩ (λa=>have z:=(M.sat _).mp a.1;by rw[<-ht];exact rf ((iff z.1 a.2).mpr z.2) hh) (I.tl.meet M q.bL .c way) (E.met M iff) rfl rfl) λU=>I.fx.1▸hF (E.sR U iff)
  |s1 f x=>rw[ht] at hs;exact nomatch hs
  |s2 f x y=>rw[ht] at hs;exact nomatch hs
end
section
variable{c:Cs}{S2:Sb}
def Ok.fresh(O:Ok F S)(h:F.aE<n):NL S F.loose (.v n):=λx hx m=>by
 rw[show(Tm.v n).app S=.v n from O.new h] at hx
 exact qS.mpr h ((show n=x from hx)▸O.low x m)
def Ln(ht:aq t=F6)(wt:t.WT):(t.app π=(cR (fnOf t) n).app σ)↔∀e∈oQ (b6 t) (b6 (cR (fnOf t) n)),e.t.app π=e.T.app σ:=by
 cases t with
 |v=>exact(az ht).elim|c=>exact(az ht).elim|s1 f x=>
  obtain⟨rfl,_⟩:=wt;exact⟨λh e m=>by rw[bB.mp m];exact(Tm.s1.inj h).2,λh=>aF (Tm.s1 32) (h _ (.head _))⟩
 |s2 f x y=>
  have ne:f≠32:=λe=>by rw[e] at wt;exact absurd wt.1 ⋯
  rw[show cR (fnOf (.s2 f x y)) n=.s2 f (.v (n+1)) (.v (n+2)) from aD ne]
  exact⟨λh e m=>(bD.mp m).elim (λz=>z▸(Tm.s2.inj h).2.1) λm=>(bB.mp m).symm▸(Tm.s2.inj h).2.2,λh=>r9 (h _ (.head _)) (h _ (.tail _ (.head _)))⟩
def WC(ht:aq t=F6)(wt:t.WT):∃τ:Sb,t.app π=(cR (fnOf t) n).app τ:=by
 cases t with
 |v=>exact(az ht).elim|c=>exact(az ht).elim|s1 f x=>
  obtain⟨rfl,_⟩:=wt;exact⟨λz=>x.app π,rfl⟩
 |s2 f x y=>
  have ne:f≠32:=λe=>by rw[e] at wt;exact absurd wt.1 ⋯
  rw[show cR (fnOf (.s2 f x y)) n=.s2 f (.v (n+1)) (.v (n+2)) from aD ne]
  exact⟨λm=>if m=n+1 then x.app π else y.app π,r9 (aI rfl).symm (aD (fq (dy (n+1)))).symm⟩
def Oq(ht:aq t=F6)(wt:t.WT):(fnOf t=32\/fnOf t=0\/fnOf t=33)/\(b6 t).length=(b6 (cR (fnOf t) n)).length:=by
 cases t with
 |v=>exact(az ht).elim|c=>exact(az ht).elim|s1 f x=>
  obtain⟨rfl,_⟩:=wt;exact⟨.inl rfl,rfl⟩
 |s2 f x y=>
  have ne:f≠32:=λe=>by rw[e] at wt;exact absurd wt.1 ⋯
  rw[show cR (fnOf (.s2 f x y)) n=.s2 f (.v (n+1)) (.v (n+2)) from aD ne]
  exact⟨.inr wt.1,rfl⟩
def WA(m:u∈b6 (cR f n)):∃x,u=.v x/\n<x/\x<=n+ar f:=by
 unfold cR at m;unfold ar;by_cases e:f=32
 .rw[aI e] at m;rw[aI e];exact⟨n+1,bB.mp m,dy _,au _⟩
 .rw[aD e] at m;rw[aD e];exact(bD.mp m).elim (λm=>⟨n+1,m,dy _,cJ _⟩) λm=>⟨n+2,bB.mp m,yy (dy _),au _⟩
def Ll(m:e∈oQ ts Ts):e.t∈ts/\e.T∈Ts/\e.p=L3/\e.h=L0:=by
 induction ts generalizing Ts with
 |nil=>exact memN m|cons t ts ih=>
  cases Ts with
  |nil=>exact memN m|cons T Ts=>exact(bD.mp m).elim (λq=>q▸⟨.head _,.head _,rfl,rfl⟩) λm=>((ih m).elim λa ζ'=>ζ'.elim λb c=>⟨.tail _ a,.tail _ b,c⟩)
def o4(m:x∈b6 t)(h:x.has k):t.has k:=by
 cases t with
 |v=>exact memN m|c=>exact memN m|s1 f y=>exact bB.mp m▸h|s2 f y z=>exact(bD.mp m).elim (λe=>.inl (e▸h)) λm=>.inr (bB.mp m▸h)
def aAH(m:t∈dz ps):t∈dz (pc::ps):=by
 cases pc with
 |tm=>exact .tail _ m|rg=>exact m
def aAF:((∃t∈dz [pc],t.has k)\/∃t∈dz ps,t.has k)↔∃t∈dz (pc::ps),t.has k:=by
 cases pc with
 |tm u=>exact(or_congr_left ⟨λ⟨_,m,h⟩=>bB.mp m▸h,λh=>⟨_,.head _,h⟩⟩).trans (tu (p:=Tm.has k) (a:=u) (l:=dz ps))|rg=>exact or_iff_right λ⟨_,m,_⟩=>nomatch m
def Fr.tl(f:Fr pl val (dz (pc::ps)))(s:St H (λk=>∃t∈dz [pc],t.has k) F S val F' S' val'):Fr pl val' (dz ps):=by
 cases pc with
 |tm u=>exact Fr.step f s λk ⟨_,m,h⟩=>bB.mp m▸h|rg=>exact λk v=>⟨(f k v).1,λu m hu=>sa λz=>((s.nw k).mp z).elim (λz=>z ((f k v).2 u m hu)) λ⟨_,m,_⟩=>nomatch m⟩
variable{Fl:List Ev->Prop}(rl:Rules R Fl Dn sig picks)(hF:(∀π,¬P π)->Fl X.evs)(inj:Inj pl N)
include rl
theorem Fz(hd:F.rest.drop n=Ts)(hn:n<=F.rest.length)(K:R is {F with rest:=Ts}):R (iB n++is) F:=by
 unfold iB;by_cases h:n=0
 .rw[aI h];rw[h] at hd;exact(show {F with rest:=Ts}=F by rw[<-hd];rfl)▸K
 .rw[aD h];exact rl.jo (λe=>h (Nat.le_zero.mp (by rw[e] at hn;exact hn))) hn (hd.symm▸K)
include hF inj
def Ym:∀{n c F S val ts Ts},Inv pl N n0 X lv c F S val (oQ ts Ts)->Eqv pl N n0 P F.b val (oQ ts Ts)->N<=lo->oq lo m F S val ps ts->ts.length=Ts.length->F.rest.drop n=Ts->n<=F.rest.length->Fr pl val (dz ps)->(∀t∈dz ps,∀k,t.has k->pl.void k=L0->lv k)->
  (∀{F' S' val'},St (Hs N) (λk=>∃t∈dz ps,t.has k) F S val F' S' val'->(∀{π σ},gB F'.b val' π σ->∀e∈oQ ts Ts,e.t.app π=e.T.app σ)->Inv pl N n0 X lv (dH pl ps n c).2 F' S' val' []->Eqv pl N n0 P F'.b val' []->F'.rest=[]->(dH pl ps n c).2.nt=c.nt->R is F')->R ((dH pl ps n c).1++is) F:=by
 induction ps with
 |nil=>
  intro n c F S val ts Ts I E _ g hl hd hn _ _ K
  cases ts with
  |cons=>exact g.elim|nil=>
   cases nE.mp hl.symm;refine Fz rl hd hn (K ⟨I.ok.same,λo o=>rfl,λa=>a,λk=>(or_iff_left λζ=>ζ.elim λo ζ'=>ζ'.elim λm o=>memN m).symm⟩ (λo o m=>memN m) I.same E rfl rfl)
 |cons pc ps ih=>
  intro n c F S val ts Ts I E hlo g hl hd hn fr al K
  cases ts with
  |nil=>exact g.elim|cons t ts=>
   cases Ts with
   |nil=>exact nomatch hl
   |cons T Ts=>
    have q:=I.pk _ (.head _);have hn':n+1<=F.rest.length:=Dw λz=>by rw[DX z] at hd;exact nomatch hd
    show R ((if lP pl pc=F6 then dH pl ps (n+1) c else _:Wr).1++is) F
    have K:∀{F' S' val'},St (Hs N) (λk=>∃t∈dz (pc::ps),t.has k) F S val F' S' val'->(∀{π σ},gB F'.b val' π σ->∀e∈oQ (t::ts) (T::Ts),e.t.app π=e.T.app σ)->Inv pl N n0 X lv (if lP pl pc=F6 then dH pl ps (n+1) c else(iB n++((eL pl pc c).1++(dH pl ps 0 (eL pl pc c).2).1),(dH pl ps 0 (eL pl pc c).2).2):Wr).2 F' S' val' []->Eqv pl N n0 P F'.b val' []->F'.rest=[]->(if lP pl pc=F6 then dH pl ps (n+1) c else(iB n++((eL pl pc c).1++(dH pl ps 0 (eL pl pc c).2).1),(dH pl ps 0 (eL pl pc c).2).2):Wr).2.nt=c.nt->R is F':=K
    by_cases hv:lP pl pc=F6
    .rw[aI hv] at K ⊢
     cases pc with
     |rg=>exact(az hv).elim|tm u=>
      obtain⟨rfl,hs⟩:=g.1
      cases u with
      |v k=>
       have hn0:=(fr k hv).2 _ (.head _) rfl;have s0:St (λo=>True) (λj=>k=j) F S val F S (gA val k T):=⟨I.ok.same (h:=F.hold) (r:=F.rest),λo o=>rfl,λa=>⟨a.1,λj t h=>a.2 j t (jQ hn0 h)⟩,λj=>by
        by_cases z:j=k
        .exact⟨λo=>.inr z.symm,λo y=>f6 y (by rw[z];exact ju)⟩
        .unfold gA;rw[aD z];exact⟨.inl,λh=>h.elim id λh=>absurd h.symm z⟩⟩
       refine ih (I.tl.ghost hn0 q.bL (q.vs k rfl) hv) (E.var rfl (.inl rfl) hn0) hlo (g.2.mo s0 (λo o o o=>cC) (au _) (au _)) (qU hl) (by rw[<-List.drop_drop,hd];rfl) hn' (fr.step s0 λo h=>h) (λt m=>al t (.tail _ m)) λs a I E hr hc=>K (((s0.weak (λo o=>cC) λo=>Iff.rfl).trans s).weak (λo h=>h) λj=>tu (p:=Tm.has j) (a:=.v k) (l:=dz ps)) (λz e me=>(bD.mp me).elim (λme=>me▸(s.an z).2 k T ju) (a z e)) I E hr hc
      |c=>exact(az hv).elim|s1=>exact(az hv).elim|s2=>exact(az hv).elim
    .rw[aD hv] at K ⊢;show R (iB n++((eL pl pc c).1++(dH pl ps 0 (eL pl pc c).2).1)++is) F;rw[dw,dw];have s0:St (λo=>True) (λo=>False) F S val {F with rest:=T::Ts} S val:=⟨I.ok.same,λo o=>rfl,λa=>a,λk=>(or_iff_left λh=>h).symm⟩;have g1:=g.mo s0 (λo o o o=>cC) (au lo) (au m);refine Fz rl hd hn (Yk rl hF (lo:=lo) (m:=m) (e:=⟨t,T,L3,L0⟩) (r:=Ts) inj I.same (λe me=>(Ll me).2.2.1) E rfl rfl g1.1 (jy.mpr hv) (λu z=>by
      subst z;exact al u (.head _)) λ{F1 S1 val1} s1 a1 I1 E1 hr1 hc1=>?_)
     have s1:=((s0.weak (H':=Hs N) (A':=λo=>False) (λo o=>cC) λo=>Iff.rfl).trans s1).weak (A':=λk=>∃t∈dz [pc],t.has k) (λo h=>h) λo=>(by rw[false_or])
     refine ih I1 E1 hlo (g.2.mo (lo':=lo) (m':=m) s1 (λp h1 h2 o=>.inr ⟨h1,aA hlo h2⟩) (au _) (au _)) (qU hl) hr1 (ba _) (fr.tl s1) (λt m=>al t (aAH m)) λs a I E hr hc=>K ((s1.trans s).weak (λo h=>h) λj=>aAF) (λz e me=>(bD.mp me).elim (λme=>me▸a1 (s.an z)) (a z e)) I E hr (hc.trans hc1)
end
def Hp(N m:Nat)(p:Place):Prop:=p.1=97\/(p.1=116/\N<=p.2/\p.2<m)
def flat(t:Tm):List Tm:=(b6 t).filter λx=>!aq x
variable{c2:Cs}{l:List Tm}{r:Place}
section
variable{c:Cs}{S2:Sb}
def xB(h:aU n t)(e:∀m,m<=n->π m=σ m):t.app π=t.app σ:=app_congr λm hm=>e m (h.lo m hm)
def We:aq t=F6->il k (b6 t)=dj k t:=by
 cases t with
 |v=>exact λh=>(az h).elim|c=>exact λh=>(az h).elim|s1=>exact λy=>rfl|s2=>exact λy=>rfl
def Wf{q:Tm->Bool}:il k (l.filter q)<=il k l:=by
 induction l with
 |nil=>exact au _|cons x l ih=>
  rw[s7];split
  .exact dC ih _
  .exact aA ih (cI _ _)
def aAn(h1:u∈l)(h2:w∈l)(s1:aq u=L0)(s2:aq w=F6)(q1:u.has k)(q2:w.has k):1+1<=il k l:=by
 induction l with
 |nil=>exact memN h1|cons x l ih=>exact(bD.mp h1).elim (λe1=>(bD.mp h2).elim (λe2=>absurd (s1.symm.trans ((aF aq (e1.trans e2.symm)).trans s2)) az) λm=>eb (pV (e1▸q1)) (xU m q2)) λm1=>(bD.mp h2).elim (λe2=>eb (pV (e2▸q2)) (xU m1 q1)) λm2=>aA (ih m1 m2) (cI _ _)
def Qs(ht:aq t=F6):((∃x∈b6 t,aq x=F6/\x.has k)\/∃x∈flat t,x.has k)↔t.has k:=by
 refine⟨λh=>h.elim (λζ=>ζ.elim λx ζ'=>ζ'.elim λm h=>o4 m h.2) λζ=>ζ.elim λx ζ'=>ζ'.elim λm h=>o4 (gX.mp m).1 h,λh=>?_⟩
 have:∃x∈b6 t,x.has k:=by
  cases t with
  |v=>exact(az ht).elim|c=>exact(az ht).elim|s1 f x=>exact⟨x,.head _,h⟩|s2 f x y=>exact h.elim (λh=>⟨x,.head _,h⟩) λh=>⟨y,.tail _ (.head _),h⟩
 obtain⟨x,mx,h⟩:=this
 cases hs:aq x with
 |true=>exact .inl ⟨x,mx,hs,h⟩|false=>exact .inr ⟨x,gX.mpr ⟨mx,by rw[hs];rfl⟩,h⟩
def Fr.flat(ht:aq t=F6)(f:Fr pl val [t])(s:St H (λk=>∃x∈b6 t,aq x=F6/\x.has k) F S val F' S' val'):Fr pl val' (flat t):=λk v=>by
 have o:il k (b6 t)<=1:=by rw[We ht];exact aA (aW _ _) (f k v).1
 refine⟨aA Wf o,λu m hu=>sa λz=>((s.nw k).mp z).elim (λz=>z ((f k v).2 t (.head _) (o4 (gX.mp m).1 hu))) λζ=>ζ.elim λx ζ'=>ζ'.elim λmx ζ''=>ζ''.elim λhs hx=>?_⟩;have m:=gX.mp m;exact absurd (aA (aAn m.1 mx (by have:=m.2;cases q:aq u with|true=>rw[q] at this;exact(az this).elim|false=>rfl) hs hu hx) o) ⋯
variable{Fl:List Ev->Prop}(rl:Rules R Fl Dn sig picks)(hF:(∀π,¬P π)->Fl X.evs)(inj:Inj pl N)
include rl hF inj
def Of(ht:aq t=F6)(wt:t.WT)(vs:∀k,t.has k->k<N)(I:Inv pl N n0 X lv c F S val [])(E:Eqv pl N n0 P F.b val [])(hr:F.rest=[])(hlo:N<=lo)(g:oq lo m F S val ps (b6 t))(hrp:r.1=97\/(r.1=116/\N<=r.2/\(r.2<lo\/m<=r.2)))(fr:Fr pl val (dz ps))(al:∀t∈dz ps,∀k,t.has k->pl.void k=L0->lv k)
  (K:∀{F' S' val' T},St (λp=>Hs N p/\p≠r) (λk=>∃t∈dz ps,t.has k) F S val F' S' val'->F'.hold r=F5 T->aU F'.aE T->NL S' F'.loose T->(∀{π σ},gB F'.b val' π σ->t.app π=T.app σ)->Inv pl N n0 X lv (fin pl t r ps c).2 F' S' val' []->Eqv pl N n0 P F'.b val' []->F'.rest=[]->(fin pl t r ps c).2.nt=c.nt->R is F'):R ((fin pl t r ps c).1++is) F:=by
 have fo:=Oq (n:=F.aE) ht wt;have hs:Hs N r:=hrp.imp_right λh=>⟨h.1,h.2.1⟩;refine rl.Jr hr fo.1 ?_;have m0:Mo F S {F with hold:=pt F.hold r (cR (fnOf t) F.aE),rest:=b6 (cR (fnOf t) F.aE),aE:=F.aE+ar (fnOf t)} S:=I.ok.more;have I1:=I.mo m0 (λp q=>aD (q.elim (λ⟨k,t,a,_,z⟩=>z▸(oH (pl:=pl) (I.vk k t a).lt hs).symm) λζ=>ζ.casesOn λy m y=>nomatch m)) λn t z=>(aD (λe=>by rw[<-e] at hs;exact hs.elim (show ¬(121:Nat)=97 by decide) λh=>(show ¬(121:Nat)=116 by decide) h.1):pt F.hold r _ (yP n)=F.hold (yP n))▸z
 have I2:Inv pl N n0 X lv c {F with hold:=pt F.hold r (cR (fnOf t) F.aE),rest:=b6 (cR (fnOf t) F.aE),aE:=F.aE+ar (fnOf t)} S val (oQ (b6 t) (b6 (cR (fnOf t) F.aE))):=⟨I1.ok,I1.sp,I1.fx,I1.seen,I1.sv,I1.vk,I1.nt,I1.yh,λe me=>by
  obtain⟨m1,m2,m3,m4⟩:=Ll me;obtain⟨x,ex,l1,l2⟩:=WA m2;have nl:=I.ok.fresh l1;exact⟨ex▸.v l2,ex▸.inr nl,λy=>ex▸nl,λp z=>f6 m3 z,λk h=>vs k (o4 m1 h)⟩⟩
 have E2:Eqv pl N n0 P F.b val (oQ (b6 t) (b6 (cR (fnOf t) F.aE))):=⟨λs=>E.snd ⟨s.sat,s.ag,s.vc,λy m=>nomatch m⟩,λ{π} p=>by
  obtain⟨σ,s⟩:=E.cmp p;obtain⟨τ,hτ⟩:=WC (n:=F.aE) (π:=π) ht wt;have lo:∀m,m<=F.aE->(λm=>if m<=F.aE then σ m else τ m) m=σ m:=λm h=>aI h
  exact⟨λm=>if m<=F.aE then σ m else τ m,λx u hx=>have r:=I.ok.c9 _ (nN hx);(lo x (r.1.lo x rfl)).trans ((s.sat x u hx).trans (xB r.2 lo).symm),λm h1 h2=>(lo m (aA h2 I.sp)).trans (s.ag m h1 h2),λk t h=>(s.vc k t h).trans (xB (I.vk k t h).bL lo).symm,λe me=>.inr ((Ln ht wt).mp (hτ.trans (app_congr λx hx=>(aD (qS.mpr (xO hx).1)).symm)) e me)⟩⟩
 have s0:St (λp=>p≠r) (λy=>False) F S val {F with hold:=pt F.hold r (cR (fnOf t) F.aE),rest:=b6 (cR (fnOf t) F.aE),aE:=F.aE+ar (fnOf t)} S val:=⟨m0,λp h=>aD h,λa=>a,λk=>(or_iff_left λh=>h).symm⟩;have ib:aU (F.aE+ar (fnOf t)) (cR (fnOf t) F.aE):=WB fo.1;have nl:NL S F.loose (cR (fnOf t) F.aE):=λx hx mx=>by
  rw[zO λx q=>I.ok.new (xO q).1] at hx;exact qS.mpr (xO hx).1 (I.ok.low x mx)
 exact Ym rl hF inj (n:=0) (lo:=lo) (m:=m) I2 E2 hlo (g.mo s0 (λp h1 h2 h3 e=>hrp.elim (λh=>by rw[<-e,h1] at h;exact absurd h ⋯) λh=>by rw[<-e] at h;exact h.2.2.elim (gF.mpr h2) (qS.mpr h3)) (au _) (au _)) fo.2 rfl (ba _) fr al λs a I E hr hc=>K (((s0.weak (H':=λp=>Hs N p/\p≠r) (λy h=>h.2) λy=>Iff.rfl).trans (s.weak (λy h=>h.1) λy=>Iff.rfl)).weak (λy h=>h) λy=>by rw[false_or]) ((s.ho r hs).trans (aI rfl)) (ib.mono s.mo.sp) (s.mo.nl ib nl) (λz=>(Ln ht wt).mpr (a z)) I E hr hc
end
variable{pr:Cs->Pr}
section
variable{c:Cs}{S2:Sb}
structure Bt(pl:Pl)(N:Nat)(lv:Nat->Prop)(t:Tm):Prop where
 wt:t.WT
 vs:∀k,t.has k->k<N
 al:∀k,t.has k->pl.void k=L0->lv k
def Em:jY (Bt pl N lv):=⟨λy y h=>⟨h.wt.2,h.vs,h.al⟩,λy y y h=>⟨⟨h.wt.2.1,λk q=>h.vs k (.inl q),λk q=>h.al k (.inl q)⟩,⟨h.wt.2.2,λk q=>h.vs k (.inr q),λk q=>h.al k (.inr q)⟩⟩⟩
def aAG:aq t=F6->dz (bG pl t c).2.1=flat t:=by
 cases t with
 |v=>exact λh=>(az h).elim|c=>exact λh=>(az h).elim|s1 f x=>
  intro _;show dz [(c5 pl (bG pl x) x c).2.1]=[x].filter _;unfold c5
  cases hs:aq x with
  |true=>rw[aI rfl,List.filter_cons_of_neg (by rw[hs];exact az)];rfl|false=>rw[aD az,List.filter_cons_of_pos (by rw[hs];rfl)];rfl
 |s2 f x y=>
  intro _;show dz [(eI pl (bG pl x) x (c5 pl (bG pl y) y c).2.2).2.1,(c5 pl (bG pl y) y c).2.1]=[x,y].filter _;generalize (c5 pl (bG pl y) y c).2.2=c1;unfold c5 eI
  cases hx:aq x with
  |true=>
   rw[aI rfl,List.filter_cons_of_neg (by rw[hx];exact az)]
   cases hy:aq y with
   |true=>rw[aI rfl,List.filter_cons_of_neg (by rw[hy];exact az)];rfl|false=>rw[aD az,List.filter_cons_of_pos (by rw[hy];rfl)];rfl
  |false=>
   rw[aD az,List.filter_cons_of_pos (by rw[hx];rfl)]
   cases hy:aq y with
   |true=>rw[aI rfl,List.filter_cons_of_neg (by rw[hy];exact az)];rfl|false=>rw[aD az,List.filter_cons_of_pos (by rw[hy];rfl)];rfl
def JL:∀{n:Nat} {c:Cs},(dH pl ps n c).2.nt=c.nt:=by
 induction ps with
 |nil=>exact rfl|cons pc ps ih=>
  intro n c;show(if lP pl pc=F6 then dH pl ps (n+1) c else _:Wr).2.nt=c.nt
  by_cases h:lP pl pc=F6
  .rw[aI h];exact ih
  .rw[aD h];refine ih.trans ?_
   cases pc with
   |rg=>rfl|tm u=>
    cases u with
    |v k=>
     show(kr pl k c).2.nt=c.nt;unfold kr uf;split
     .split
      .split<;>rfl
      .rfl
     .rfl
    |c=>rfl|s1=>rfl|s2=>rfl
def B9(h:∀{c},c.nt<=(pr c).2.2.nt):c.nt<=(c5 pl pr x c).2.2.nt:=by
 unfold c5;split
 .show c.nt<=(dH pl (pr c).2.1 0 (pr c).2.2.cS).2.nt;rw[JL];exact fE h
 .exact au _
def JK(h:∀{c},c.nt<=(pr c).2.2.nt):c.nt<=(eI pl pr x c).2.2.nt:=by
 unfold eI;split
 .show c.nt<=(dH pl (pr c.cS).2.1 0 (pr c.cS).2.2).2.nt;rw[JL];exact aA (cJ _) (h (c:=c.cS))
 .exact au _
def rj:∀{c},c.nt<=(bG pl t c).2.2.nt:=by
 induction t with
 |v=>exact au _|c=>exact au _|s1 f x ih=>exact B9 ih|s2 f x y i1 i2=>exact aA (B9 i2) (JK i1)
def lF.low(g:lF lo m F S val pc t)(h:lo'<=lo):lF lo' m F S val pc t:=by
 cases pc with
 |tm u=>exact g|rg p=>exact g.elim λT g=>⟨T,⟨g.tp.1,aA h g.tp.2.1,g.tp.2.2⟩,g.hold,g.bL,g.nl,g.an⟩
variable(R) in
def vZ(pl:Pl)(N n0:Nat)(X:FS)(lv:Nat->Prop)(P:Sb->Prop)(t:Tm):Prop:=aq t=F6->∀{is c F S val},Inv pl N n0 X lv c F S val []->Eqv pl N n0 P F.b val []->F.rest=[]->Fr pl val [t]->
 (∀{F' S' val'},St (Hp N c.nt) (λk=>∃x∈b6 t,aq x=F6/\x.has k) F S val F' S' val'->oq c.nt (bG pl t c).2.2.nt F' S' val' (bG pl t c).2.1 (b6 t)->c.nt<=(bG pl t c).2.2.nt->Inv pl N n0 X lv (bG pl t c).2.2 F' S' val' []->Eqv pl N n0 P F'.b val' []->F'.rest=[]->R is F')->R ((bG pl t c).1++is) F
variable{Fl:List Ev->Prop}(rl:Rules R Fl Dn sig picks)(hF:(∀π,¬P π)->Fl X.evs)(inj:Inj pl N)
include rl hF inj
def zf(hP:vZ R pl N n0 X lv P t)(ht:aq t=F6)(bt:Bt pl N lv t)(h2:c2=(bG pl t c).2.2\/c2=(bG pl t c).2.2.cS)(hrp:r.1=97\/(r.1=116/\N<=r.2/\(r.2<c.nt\/(bG pl t c).2.2.nt<=r.2)))(I:Inv pl N n0 X lv c F S val [])(E:Eqv pl N n0 P F.b val [])(hr:F.rest=[])(fr:Fr pl val [t])
  (K:∀{F' S' val' T},St (λp=>Hp N c.nt p/\p≠r) (Tm.has · t) F S val F' S' val'->F'.hold r=F5 T->aU F'.aE T->NL S' F'.loose T->(∀{π σ},gB F'.b val' π σ->t.app π=T.app σ)->Inv pl N n0 X lv (fin pl t r (bG pl t c).2.1 c2).2 F' S' val' []->Eqv pl N n0 P F'.b val' []->F'.rest=[]->(fin pl t r (bG pl t c).2.1 c2).2.nt=c2.nt->R is F'):R ((bG pl t c).1++((fin pl t r (bG pl t c).2.1 c2).1++is)) F:=by
 refine hP ht I E hr fr λ{F1 S1 val1} s1 g hc I1 E1 hr1=>?_;have I2:Inv pl N n0 X lv c2 F1 S1 val1 []:=h2.elim (λe=>e▸I1) λe=>e▸I1.cS;have tp:=aAG (pl:=pl) (c:=c) ht;refine Of rl hF inj ht bt.wt bt.vs I2 E1 hr1 I.nt g hrp (tp▸fr.flat ht s1) (λu m k h=>bt.al k (o4 (gX.mp (tp▸m)).1 h)) λ{F2 S2 val2 T} s2 h1 b1 n1 a1 I E hr hn=>K (((s1.weak (H':=λp=>Hp N c.nt p/\p≠r) (λy h=>h.1) λy=>Iff.rfl).trans (s2.weak (H':=λp=>Hp N c.nt p/\p≠r) (λp h=>⟨h.1.imp_right λh=>⟨h.1,h.2.1⟩,h.2⟩) λy=>Iff.rfl)).weak (λy h=>h) λk=>?_) h1 b1 n1 a1 I E hr hn;rw[tp];exact Qs ht
def IL(hP:vZ R pl N n0 X lv P x)(bt:Bt pl N lv x)(I:Inv pl N n0 X lv c F S val [])(E:Eqv pl N n0 P F.b val [])(hr:F.rest=[])(fr:Fr pl val [x])
  (K:∀{F' S' val'},St (Hp N c.nt) (λk=>aq x=F6/\x.has k) F S val F' S' val'->lF c.nt (c5 pl (bG pl x) x c).2.2.nt F' S' val' (c5 pl (bG pl x) x c).2.1 x->Inv pl N n0 X lv (c5 pl (bG pl x) x c).2.2 F' S' val' []->Eqv pl N n0 P F'.b val' []->F'.rest=[]->R is F'):R ((c5 pl (bG pl x) x c).1++is) F:=by
 unfold c5 at K ⊢;by_cases hs:aq x=F6
 .rw[aI hs] at K ⊢
  dsimp only at K ⊢
  rw[dw];have hc:=rj (pl:=pl) (t:=x) (c:=c);refine zf rl hF inj hP hs bt (.inr rfl) (.inr ⟨rfl,aA I.nt hc,.inr (au _)⟩) I E hr fr λs h1 b1 n1 a1 I E hr hn=>?_;rw[hn] at K;refine K (s.weak (λp h=>⟨h,λe=>?_⟩) λk=>⟨λh=>⟨hs,h⟩,λh=>h.2⟩) ⟨_,⟨rfl,hc,dy _⟩,h1,b1,n1,a1⟩ I E hr;rw[e] at h;exact h.elim (show ¬(116:Nat)=97 by decide) λh=>gF.mpr hc h.2.2
 .rw[aD hs] at K ⊢;exact K ⟨I.ok.same (h:=F.hold) (r:=F.rest),λy y=>rfl,λa=>a,λk=>(or_iff_left λh=>hs h.1).symm⟩ ⟨rfl,jy.mpr hs⟩ I E hr
def Vf(hP:vZ R pl N n0 X lv P x)(bt:Bt pl N lv x)(I:Inv pl N n0 X lv c F S val [])(E:Eqv pl N n0 P F.b val [])(hr:F.rest=[])(fr:Fr pl val [x])
  (K:∀{F' S' val'},St (Hp N c.nt) (λk=>aq x=F6/\x.has k) F S val F' S' val'->lF c.nt (eI pl (bG pl x) x c).2.2.nt F' S' val' (eI pl (bG pl x) x c).2.1 x->Inv pl N n0 X lv (eI pl (bG pl x) x c).2.2 F' S' val' []->Eqv pl N n0 P F'.b val' []->F'.rest=[]->R is F'):R ((eI pl (bG pl x) x c).1++is) F:=by
 unfold eI at K ⊢;by_cases hs:aq x=F6
 .rw[aI hs] at K ⊢
  dsimp only at K ⊢
  rw[dw];have hc:=rj (pl:=pl) (t:=x) (c:=c.cS);refine zf rl hF inj hP hs bt (c:=c.cS) (.inl rfl) (.inr ⟨rfl,I.nt,.inl (dy _)⟩) I.cS E hr fr λs h1 b1 n1 a1 I E hr hn=>?_;rw[hn] at K;refine K (s.weak (λp h=>⟨h.imp_right λh=>⟨h.1,h.2.1,yy h.2.2⟩,λe=>?_⟩) λk=>⟨λh=>⟨hs,h⟩,λh=>h.2⟩) ⟨_,⟨rfl,au _,hc⟩,h1,b1,n1,a1⟩ I E hr;rw[e] at h;exact h.elim (show ¬(116:Nat)=97 by decide) λh=>ed _ h.2.2
 .rw[aD hs] at K ⊢;exact K ⟨I.ok.same (h:=F.hold) (r:=F.rest),λy y=>rfl,λa=>a,λk=>(or_iff_left λh=>hs h.1).symm⟩ ⟨rfl,jy.mpr hs⟩ I E hr
def Xp(bt:Bt pl N lv t):vZ R pl N n0 X lv P t:=by
 induction t with
 |v=>exact λh=>(az h).elim|c=>exact λh=>(az h).elim|s1 f x ih=>
  intro _ is c F S val I E hr fr K;have bx:=Em.s1 _ _ bt;exact IL rl hF inj (ih bx) bx I E hr (λk v=>⟨(fr k v).1,λu m hu=>(fr k v).2 _ (.head _) (show Tm.has k x from bB.mp m▸hu)⟩) λs g I E hr=>K (s.weak (λq h=>h) λk=>⟨λh=>⟨x,.head _,h⟩,λ⟨_,m,h⟩=>bB.mp m▸h⟩) ⟨g,cC⟩ rj I E hr
 |s2 f x y i1 i2=>
  intro _ is c F S val I E hr fr K;have inN:=I.nt;have bx:=Em.s2 _ _ _ bt;have fr2:Fr pl val [y,x]:=λk v=>⟨by
   have:=(fr k v).1
   show dj k y+(dj k x+0)<=1;rw[Nat.add_zero,bW];exact this,λu m hu=>(fr k v).2 _ (.head _) ((bD.mp m).elim (λe=>.inr (e▸hu)) λm=>.inl (bB.mp m▸hu))⟩
  have fry:Fr pl val [y]:=λk v=>⟨aA (dC (ba _) _) (fr2 k v).1,λu m=>(fr2 k v).2 u (bB.mp m▸.head _)⟩;show R ((c5 pl (bG pl y) y c).1++(eI pl (bG pl x) x (c5 pl (bG pl y) y c).2.2).1++is) F;rw[dw];refine IL rl hF inj (i2 bx.2) bx.2 I E hr fry λs1 g1 I E hr=>?_;refine Vf rl hF inj (i1 bx.1) bx.1 I E hr (fr2.step s1 λq h=>h.2) λs2 g2 I E hr=>?_;have n1:=B9 (pl:=pl) (x:=y) (c:=c) (rj (pl:=pl) (t:=y));have n2:=JK (pl:=pl) (x:=x) (c:=(c5 pl (bG pl y) y c).2.2) (rj (pl:=pl) (t:=x));refine K ((s1.trans (s2.weak (λp h=>h.imp_right λh=>⟨h.1,h.2.1,bw h.2.2 n1⟩) λq=>Iff.rfl)).weak (λq h=>h) λk=>⟨λh=>h.elim (λh=>⟨y,.tail _ (.head _),h⟩) λh=>⟨x,.head _,h⟩,λ⟨z,m,h⟩=>(bD.mp m).elim (λe=>.inr (e▸h)) λm=>.inl (bB.mp m▸h)⟩) ⟨?_,?_,cC⟩ rj I E hr
  .exact g2.low n1
  .exact g1.mo s2 (λp h1 h2 h3=>.inr ⟨h1,aA inN h2,h3⟩) (au _) n2
def M3(ht:aq t=F6)(bt:Bt pl N lv t)(hrp:r.1=97)(I:Inv pl N n0 X lv c F S val [])(E:Eqv pl N n0 P F.b val [])(hr:F.rest=[])(fr:Fr pl val [t])
  (K:∀{F' S' val' T},St (λp=>p.1=97/\p≠r) (Tm.has · t) F S val F' S' val'->F'.hold r=F5 T->aU F'.aE T->NL S' F'.loose T->(∀{π σ},gB F'.b val' π σ->t.app π=T.app σ)->Inv pl N n0 X lv (kO pl t r c).2 F' S' val' []->Eqv pl N n0 P F'.b val' []->F'.rest=[]->R is F'):R ((kO pl t r c).1++is) F:=by
 show R ((bG pl t c).1++_++is) F;rw[dw];exact zf rl hF inj (Xp rl hF inj bt) ht bt (.inl rfl) (.inl hrp) I E hr fr λs h1 b1 n1 a1 I E hr hn=>K (s.weak (λp h=>⟨.inl h.1,h.2⟩) λy=>Iff.rfl) h1 b1 n1 a1 I E hr
end
structure Ax(pl:Pl)(N:Nat)(lv:Nat->Prop)(lg L:Int)(M:Nat->Prop)(t:Tm):Prop where
 bt:Bt pl N lv t
 uv:∀k,t=.v k->pl.void k=L0->pl.perm k=F6->(pl.uns k=F6->(pl.slot k:Int)<=L\/un pl k lg=F6)/\(¬M k->pl.uns k=F6/\(pl.slot k:Int)<=L)
structure La(L:Int)(F:FS)(S:Sb)(val:Nat->Option Tm)(q:Place)(t T:Tm):Prop where
 hold:F.hold q=F5 T
 bL:aU F.aE T
 lv:∀m,T.app S=.v m->m∈F.loose->F.ls m<=L
 an:∀{π σ},gB F.b val π σ->t.app π=T.app σ
variable{lg:Int}{M:Nat->Prop}
section
variable{c:Cs}{S2:Sb}{L:Int}
def La.mo(g:La L F S val q t T)(s:St H A F S val F' S' val')(hq:H q)(hL:-2<=L):La L F' S' val' q t T:=⟨(s.ho q hq).trans g.hold,g.bL.mono s.mo.sp,λm e z=>(s.mo.vl g.bL e z).elim (λh=>j8 h hL) λ⟨a,b,d⟩=>d▸g.lv m a b,λa=>g.an (s.an a)⟩
def Eqv.Bv(I:Inv pl N n0 X lv c F S val [])(E:Eqv pl N n0 P F.b val [])(hn:val k=L3):Eqv pl N n0 P F.b (gA val k (.v (F.aE+1))) []:=⟨λs=>E.snd ⟨s.sat,s.ag,λj w h=>s.vc j w (jQ hn h),λy m=>memN m⟩,λ{π} p=>by
 obtain⟨σ,s⟩:=E.cmp p;have lo:∀m,m<=F.aE->(λm=>if m<=F.aE then σ m else π k) m=σ m:=λm h=>aI h
 exact⟨λm=>if m<=F.aE then σ m else π k,λx u hx=>have r:=I.ok.c9 _ (nN hx);(lo x (r.1.lo x rfl)).trans ((s.sat x u hx).trans (xB r.2 lo).symm),λm h1 h2=>(lo m (aA h2 I.sp)).trans (s.ag m h1 h2),λj t h=>(u4 h).elim (λh=>by rw[h.1,h.2];exact(aD (Nat.not_succ_le_self F.aE)).symm) λh=>(s.vc j t h.2).trans (xB (I.vk j t h.2).bL lo).symm,λy m=>memN m⟩⟩
def xT(hn:val k=L3):∀j,gA val k t j≠L3↔val j≠L3\/k=j:=λj=>by
 by_cases z:j=k
 .exact⟨λq=>.inr z.symm,λq y=>f6 y (by rw[z];exact ju)⟩
 .unfold gA;rw[aD z];exact⟨.inl,λh=>h.elim id λh=>absurd h.symm z⟩
def O6(f:Fr pl val [.v k])(v:pl.void k=F6):val k=L3:=(f k v).2 _ (.head _) rfl
variable{Fl:List Ev->Prop}(rl:Rules R Fl Dn sig picks)(hF:(∀π,¬P π)->Fl X.evs)(inj:Inj pl N)
include rl inj
theorem U8(a:Ax pl N lv lg L M (.v k))(mv:∀k,M k->val k≠L3)(hL:-2<=L)(hq:q.1=97)(I:Inv pl N n0 X lv c F S val [])(E:Eqv pl N n0 P F.b val [])(hr:F.rest=[])(fr:Fr pl val [.v k])
  (K:∀{F' S' val' T},St (λp=>p.1=97/\p≠q) (λj=>k=j) F S val F' S' val'->La L F' S' val' q (.v k) T->Inv pl N n0 X lv (n4 pl k q lg c).2 F' S' val' []->Eqv pl N n0 P F'.b val' []->F'.rest=[]->R is F'):R ((n4 pl k q lg c).1++is) F:=by
 have lt:=a.bt.vs k rfl;have qn:q≠place pl k:=oH lt (.inl hq);have qy:∀n,yP n≠q:=λn e=>by rw[<-e] at hq;exact(show ¬(121:Nat)=97 by decide) hq
 have hh:∀{h:Place->Option Tm} {T:Tm} {p},((∃k t,val k=F5 t/\pl.void k=L0/\p=place pl k)\/∃e∈([]:List Pe),e.p=F5 p)->pt h q T p=h p:=λz=>aD (z.elim (λ⟨j,t,b,_,z⟩=>z▸(oH (pl:=pl) (I.vk j t b).lt (.inl hq)).symm) λζ=>ζ.casesOn λo m o=>nomatch m);have hy:∀{T:Tm} (n t),pt F.hold q T (yP n)=F5 t->F.hold (yP n)=F5 t:=λn t z=>(aD (qy n):pt F.hold q _ (yP n)=F.hold (yP n))▸z;unfold n4 at K ⊢;by_cases hv:pl.void k=F6
 .rw[aI hv] at K ⊢;have hn:=O6 fr hv;have m0:Mo F S {F with hold:=pt F.hold q (.v (F.aE+1)),rest:=F.rest,aE:=F.aE+1} S:=I.ok.more;exact rl.lj hr hq (K ⟨m0,λp z=>aD z.2,λz=>⟨z.1,λj t h=>z.2 j t (jQ hn h)⟩,xT hn⟩ ⟨aI rfl,.v (au _),λm e z=>absurd z (I.ok.fresh (dy _) m (by rw[e];rfl)),λz=>z.2 k _ ju⟩ ((I.mo m0 (λp z=>hh z) hy).ghost hn (.v (au _)) lt hv) (E.Bv I hn) hr)
 .rw[aD hv] at K ⊢;have hv:=jy.mpr hv;have al:=a.bt.al k rfl hv;by_cases hk:k∈c.seen
  .rw[aI hk] at K ⊢;obtain⟨t,hv1⟩:=I.sv k hk;have v:=I.vk k t hv1;have y:=v.nv hv;have nw:∀j,val j≠L3↔val j≠L3\/k=j:=λj=>⟨.inl,λh=>h.elim id λe=>e▸λz=>f6 z hv1⟩;by_cases hu:un pl k lg=F6
   .rw[aI hu];obtain⟨u,w⟩:=I.ok.av.walks t;have m0:=I.ok.pop (f:=λn=>decide (u≠.v n));have m1:Mo F S {F with hold:=pt F.hold q u,loose:=F.loose.filter λn=>decide (u≠.v n)} S:=m0.trans (m0.ok.same (h:=pt F.hold q u) (r:=F.rest));have nl:=(By I.ok w).mpr (Jj I.ok w y.ni);have ib:=w.dW I.ok.c9 v.bL;exact rl.kn hr (y.hold al) w I.ok.c9 v.bL ib (K ⟨m1,λp z=>aD z.2,λa=>a,nw⟩ ⟨aI rfl,ib,λm e z=>absurd z (nl m (by rw[e];rfl)),λz=>(z.2 k t hv1).trans (w.sat z.1)⟩ (I.mo m1 (λp z=>hh z) hy) E hr)
   .rw[aD hu];have m1:Mo F S {F with hold:=pt F.hold q t} S:=I.ok.same (h:=pt F.hold q t) (r:=F.rest);exact rl.jN hr (y.hold al) v.bL (K ⟨m1,λp z=>aD z.2,λa=>a,nw⟩ ⟨aI rfl,v.bL,λm e z=>(y.lvl m e z).elim (λh=>j8 h hL) λ⟨h1,h2,h3⟩=>h2▸(((a.uv k rfl hv h1).1 h3).resolve_right hu),λz=>z.2 k t hv1⟩ (I.mo m1 (λp z=>hh z) hy) E hr)
  .rw[aD hk] at K ⊢;have hn:=I.seen k hv hk;have nx:∀{h:Place->Option Tm} {T:Tm},pt (pt h (place pl k) T) q T (place pl k)=F5 T:=(aD qn.symm).trans (aI rfl);by_cases hp:pl.perm k=F6
   .rw[aI hp] at K;have ep:place pl k=yP (pl.slot k):=aI hp;have z:=(a.uv k rfl hv hp).2 λh=>mv k h hn;have m0:Mo F S {F with hold:=F.hold,aE:=F.aE+1,loose:=F.loose++[F.aE+1],ls:=λm=>if m=F.aE+1 then(pl.slot k:Int) else F.ls m} S:=I.ok.I0
    have eS:(Tm.v (F.aE+1)).app S=.v (F.aE+1):=I.ok.new (dy _);rw[ep] at nx ⊢;have m2:Mo F S {F with hold:=pt (pt F.hold (yP (pl.slot k)) (.v (F.aE+1))) q (.v (F.aE+1)),aE:=F.aE+1,loose:=F.loose++[F.aE+1],ls:=λm=>if m=F.aE+1 then(pl.slot k:Int) else F.ls m} S:=I.ok.I0
    refine rl.Jv hr I.ok.low (K ⟨m2,λp z=>(aD z.2).trans (aD λe=>by rw[e] at z;exact absurd z.1 (show ¬(121:Nat)=97 by decide)),λz=>⟨z.1,λj t h=>z.2 j t (jQ hn h)⟩,xT hn⟩ ⟨aI rfl,.v (au _),λm e o=>(show(if m=F.aE+1 then(pl.slot k:Int) else F.ls m)<=L by rw[aI (Tm.v.inj (e.symm.trans eS))];exact z.2),λz=>z.2 k _ ju⟩
     ((I.mo m0 (λo o=>rfl) λo o h=>h).new (c':=(c.dk k).lU k) (r:=F.rest) (t:=.v (F.aE+1)) (h:=pt (pt F.hold (yP (pl.slot k)) (.v (F.aE+1))) q (.v (F.aE+1))) inj hn lt hv (.v (au _)) (.inl (by rw[eS];rfl)) (λz=>absurd (rS.mpr (.inr rfl)) z) (λm e o=>.inr ⟨hp,aI (Tm.v.inj (e.symm.trans eS)),z.1⟩) rfl rfl (λj o m m'=>m (rS.mpr (.inl m'))) (by rw[ep];exact nx) λp z1 z2=>(aD ?_).trans (aD (ep▸z1))) (E.Bv I hn) hr)
    exact z2.elim (λ⟨j,t,b,_,z⟩=>z▸(oH (pl:=pl) (I.vk j t b).lt (.inl hq)).symm) λz2=>z2.elim (λζ=>ζ.casesOn λo m o=>nomatch m) λz e=>by rw[e,hq] at z;exact absurd z ⋯
   .rw[aD hp] at K;have ep:place pl k=tP k:=aD hp;have nl:=I.ok.fresh (dy F.aE);have m0:Mo F S {F with hold:=F.hold,rest:=F.rest,aE:=F.aE+1} S:=I.ok.more;rw[ep] at nx ⊢;have m2:Mo F S {F with hold:=pt (pt F.hold (tP k) (.v (F.aE+1))) q (.v (F.aE+1)),rest:=F.rest,aE:=F.aE+1} S:=I.ok.more;refine rl.Ju hr (K ⟨m2,λp z=>(aD z.2).trans (aD λe=>by rw[e] at z;exact absurd z.1 (show ¬(116:Nat)=97 by decide)),λz=>⟨z.1,λj t h=>z.2 j t (jQ hn h)⟩,xT hn⟩ ⟨aI rfl,.v (au _),λm e z=>absurd z (nl m (by rw[e];rfl)),λz=>z.2 k _ ju⟩
     ((I.mo m0 (λo o=>rfl) λo o h=>h).new (c':=c.dk k) (r:=F.rest) (t:=.v (F.aE+1)) (h:=pt (pt F.hold (tP k) (.v (F.aE+1))) q (.v (F.aE+1))) inj hn lt hv (.v (au _)) (.inr nl) (λo=>nl) (λm e z=>absurd z (nl m (by rw[e];rfl))) rfl rfl (λj o m m'=>m m') (by rw[ep];exact nx) λp z1 z2=>(aD ?_).trans (aD (ep▸z1))) (E.Bv I hn) hr)
    exact z2.elim (λ⟨j,t,b,_,z⟩=>z▸(oH (pl:=pl) (I.vk j t b).lt (.inl hq)).symm) λz2=>z2.elim (λζ=>ζ.casesOn λo m o=>nomatch m) λz e=>by rw[e,hq] at z;exact absurd z ⋯
include hF
def U7(a:Ax pl N lv lg L M t)(mv:∀k,M k->val k≠L3)(hL:-2<=L)(hq:q.1=97)(I:Inv pl N n0 X lv c F S val [])(E:Eqv pl N n0 P F.b val [])(hr:F.rest=[])(fr:Fr pl val [t])
  (K:∀{F' S' val' T},St (λp=>p.1=97/\p≠q) (Tm.has · t) F S val F' S' val'->La L F' S' val' q t T->Inv pl N n0 X lv (n3 pl t q lg c).2 F' S' val' []->Eqv pl N n0 P F'.b val' []->F'.rest=[]->R is F'):R ((n3 pl t q lg c).1++is) F:=by
 have cmp:aq t=F6->(∀{F' S' val' T},St (λp=>p.1=97/\p≠q) (Tm.has · t) F S val F' S' val'->La L F' S' val' q t T->Inv pl N n0 X lv (kO pl t q c).2 F' S' val' []->Eqv pl N n0 P F'.b val' []->F'.rest=[]->R is F')->R ((kO pl t q c).1++is) F:=λhs K=>M3 rl hF inj hs a.bt hq I E hr fr λs h1 b1 n1 a1 I E hr=>K s ⟨h1,b1,λm e z=>absurd z (n1 m (by rw[e];rfl)),a1⟩ I E hr
 cases t with
 |v k=>exact U8 rl inj a mv hL hq I E hr fr K|c b z=>
  have m1:Mo F S {F with hold:=pt F.hold q (.c b z)} S:=I.ok.same (h:=pt F.hold q (.c b z)) (r:=F.rest);exact rl.lh hr (K ⟨m1,λp z=>aD z.2,λa=>a,λj=>(or_iff_left λh=>h).symm⟩ ⟨aI rfl,.c,λm e=>(nomatch e),λo=>rfl⟩ (I.mo m1 (λp z=>aD (z.elim (λ⟨j,t,b,_,z⟩=>z▸(oH (pl:=pl) (I.vk j t b).lt (.inl hq)).symm) λζ=>ζ.elim λo ζ'=>ζ'.elim λm o=>memN m)) λn t z=>(aD (λe=>by rw[<-e] at hq;exact(show ¬(121:Nat)=97 by decide) hq):pt F.hold q _ (yP n)=F.hold (yP n))▸z) E hr)
 |s1 f x=>exact cmp rfl K|s2 f x y=>exact cmp rfl K
end
def yU(pl:Pl)(N:Nat)(lv:Nat->Prop)(lg L:Int)(M:Nat->Prop)(ts:List Tm):Prop:=List.rec (motive:=λy=>(Nat->Prop)->Prop) (λy=>True) (λt y ih M=>Ax pl N lv lg L M t/\ih λk=>M k\/t.has k) ts M
structure jA(us ws:List Tm)(τ ω:Sb):Prop where
 to:us.map (Tm.app τ)=ws
 back:ws.map (Tm.app ω)=us
variable{ws:List Tm}
def jA.FD(V:jA us ws τ ω):eW us=eW ws/\ff τ ω (bY us) (bY ws):=V.to▸Uw (V.to▸V.back) .nil
def jA.eW(V:jA us ws τ ω):eW us=eW ws:=V.FD.1
def jA.names(V:jA us ws τ ω):ff τ ω (bY us) (bY ws):=V.FD.2
def At(vs:List Tm)(x:Nat)(c:Tm)(ts:List Tm):Prop:=∃σ:Sb,ts=vs.map (Tm.app σ)/\σ x=c
variable{vs:List Tm}{x:Nat}
def Mh{c:Tm}(m:x∈bY vs)(h:ts=vs.map (Tm.app σ)):At vs x c ts↔σ x=c:=⟨λζ=>ζ.elim λy ζ'=>ζ'.elim λe q=>(map_inj m (h.symm.trans e)).trans q,λq=>⟨σ,h,q⟩⟩
variable{hv:Nat->Prop}{Sp:Sb}{y:Nat}{as ks kF:List Tm}
section
variable{FS2:FS}{c:Cs}{l':List Tm}{LL:Int}
def Good(N n0:Nat)(hv:Nat->Prop)(n:Nat):Prop:=(n<N/\¬hv n)\/(N<=n/\n<=n0)
structure Lk(N n0:Nat)(hv:Nat->Prop)(pl:Pl)(P:Sb->Prop)(b:Bd)(Sp:Sb)(ks:List Tm)(bF:Bd)(kF:List Tm)(val:Nat->Option Tm):Prop where
 mp:af b Sp
 pp:∀π,P π↔∃π',Sat b π'/\∀n,Good N n0 hv n->π' n=π n
 ke:∀{π σ},gG pl N n0 bF val [] π σ->ks.map (Tm.app π)=kF.map (Tm.app σ)
 kv:∀t∈ks,∀n,t.has n->Good N n0 hv n
def Bj(ha:∀t∈as,∀n,t.has n->Good N n0 hv n)(h:∀n,Good N n0 hv n->π n=σ n):as.map (Tm.app π)=as.map (Tm.app σ):=ix λt m=>app_congr λn q=>h n (ha t m n q)
def Vc:(us.map (Tm.app τ)).map (Tm.app σ)=us.map (Tm.app λn=>(τ n).app σ):=by rw[gD];exact ix λt y=>fw σ τ t
def Bk(M:af b S)(h:Sat b σ):(us.map (Tm.app S)).map (Tm.app σ)=us.map (Tm.app σ):=by rw[gD];exact ix λt y=>M.Bo h t
def Cm(M:af b S)(hv:∀k t,val k=F5 t->k<N):∃π,gG pl N n0 b val [] π S:=⟨λn=>if n<N then((val n).getD (.v n)).app S else S n,M.sol,λn h y=>(aD (gF.mpr h)).symm,λk t h=>(aI (hv k t h)).trans (by rw[h];rfl),λy m=>memN m⟩
def p5(E:Eqv pl N n0 P b' val [])(M:af b' S)(L:Lk N n0 hv pl P b Sp ks b' kF val)(hl:∀k t,val k=F5 t->k<N)(hu:∀{π σ},gG pl N n0 b' val [] π σ->as.map (Tm.app π)=us.map (Tm.app σ))(ha:∀t∈as,∀n,t.has n->Good N n0 hv n):∃τ ω,jA (as.map (Tm.app Sp)) (us.map (Tm.app S)) τ ω:=by
 obtain⟨π,s⟩:=Cm (pl:=pl) (n0:=n0) M hl;obtain⟨τ,h1,h2⟩:=(L.pp π).mp (E.snd s);obtain⟨ω,s'⟩:=E.cmp ((L.pp Sp).mpr ⟨Sp,L.mp.sol,λy y=>rfl⟩);exact⟨τ,ω,by rw[Bk L.mp h1,Bj ha h2,hu s],by rw[Bk M s'.sat,hu s']⟩
def XB{l l':List Nat}(h:l.length=l'.length)(h0:jm l n picks=L3->jm l' n picks=L3->Q)(h1:∀(j x y:Nat),l[j]?=F5 x->l'[j]?=F5 y->jm l n picks=F5 x->jm l' n picks=F5 y->Q):Q:=by
 unfold jm at h0 h1;have e:l≠[]↔l'≠[]:=not_congr (by rw[<-nE,h,nE])
 by_cases q:l≠[]/\0<(picks[n % picks.length]?).getD 0
 .have hp:=yq.mpr q.1;rw[aI q,aI ⟨e.mp q.1,q.2⟩,<-h] at h1;have e1:=bu (tE ((picks[n % picks.length]?).getD 0) hp);have e2:=bu (l:=l') (i:=(picks[n % picks.length]?).getD 0 % l.length) (h▸tE ((picks[n % picks.length]?).getD 0) hp);exact h1 _ _ _ e1 e2 e1 e2
 .rw[aD q,aD λz=>q ⟨e.mpr z.1,z.2⟩] at h0;exact h0 rfl rfl
def xK(M:af b S)(h:x∈bY (us.map (Tm.app S))):b.at x=L3:=by
 obtain⟨t,ht,hn⟩:=(pM.mp h).resolve_left dZ;obtain⟨u,_,rfl⟩:=dB.mp ht;obtain⟨m,hm,hx⟩:=dg.mp hn;exact M.free hx
def xE(M:af b S)(hx:b.at x=L3){k:Bool}:∃S',Met b S (.v x) (.c k z) (b++[(x,.c k z)]) S':=
 ⟨_,((da.start M (.v x) (.c k z)).bound (x:=x) (u:=.c k z) (λy y=>Iff.rfl) hx (λy e=>nomatch e) (λh=>h) (λn h=>.inl (by
  show(S x).has n;rw[M.id x hx];exact(h.resolve_right λq=>q).symm)) (λy y y h1 h2=>⟨h1,h2⟩) (.inl ⟨M.id x hx,rfl⟩)).done⟩
def EZ{c:Tm}(M:af b S)(m:x∈bY vs)(e:vs.map (Tm.app τ)=as.map (Tm.app S))(ex:τ x=.v y)(h:Sat b σ):At vs x c (as.map (Tm.app σ))↔σ y=c:=(Mh (σ:=λn=>(τ n).app σ) m (by rw[<-Bk M h,<-e,Vc])).trans (by rw[ex];exact .rfl)
def OR(O:Ok F S)(E:Eqv pl N n0 P F.b val [])(L:Lk N n0 hv pl P b Sp ks F.b F.kept val)(hl:∀k t,val k=F5 t->k<N)(hu:∀{π σ},gG pl N n0 F.b val [] π σ->as.map (Tm.app π)=us.map (Tm.app σ))(ha:∀t∈as,∀n,t.has n->Good N n0 hv n)(ib:∀t∈us,aU F.aE t){f:Nat×Nat}
  (K:∀{Sp' S' P'},Mo F S {F with b:=(event F.b S f us F.evs picks).1} S'->Eqv pl N n0 P' (event F.b S f us F.evs picks).1 val []->Lk N n0 hv pl P' (event b Sp f as F.evs picks).1 Sp' (ks++as) (event F.b S f us F.evs picks).1 (F.kept++us) val->(event b Sp f as F.evs picks).2=(event F.b S f us F.evs picks).2->Q):Q:=by
 obtain⟨τ,ω,V⟩:=p5 E O.av L hl hu ha;have ev:(event b Sp f as F.evs picks).2=(event F.b S f us F.evs picks).2:=by unfold event;rw[V.eW]
 have ke:∀{π σ},gG pl N n0 F.b val [] π σ->(ks++as).map (Tm.app π)=(F.kept++us).map (Tm.app σ):=λs=>by rw[b8,b8,L.ke s,hu s]
 have kv:∀t∈ks++as,∀n,t.has n->Good N n0 hv n:=λt m=>(cD.mp m).elim (L.kv t) (ha t);unfold event at K;refine XB (n:=F.evs.length+1) (picks:=picks) V.names.len (λe1 e2=>?_) λj x y hx hy e1 e2=>?_
 .rw[e1,e2] at K;exact K (O.same (h:=F.hold) (r:=F.rest)) E ⟨L.mp,L.pp,ke,kv⟩ ev
 .rw[e1,e2] at K;have mx:=d8 hx;have fx:=xK L.mp mx;have fy:=xK O.av (d8 hy);obtain⟨Sp',Mx⟩:=xE L.mp fx (k:=L0) (z:=700+((F.evs.length+1:Nat):Int));obtain⟨S',My⟩:=xE O.av fy (k:=L0) (z:=700+((F.evs.length+1:Nat):Int));have yb:aU F.aE (.v y):=by
   obtain⟨t,ht,hn⟩:=(pM.mp (d8 hy)).resolve_left dZ;obtain⟨u,hu,rfl⟩:=dB.mp ht;exact .v (O.old (ib u hu) hn)
  have sx:∀{σ},Sat (b++[(x,.c L0 (700+((F.evs.length+1:Nat):Int)))]) σ↔Sat b σ/\At (as.map (Tm.app Sp)) x (.c L0 (700+((F.evs.length+1:Nat):Int))) (as.map (Tm.app σ)):=λ{σ}=>(Mx.sat σ).trans (and_congr_right λh=>(EZ L.mp (τ:=.v) mx (List.map_id'' o3 _) rfl h).symm);have sy:∀{σ},Sat (F.b++[(y,.c L0 (700+((F.evs.length+1:Nat):Int)))]) σ↔Sat F.b σ/\At (as.map (Tm.app Sp)) x (.c L0 (700+((F.evs.length+1:Nat):Int))) (us.map (Tm.app σ)):=λ{σ}=>(My.sat σ).trans (and_congr_right λh=>(EZ O.av mx V.to (V.names.at_ j x y hx hy) h).symm);refine K (P':=λπ=>P π/\At (as.map (Tm.app Sp)) x (.c L0 (700+((F.evs.length+1:Nat):Int))) (as.map (Tm.app π))) (My.mo (r:=F.rest) O yb .c (.inr (.inl ⟨y,O.av.id y fy,λq h=>h.elim⟩))) ⟨λs=>?_,λζ=>ζ.elim λp1 p2=>?_⟩ ⟨Mx.av,λπ=>⟨λζ=>ζ.elim λp1 p2=>?_,λζ=>ζ.elim λπ' ζ'=>ζ'.elim λh1 h2=>?_⟩,λs=>ke ((um λσ=>sy).mp s).2,kv⟩ ev
  .have s:=(um λσ=>sy).mp s;exact⟨E.snd s.2,hu s.2▸s.1⟩
  .obtain⟨σ,s⟩:=E.cmp p1;exact⟨σ,(um λσ=>sy).mpr ⟨hu s▸p2,s⟩⟩
  .obtain⟨π',h1,h2⟩:=(L.pp π).mp p1;exact⟨π',sx.mpr ⟨h1,Bj ha h2▸p2⟩,h2⟩
  .have h3:=sx.mp h1;exact⟨(L.pp π).mpr ⟨π',h3.1,h2⟩,Bj ha h2▸h3.2⟩
variable{Fl:List Ev->Prop}(rl:Rules R Fl Dn sig picks)(hF:(∀π,¬P π)->Fl X.evs)(inj:Inj pl N)
include rl hF inj
def VA(hL:-2<=LL):∀{n c F S val M},yU pl N lv lg LL M as->(∀k,val k≠L3↔M k)->Fr pl val as->Inv pl N n0 X lv c F S val []->Eqv pl N n0 P F.b val []->F.rest=[]->
  (∀{F' S' val'} {us:List Tm},St (λp=>p.1=97/\p.2<n) (λk=>∃t∈as,t.has k) F S val F' S' val'->as.length=us.length->(∀i T,us[i]?=F5 T->F'.hold (aP (n+i))=F5 T/\aU F'.aE T/\∀m,T.app S'=.v m->m∈F'.loose->F'.ls m<=LL)->(∀{π σ},gB F'.b val' π σ->as.map (Tm.app π)=us.map (Tm.app σ))->Inv pl N n0 X lv (ig pl lg as n c).2 F' S' val' []->Eqv pl N n0 P F'.b val' []->F'.rest=[]->R is F')->R ((ig pl lg as n c).1++is) F:=by
 induction as with
 |nil=>exact λa mv fr I E hr K=>K (us:=[]) ⟨I.ok.same (h:=_) (r:=_),λy y=>rfl,λa=>a,λk=>(or_iff_left λζ=>ζ.elim λy ζ'=>ζ'.elim λm y=>memN m).symm⟩ rfl (λy y h=>f6 rfl h) (λy=>rfl) I E hr|cons t as ih=>
  intro n c F S val M a mv fr I E hr K;have fr1:Fr pl val [t]:=λk v=>⟨aA (dC (ba _) _) (fr k v).1,λu m=>(fr k v).2 u (bB.mp m▸.head _)⟩;show R ((n3 pl t (aP n) lg c).1++_++is) F;rw[dw];refine U7 rl hF inj a.1 (λk=>(mv k).mpr) hL rfl I E hr fr1 λ{F1 S1 val1 T} s1 g1 I E hr=>ih a.2 (λk=>(s1.nw k).trans (or_congr_left (mv k))) (fr.step s1 λy h=>h) I E hr λ{F2 S2 val2 us} s2 hl h2 a2 I E hr=>?_;have g:=g1.mo s2 (show(aP n).1=97/\n<n+1 from⟨rfl,dy n⟩) hL
  refine K (us:=T::us) (((s1.weak (H':=λp=>p.1=97/\p.2<n) (λp h=>⟨h.1,λe=>ed n (by rw[e] at h;exact h.2)⟩) λy=>Iff.rfl).trans (s2.weak (H':=λp=>p.1=97/\p.2<n) (λp h=>⟨h.1,yy h.2⟩) λy=>Iff.rfl)).weak (λy h=>h) λk=>tu (p:=Tm.has k) (a:=t) (l:=as)) (aF Nat.succ hl) (λi U h=>?_) (λz=>List.cons_eq_cons.mpr ⟨g.an z,a2 z⟩) I E hr
  cases i with
  |zero=>exact ay h▸⟨g.hold,g.bL,g.lv⟩|succ i=>rw[bW i 1,<-bT];exact h2 i U h
end
structure PS where
 b:Bd
 S:Sb
 ks:List Tm
 evs:List Ev
def jr(p:PS)(g:Gl)(picks:List Nat):Bd×List Tm×List Ev:=match g with
 | .call f as=>((event p.b p.S (0,f) as p.evs picks).1,p.ks++as,(event p.b p.S (0,f) as p.evs picks).2)| .bi f as=>((event p.b p.S (1,f) as p.evs picks).1,p.ks++as,(event p.b p.S (1,f) as p.evs picks).2)| .ao k=>(p.b++[(k,.c L0 e6)],p.ks,p.evs)| .mk k=>(p.b++[(k,.c L0 (5000+(p.evs.length:Int)))],p.ks,p.evs)| .ct k=>(p.b,p.ks,p.evs++[(2,0,eW [(Tm.v k).app p.S])])| .cut=>(p.b,p.ks,p.evs++[(3,0,[])])
def jg:Gl->List Tm
 | .call _ as=>as| .bi _ as=>as| .ct k=>[.v k]|_=>[]
def Ae(b:Bd):Gl->Prop
 | .ao k=>b.at k=L3| .mk k=>b.at k=L3|_=>True
def PS.to(p:PS)(g:Gl)(picks:List Nat)(S2:Sb):PS:=⟨(jr p g picks).1,S2,(jr p g picks).2.1,(jr p g picks).2.2⟩
def l9(picks:List Nat)(gs:List Gl):PS->PS->Prop:=List.rec (motive:=λy=>PS->PS->Prop) (λp q=>q=p) (λg y ih p q=>eM p.S (jg g)/\Ae p.b g/\∃S2,af (jr p g picks).1 S2/\ih (p.to g picks S2) q) gs
structure GA(pl:Pl)(N:Nat)(hv M dead:Nat->Prop)(living lg L:Int)(as:List Tm):Prop where
 ax:yU pl N (λk=>¬dead k) lg L M as
 vo:∀k,pl.void k=F6->il k as<=1/\∀t∈as,t.has k->¬M k
 sl:∀t∈as,∀k,t.has k->pl.void k=L0->pl.perm k=F6->(pl.slot k:Int)<=living
 vs:∀t∈as,∀k,t.has k->k<N/\¬hv k
def t5(k:Nat):Gl->Prop
 | .call _ as=>∃t∈as,t.has k| .bi _ as=>∃t∈as,t.has k| .ao j=>j=k| .mk j=>j=k|_=>False
def qD(pl:Pl)(N:Nat)(sig:Nat->Nat)(hv M dead:Nat->Prop)(living:Int)(i:Nat)(L:Int):Gl->Prop
 | .call f as=>(sig f=as.length/\as.length<=100)/\GA pl N hv M dead living i L as| .bi f as=>(sig f=as.length/\as.length<=100)/\GA pl N hv M dead living (-1) living as| .ao k=>(k<N/\¬hv k)/\¬M k/\(pl.perm k=F6->(pl.slot k:Int)<=living)| .mk k=>(k<N/\¬hv k)/\¬M k/\(pl.perm k=F6->(pl.slot k:Int)<=living)| .ct k=>(k<N/\¬hv k)/\M k/\pl.void k=L0/\¬dead k| .cut=>True
structure Js(pl:Pl)(N n0:Nat)(hv M dead:Nat->Prop)(P:Sb->Prop)(c:Cs)(F:FS)(S:Sb)(val:Nat->Option Tm)(p:PS):Prop where
 I:Inv pl N n0 F (λk=>¬dead k) c F S val []
 E:Eqv pl N n0 P F.b val []
 L:Lk N n0 hv pl P p.b p.S p.ks F.b F.kept val
 ev:F.evs=p.evs
 rest:F.rest=[]
 mv:∀k,val k≠L3↔M k
 dM:∀k,dead k->M k
 sl:∀k,M k->¬dead k->pl.void k=L0->pl.perm k=F6->(pl.slot k:Int)<=F.living
variable{lv2 dead:Nat->Prop}{l':List Tm}{living:Int}{p q:PS}{g:Gl}{es:List Ev}
section
variable{c:Cs}{S2:Sb}{LL:Int}
def Js.hF{Fl:List Ev->Prop}(J:Js pl N n0 hv M dead P c F S val p):(∀π,¬P π)->Fl es:=λh=>(Cm (pl:=pl) (n0:=n0) J.I.ok.av λk t h=>(J.I.vk k t h).lt).elim λπ s=>absurd (J.E.snd s) (h π)
def Inv.past{b2:Bd}{l:Int}{kp:Place->Bool}(I:Inv pl N n0 X lv c F S val [])(m:Mo F S {F with b:=b2} S')(h2:∀k t,val k=F5 t->pl.void k=L0->lv2 k->lv k/\kp (place pl k)=F6):Inv pl N n0 {F with hold:=λp=>if kp p=F6 then F.hold p else L3,living:=l,kept:=ks,b:=b2,evs:=es} lv2 c {F with hold:=λp=>if kp p=F6 then F.hold p else L3,living:=l,kept:=ks,b:=b2,evs:=es} S' val []:=
 ⟨⟨m.ok.av,m.ok.c9,m.ok.low⟩,I.sp,⟨rfl,rfl,rfl⟩,I.seen,I.sv,λk t e=>have v:=I.vk k t e
  ⟨v.bL,v.lt,λz=>have y:=v.nv z;⟨λq=>(aI (h2 k t e z q).2).trans (y.hold (h2 k t e z q).1),m.ni v.bL y.ni,λq=>m.nl v.bL (y.nl q),λn e1 z1=>(m.vl v.bL e1 z1).elim .inl λ⟨a,b,d⟩=>d▸y.lvl n a b⟩⟩,I.nt,λn t z=>I.yh n t (by
   by_cases q:kp (yP n)=F6
   .exact(aI q:(if kp (yP n)=F6 then F.hold (yP n) else L3)=_)▸z
   .exact absurd ((aD q:(if kp (yP n)=F6 then F.hold (yP n) else L3)=_).symm.trans z) (λe=>nomatch e)),λo m=>nomatch m⟩
def Nv:t.dep<=(t.app σ).dep:=by
 induction t with
 |s1 f x ih=>exact cP ih|s2 f x y i1 i2=>exact cP (vV.mpr ⟨aA i1 (jT _ _),aA i2 (jU _ _)⟩)|_=>exact ba _
def jA.eM(V:jA (as.map (Tm.app Sp)) (us.map (Tm.app S)) τ ω)(h:eM Sp as):eM S us:=λt m=>by
 have q:(t.app S).app ω∈as.map (Tm.app Sp):=V.back▸s8 (s8 m);obtain⟨u,hu,e⟩:=dB.mp q;exact aA Nv (e▸h u hu)
def uL(M1:af b S)(M2:af b S'):S=S':=funext λz=>(M2.mg S M1.sol z).symm.trans (zO λn h=>M1.id n (M2.free h))
variable{Fl:List Ev->Prop}(rl:Rules R Fl Dn sig picks)(inj:Inj pl N)
include rl inj
def zQ{fk:Nat×Nat}(J:Js pl N n0 hv M dead P c F S val p)(a:GA pl N hv M dead living lg LL as)(hL:-2<=LL)(sh:eM p.S as)
  (K:∀{F1 S1 val1 us S2 Sp' P'},Inv pl N n0 F (λk=>¬dead k) (ig pl lg as 1 c).2 F1 S1 val1 []->F1.rest=[]->as.length=us.length->(∀i t,us[i]?=F5 t->F1.hold (aP (i+1))=F5 t/\aU F1.aE t)->(∀t m,t∈us->t.app S1=.v m->m∈F1.loose->F1.ls m<=LL)->eM S1 us->Mo F1 S1 {F1 with b:=(event F1.b S1 fk us F1.evs picks).1} S2->Eqv pl N n0 P' (event F1.b S1 fk us F1.evs picks).1 val1 []->Lk N n0 hv pl P' (event p.b p.S fk as p.evs picks).1 Sp' (p.ks++as) (event F1.b S1 fk us F1.evs picks).1 (F1.kept++us) val1->(event p.b p.S fk as p.evs picks).2=(event F1.b S1 fk us F1.evs picks).2->(∀k,val1 k≠L3↔M k\/∃t∈as,t.has k)->R is F1):R ((ig pl lg as 1 c).1++is) F:=by
 have fr:Fr pl val as:=λk v=>⟨(a.vo k v).1,λt m h=>sa λz=>(a.vo k v).2 t m h ((J.mv k).mp z)⟩;refine VA rl J.hF inj hL a.ax J.mv fr J.I J.E J.rest λ{F1 S1 val1 us} s hl hus an I1 E1 hr1=>?_;have ke:F1.evs=p.evs:=I1.fx.1.trans J.ev;have kk:F1.kept=F.kept:=I1.fx.2.2;have L1:Lk N n0 hv pl P p.b p.S p.ks F1.b F1.kept val1:=⟨J.L.mp,J.L.pp,λz=>by rw[kk];exact have q:=s.an ⟨z.sat,z.vc⟩;J.L.ke ⟨q.1,z.ag,q.2,z.pd⟩,J.L.kv⟩
 have hl':∀k t,val1 k=F5 t->k<N:=λk t h=>(I1.vk k t h).lt;have hu:∀{π σ},gG pl N n0 F1.b val1 [] π σ->as.map (Tm.app π)=us.map (Tm.app σ):=λz=>an ⟨z.sat,z.vc⟩;have ha:∀t∈as,∀n,t.has n->Good N n0 hv n:=λt m n h=>.inl (a.vs t m n h);obtain⟨τ,ω,V⟩:=p5 E1 I1.ok.av L1 hl' hu ha;have ib:∀t∈us,aU F1.aE t:=λt m=>(jS.mp m).elim λi hi=>(hus i t hi).2.1;refine OR (f:=fk) (picks:=picks) I1.ok E1 L1 hl' hu ha ib λm E2 L2 ev=>?_;rw[ke] at E2 L2 ev m;exact K I1 hr1 hl (λi t h=>bW 1 i▸⟨(hus i t h).1,(hus i t h).2.1⟩) (λt m mt=>(jS.mp mt).elim λi hi=>(hus i t hi).2.2 m) (V.eM sh) (by rw[ke];exact m) (by rw[ke];exact E2) (by rw[ke];exact L2) (by rw[ke];exact ev) λk=>(s.nw k).trans (or_congr_left (J.mv k))
end
section
variable{c:Cs}{S2:Sb}{LL L:Int}
def Inv.re(I:Inv pl N n0 X lv c F S val []):Inv pl N n0 {F with hold:=h,evs:=es} lv c {F with hold:=F.hold,evs:=es} S val []:=⟨⟨I.ok.av,I.ok.c9,I.ok.low⟩,I.sp,⟨rfl,rfl,rfl⟩,I.seen,I.sv,λk t e=>have v:=I.vk k t e;⟨v.bL,v.lt,λz=>have y:=v.nv z;⟨y.hold,y.ni,y.nl,y.lvl⟩⟩,I.nt,I.yh,λq m=>memN m⟩
def Inv.base(I:Inv pl N n0 X lv c F S val []):Inv pl N n0 F lv c F S val []:=⟨I.ok,I.sp,⟨rfl,rfl,rfl⟩,I.seen,I.sv,I.vk,I.nt,I.yh,I.pk⟩
def Eqv.const(E:Eqv pl N n0 P b val [])(hn:val k=L3):Eqv pl N n0 (λπ=>P π/\π k=.c L0 z) b (gA val k (.c L0 z)) []:=⟨λs=>⟨E.snd ⟨s.sat,s.ag,λj w h=>s.vc j w (jQ hn h),s.pd⟩,s.vc k _ ju⟩,λζ=>ζ.elim λp e=>(E.cmp p).elim λσ s=>⟨σ,s.sat,s.ag,λj w h=>(u4 h).elim (λh=>by rw[h.1,h.2];exact e) λh=>s.vc j w h.2,s.pd⟩⟩
def Lk.const{bF:Bd}(L:Lk N n0 hv pl P b Sp ks bF kF val)(hb:b.at k=L3)(hn:val k=L3)(hk:k<N/\¬hv k)(Mq:af (b++[(k,.c L0 z)]) S2):Lk N n0 hv pl (λπ=>P π/\π k=.c L0 z) (b++[(k,.c L0 z)]) S2 ks bF kF (gA val k (.c L0 z)):=
 ⟨Mq,λπ=>⟨λ⟨p,e⟩=>let ⟨π',s,a⟩:=(L.pp π).mp p;⟨π',(uc hb).mpr ⟨s,(a k (.inl hk)).trans e⟩,a⟩,λ⟨π',s,a⟩=>have s:=(uc hb).mp s;⟨(L.pp π).mpr ⟨π',s.1,a⟩,(a k (.inl hk)).symm.trans s.2⟩⟩,λs=>L.ke ⟨s.sat,s.ag,λj w h=>s.vc j w (jQ hn h),s.pd⟩,L.kv⟩
def XR(h:pl.perm k=F6->(pl.slot k:Int)<=living):wu living (place pl k)=F6:=by
 unfold place wu;by_cases q:pl.perm k=F6
 .rw[aI q,vB];exact .inr (bE ⟨rfl,h q⟩)
 .rw[aD q];rfl
variable{Fl:List Ev->Prop}(rl:Rules R Fl Dn sig picks)(inj:Inj pl N)
theorem JB{b:Bool}{L:List Nat}:NL S L (.c b z):=λy h=>h.elim
include inj
theorem JM{i:Place->bO}(ri:∀{is p},R is {F with hold:=pt F.hold p (.c L0 z)}->R (i p::is) F)(J:Js pl N n0 hv M dead P c F S val p)(ok:(k<N/\¬hv k)/\¬M k/\(pl.perm k=F6->(pl.slot k:Int)<=F.living))(hb:p.b.at k=L3)(Mq:af (p.b++[(k,.c L0 z)]) S2)
  (K:∀{F' val' P'},Js pl N n0 hv (λj=>M j\/k=j) dead P' (jM pl i k c).2 F' S val' ⟨p.b++[(k,.c L0 z)],S2,p.ks,p.evs⟩->F'.living=F.living->R is F'):R ((jM pl i k c).1++is) F:=by
 have hn:val k=L3:=sa λz=>ok.2.1 ((J.mv k).mp z);have mv:∀j,gA val k (.c L0 z) j≠L3↔M j\/k=j:=λj=>(xT hn j).trans (or_congr_left (J.mv j));have sl:∀j,M j\/k=j->¬dead j->pl.void j=L0->pl.perm j=F6->(pl.slot j:Int)<=F.living:=λj h d v q=>h.elim (λh=>J.sl j h d v q) λe=>by rw[<-e] at q ⊢;exact ok.2.2 q
 have E:=J.E.const (z:=z) hn;have L:=J.L.const hb hn ok.1 Mq;unfold jM at K ⊢;by_cases v:pl.void k=F6
 .rw[aI v] at K ⊢;exact K ⟨J.I.ghost hn .c ok.1.1 v,E,L,J.ev,J.rest,mv,λj d=>.inl (J.dM j d),sl⟩ rfl
 .rw[aD v] at K ⊢;refine ri (K ⟨(J.I.new (c':=c.dk k) (r:=F.rest) (h:=pt F.hold (place pl k) (.c L0 z)) inj hn ok.1.1 (jy.mpr v) .c (.inr JB) (λy=>JB) (λn e=>nomatch e) rfl rfl (λj y m m'=>m m') (aI rfl) λp q y=>aD q).base,E,L,J.ev,J.rest,mv,λj d=>.inl (J.dM j d),sl⟩ rfl)
include rl
def Iv(hg:∀f as,g≠.call f as)(J:Js pl N n0 hv M dead P c F S val p)(ok:qD pl N sig hv M dead F.living i L g)(hl:-2<=F.living)(sh:eM p.S (jg g))(gn:Ae p.b g)(Mq:af (jr p g picks).1 S2)
  (K:∀{F' S' val' P'},Js pl N n0 hv (λk=>M k\/t5 k g) dead P' (gm pl g i c).2 F' S' val' (p.to g picks S2)->F'.living=F.living->R is F'):R ((gm pl g i c).1++is) F:=by
 cases g with
 |call f as=>exact absurd rfl (hg f as)|ao k=>exact JM inj (i:=.level) (rl.level J.rest) J ok gn Mq K|mk k=>
  have e:(F.evs.length:Int)=p.evs.length:=by rw[J.ev]
  exact JM inj (i:=.mark) (λh=>rl.mark J.rest (by rw[e];exact h)) J ok gn Mq K
 |cut=>
  refine rl.cut J.rest (K (S':=S) (val':=val) (P':=P) ⟨J.I.re (h:=F.hold),J.E,⟨Mq,(uL J.L.mp Mq)▸J.L.pp,J.L.ke,J.L.kv⟩,aF (·++[(3,0,[])]) J.ev,J.rest,λk=>(J.mv k).trans (or_iff_left λh=>h).symm,λk d=>.inl (J.dM k d),λk h=>J.sl k (h.elim id False.elim)⟩ rfl)
 |ct k=>
  obtain⟨hk,hM,hv1,nd⟩:=ok;have hs:k∈c.seen:=sa λz=>(J.mv k).mpr hM (J.I.seen k hv1 z);obtain⟨t,ht⟩:=J.I.sv k hs;have v:=J.I.vk k t ht;obtain⟨τ,ω,V⟩:=p5 (as:=[.v k]) (us:=[t]) J.E J.I.ok.av J.L (λk t h=>(J.I.vk k t h).lt) (λs=>aF (λx=>[x]) (s.vc k t ht)) λu m n h=>.inl ((show k=n by rw[bB.mp m] at h;exact h)▸hk)
  show R ((jM pl .hY k c).1++is) F;have K:∀{F' S' val' P'},Js pl N n0 hv (λj=>M j\/False) dead P' (jM pl .hY k c).2 F' S' val' ⟨p.b,S2,p.ks,p.evs++[(2,0,eW [(Tm.v k).app p.S])]⟩->F'.living=F.living->R is F':=K;unfold jM at K ⊢;have sc:c.dk k=c:=by unfold Cs.dk add;rw[aI hs]
  rw[aD (by rw[hv1];exact az),sc] at K
  rw[aD (by rw[hv1];exact az)]
  refine rl.hY J.rest ((v.nv hv1).hold nd) J.I.ok.av J.I.ok.c9 v.bL (V.eM sh) (K (S':=S) (val':=val) (P':=P) ⟨J.I.re (h:=F.hold),J.E,⟨Mq,(uL J.L.mp Mq)▸J.L.pp,J.L.ke,J.L.kv⟩,?_,J.rest,λk=>(J.mv k).trans (or_iff_left λh=>h).symm,λk d=>.inl (J.dM k d),λk h=>J.sl k (h.elim id False.elim)⟩ rfl);show F.evs++[(2,0,eW [t.app S])]=p.evs++[(2,0,eW [(Tm.v k).app p.S])];rw[J.ev,show eW [(Tm.v k).app p.S]=eW [t.app S] from V.eW]
 |bi f as=>
  show R ((ig pl (-1) as 1 c).1++[.jd f]++is) F;rw[dw];refine zQ rl inj (fk:=(1,f)) J ok.2 hl sh λ{F1 S1 val1 us S2' Sp' P'} I1 hr1 hl1 hus o sh1 m E2 L2 ev mv=>?_;cases uL L2.mp Mq;have el:F1.living=F.living:=I1.fx.2.1;refine rl.jd hr1 ⟨ok.1.1.trans hl1,hl1▸ok.1.2⟩ hus I1.ok.av I1.ok.c9 sh1 (K (P':=P') ⟨I1.past m λk t e z nd=>⟨nd,XR λq=>?_⟩,E2,L2,ev.symm,hr1,mv,λk d=>.inl (J.dM k d),λk h d v q=>?_⟩ el)
  .rw[el];exact((mv k).mp λy=>f6 y e).elim (λh=>J.sl k h nd z q) λζ=>ζ.elim λt ζ'=>ζ'.elim λmt h=>ok.2.sl t mt k h z q
  .show(pl.slot k:Int)<=F1.living;rw[el];exact h.elim (λh=>J.sl k h d v q) λζ=>ζ.elim λt ζ'=>ζ'.elim λmt h=>ok.2.sl t mt k h v q
end
def isCall:Gl->Bool
 | .call _ _=>F6|_=>L0
def yg(pl:Pl)(N:Nat)(sig:Nat->Nat)(hv:Nat->Prop)(la:Nat->Nat)(e:Bool)(gs:List Gl):Nat->(Nat->Prop)->(Nat->Prop)->Int->Prop:=
 List.rec (motive:=λy=>Nat->(Nat->Prop)->(Nat->Prop)->Int->Prop) (λy y y y=>True) (λg gs ih i M dead living=>
  (gs=[]->qD pl N sig hv M dead living i (-1) g/\(e=L0->living=-1))/\
  (gs≠[]->qD pl N sig hv M dead living i (la i) g/\(isCall g=F6->(la i:Int)<=living)/\
   ih (i+1) (λk=>M k\/t5 k g) (λk=>if isCall g=F6 then dead k\/((M k\/t5 k g)/\¬(pl.perm k=F6/\pl.slot k<=la i)) else dead k) (if isCall g=F6 then(la i:Int) else living))) gs
variable{gs:List Gl}{la:Nat->Nat}{e:Bool}
section
variable{c:Cs}{S2:Sb}{LL L:Int}{Fl:List Ev->Prop}
def Js.p5(J:Js pl N n0 hv M dead P c F S val p):∃τ ω,jA (p.ks.map (Tm.app p.S)) (F.kept.map (Tm.app S)) τ ω:=Mine.U.p5 J.E J.I.ok.av J.L (λk t h=>(J.I.vk k t h).lt) J.L.ke J.L.kv
def G1(h:isCall g=F6):∃f as,g=.call f as:=by
 cases g with
 |call f as=>exact⟨f,as,rfl⟩|bi=>exact(az h).elim|ao=>exact(az h).elim|mk=>exact(az h).elim|ct=>exact(az h).elim|cut=>exact(az h).elim
def Fd(h:isCall g=L0):pD g=.proceed/\qw n g=[]:=by
 cases g with
 |call f as=>exact nomatch h
 |bi=>exact⟨rfl,rfl⟩|ao=>exact⟨rfl,rfl⟩|mk=>exact⟨rfl,rfl⟩|ct=>exact⟨rfl,rfl⟩|cut=>exact⟨rfl,rfl⟩
variable(rl:Rules R Fl Dn sig picks)(inj:Inj pl N)
include rl inj
def Uh(J:Js pl N n0 hv M dead P c F S val p)(hl:F.living=living)(hlv:-2<=living)(ok:qD pl N sig hv M dead living i (-1) g)(he:e=L0->living=-1)(C:l9 picks [g] p q)(dn:∀{G S2 τ ω},G.evs=q.evs->af G.b S2->jA (q.ks.map (Tm.app q.S)) (G.kept.map (Tm.app S2)) τ ω->Dn G):R (iT pl la e [g] i c) F:=by
 subst hl;obtain⟨sh,gn,S2,Mq,rfl⟩:=C;show R ((gm pl g i c).1++((if e=F6 then[bO.hZ] else[])++[pD g])) F
 cases hc:isCall g with
 |false=>
  rw[(Fd (n:=0) hc).1];refine Iv rl inj (λf as z=>by rw[z] at hc;exact nomatch hc) J ok hlv sh gn Mq λ{F' S' val' P'} J el=>?_
  obtain⟨τ,ω,V⟩:=J.p5
  cases e with
  |true=>exact rl.hZ J.rest (rl.proceed (F:={F' with living:=-1}) J.rest rfl (dn J.ev J.I.ok.av V))
  |false=>exact rl.proceed J.rest (el.trans (he rfl)) (dn J.ev J.I.ok.av V)
 |true=>
  obtain⟨f,as,rfl⟩:=G1 hc;refine zQ rl inj (fk:=(0,f)) J ok.2 ⋯ sh λ{F1 S1 val1 us S2' Sp' P'} I1 hr1 hl1 hus hls sh1 m E2 L2 ev mv=>?_
  cases uL L2.mp Mq;have el:F1.living=F.living:=I1.fx.2.1;obtain⟨τ,ω,V⟩:=Mine.U.p5 E2 m.ok.av L2 (λk t h=>(I1.vk k t h).lt) L2.ke L2.kv;have D:Dn (lN F1 S1 us (0,f) (gr (-1)) (-1) picks):=dn (S2:=S2') (τ:=τ) (ω:=ω) ev.symm m.ok.av V;have sg:=And.intro (ok.1.1.trans hl1) (hl1▸ok.1.2)
  cases e with
  |true=>exact rl.hZ hr1 (rl.exec (F:={F1 with living:=-1}) hr1 sg hus rfl I1.ok.av I1.ok.c9 sh1 hls D)
  |false=>exact rl.exec hr1 sg hus (el.trans (he rfl)) I1.ok.av I1.ok.c9 sh1 hls D
def Qi:∀{i M dead living c F S val p P},yg pl N sig hv la e gs i M dead living->gs≠[]->Js pl N n0 hv M dead P c F S val p->F.living=living->-2<=living->l9 picks gs p q->(∀{G S2 τ ω},G.evs=q.evs->af G.b S2->jA (q.ks.map (Tm.app q.S)) (G.kept.map (Tm.app S2)) τ ω->Dn G)->R (iT pl la e gs i c) F:=by
 induction gs with
 |nil=>exact λo h=>absurd rfl h|cons g gs ih=>
  intro i M dead living c F S val p P ok _ J hl hlv C dn
  cases gs with
  |nil=>
   have ok:=ok.1 rfl;exact Uh rl inj J hl hlv ok.1 ok.2 C dn
  |cons g2 gs=>
   obtain⟨ok,ol,oks⟩:=ok.2 (qI _ _);subst hl;obtain⟨sh,gn,S2,Mq,C⟩:=C;show R ((gm pl g i c).1++(qw (la i) g++iT pl la e (g2::gs) (i+1) (gm pl g i c).2)) F
   cases hc:isCall g with
   |false=>
    rw[hc] at oks;rw[(Fd (n:=la i) hc).2];exact Iv rl inj (λf as z=>by rw[z] at hc;exact nomatch hc) J ok hlv sh gn Mq λJ el=>ih oks (qI _ _) J el hlv C dn
   |true=>
    have ol1:=ol hc;rw[hc] at oks;obtain⟨f,as,rfl⟩:=G1 hc;have hla:-2<=((la i:Nat):Int):=j8 ⋯ (fD _)
    refine zQ rl inj (fk:=(0,f)) J ok.2 hla sh λ{F1 S1 val1 us S2' Sp' P'} I1 hr1 hl1 hus hls sh1 m E2 L2 ev mv=>?_;cases uL L2.mp Mq;have el:F1.living=F.living:=I1.fx.2.1;refine rl.call hr1 ⟨ok.1.1.trans hl1,hl1▸ok.1.2⟩ hus (el▸ol1) I1.ok.av I1.ok.c9 sh1 (λt m ht e z=>ht.elim (λht=>hls t m ht e z) λζ=>ζ.elim λj ζ'=>ζ'.elim λhj hy=>?_) (ih (P:=P') (p:=p.to (.call f as) picks S2) oks (qI _ _) ⟨I1.past m λk t ek z nd=>?_,E2,L2,ev.symm,hr1,mv,λk d=>d.elim (λd=>.inl (J.dM k d)) λd=>d.1,λk h d o o=>?_⟩ rfl hla C dn)
    .obtain⟨k,e1,e2,e3,e4⟩:=I1.yh j t hy;exact(((I1.vk k t e1).nv e2).lvl m e z).elim (λh=>j8 h hla) λh=>by rw[h.2.1,e4];exact mC.mpr hj
    .have mk:=(mv k).mp λy=>f6 y ek;have pk:pl.perm k=F6/\pl.slot k<=la i:=sa λy=>nd (.inr ⟨mk,y⟩);refine⟨λd=>nd (.inl d),?_⟩;unfold place gr;rw[aI pk.1];exact bE ⟨rfl,mC.mpr pk.2⟩
    .have pk:pl.perm k=F6/\pl.slot k<=la i:=sa λy=>d (.inr ⟨h,y⟩);exact mC.mpr pk.2
end
structure Start(N n0:Nat)(call:List Tm)(F:FS):Prop where
 b:F.b=[]
 rest:F.rest=[]
 kept:F.kept=call
 evs:F.evs=[]
 sp:F.aE=n0
 args:∀j T,call[j]?=F5 T->F.hold (aP (1+j))=F5 T
 ys:∀n,F.hold (yP n)=L3
 bL:∀T∈call,aU n0 T/\∀k,T.has k->N<=k
 loose:∀x∈F.loose,(x<=n0/\F.ls x=-2)/\∀T∈call,aq T=F6->¬T.has x
def wZ(pl:Pl)(args:List Tm)(k:Nat):Prop:=pl.void k=F6/\∃t∈args,t.has k
structure Plan(pl:Pl)(N:Nat)(sig:Nat->Nat)(la:Nat->Nat)(e:Bool)(es:Nat)(args:List Tm)(goals:List Gl):Prop where
 inj:Inj pl N
 hs:∀t∈args,aq t=L0
 va:∀t∈args,∀k,t.has k->k<N
 once:∀k,pl.void k=F6->il k args<=1
 sl:∀t∈args,∀k,t.has k->pl.void k=L0->pl.perm k=F6->(pl.slot k:Int)<=if e=F6 then(es:Int) else -1
 gk:yg pl N sig (wZ pl args) la e goals 0 (λk=>pl.void k=L0/\∃t∈args,t.has k) (λy=>False) (if e=F6 then(es:Int) else -1)
 ne:goals≠[]
section
variable{es:Nat}{c:Cs}{S2:Sb}{args call:List Tm}{goals:List Gl}{Fl:List Ev->Prop}
def Lj:∀{Ts:List Tm} {i:Nat} {e:Pe},e∈p7 ts Ts i->∃j,ts[j]?=F5 e.t/\Ts[j]?=F5 e.T/\e.p=F5 (aP (i+j))/\e.h=F6:=by
 induction ts with
 |nil=>exact λm=>memN m|cons t ts ih=>
  intro Ts i e m
  cases Ts with
  |nil=>exact memN m|cons T Ts=>exact(bD.mp m).elim (λq=>q▸⟨0,rfl,rfl,rfl,rfl⟩) λm=>((ih m).elim λj ζ'=>ζ'.elim λa ζ''=>ζ''.elim λb ζ'''=>ζ'''.elim λc d=>⟨j+1,a,b,by rw[c,iy,bT],d⟩)
def yi(N n0:Nat)(hv:Nat->Prop)(args call:List Tm)(π:Sb):Prop:=∃ρ:Sb,args.map (Tm.app ρ)=call.map (Tm.app ρ)/\∀n,Good N n0 hv n->ρ n=π n
def Ie{ρ:Sb}(h:∀t∈as,∀n,t.has n->ρ n=σ n):as.map (Tm.app ρ)=as.map (Tm.app σ):=ix λt m=>app_congr (h t m)
def Qx:∀{Ts:List Tm} {i:Nat},ts.length=Ts.length->(∀t∈ts,aq t=L0)->(∀k,pl.void k=F6->il k ts<=1)->(∀e∈p7 ts Ts i,(e.h=F6/\iV pl e.t=F6)\/e.t.app π=e.T.app σ)->∃ρ:Sb,(∀k,¬(pl.void k=F6/\∃t∈ts,t.has k)->ρ k=π k)/\ts.map (Tm.app ρ)=Ts.map (Tm.app σ):=by
 induction ts with
 |nil=>exact λhl y y y=>⟨π,λy y=>rfl,by cases nE.mp hl.symm;rfl⟩|cons t ts ih=>
  intro Ts i hl hs o h
  cases Ts with
  |nil=>exact nomatch hl
  |cons T Ts=>
   obtain⟨ρ,h2,e2⟩:=ih (qU hl) (λt m=>hs t (.tail _ m)) (λk q=>aA (cI _ _) (o k q)) λe m=>h e (.tail _ m);have h1:=h _ (.head _);have wk:∀{k},¬(pl.void k=F6/\∃u∈t::ts,u.has k)->¬(pl.void k=F6/\∃u∈ts,u.has k):=λh q=>h ⟨q.1,q.2.elim λu ζ'=>ζ'.elim λm z=>⟨u,.tail _ m,z⟩⟩
   cases t with
   |c b z=>exact⟨ρ,λk q=>h2 k (wk q),List.cons_eq_cons.mpr ⟨h1.resolve_left (λq=>nomatch q.2),e2⟩⟩
   |v k=>
    by_cases v:pl.void k=F6
    .have no:∀u∈ts,¬u.has k:=λu m q=>LP (o k v) (pV (show(Tm.v k).has k from rfl)) (xU m q)
     refine⟨λn=>if n=k then T.app σ else ρ n,λj q=>(aD λ(e:j=k)=>q ⟨e▸v,_,.head _,e.symm⟩).trans (h2 j (wk q)),List.cons_eq_cons.mpr ⟨aI rfl,?_⟩⟩
     rw[<-e2];exact Ie λu m n q=>aD λ(e:n=k)=>no u m (e▸q)
    .exact⟨ρ,λk q=>h2 k (wk q),List.cons_eq_cons.mpr ⟨(h2 k λq=>v q.1).trans (h1.resolve_left λq=>v q.2),e2⟩⟩
   |s1=>exact nomatch hs _ (.head _)
   |s2=>exact nomatch hs _ (.head _)
def Ff(hl:args.length=call.length)(hs:∀t∈args,aq t=L0)(once:∀k,pl.void k=F6->il k args<=1)(va:∀t∈args,∀n,t.has n->n<N)(vc:∀t∈call,∀n,t.has n->N<=n/\n<=n0):Eqv pl N n0 (yi N n0 (wZ pl args) args call) [] (λy=>L3) (p7 args call 1):=by
 refine⟨λ{π σ} s=>?_,λ{π} ζ=>ζ.elim λρ ζ'=>ζ'.elim λh1 h2=>⟨ρ,⟨(λy y e=>f6 rfl e),λn a b=>h2 n (.inr ⟨a,b⟩),(λy y e=>f6 rfl e),λe m=>?_⟩⟩⟩
 .obtain⟨ρ,h1,h2⟩:=Qx hl hs once s.pd;refine⟨ρ,?_,λn g=>h1 n λq=>g.elim (λg=>g.2 q) λg=>q.2.elim λt ζ'=>ζ'.elim λm h=>gF.mpr g.1 (va t m n h)⟩;rw[h2];exact(Ie λt m n h=>have z:=vc t m n h;(h1 n λq=>q.2.elim λt ζ'=>ζ'.elim λm h=>gF.mpr z.1 (va t m n h)).trans (s.ag n z.1 z.2).symm).symm
 .obtain⟨j,a,b,_,hh⟩:=Lj m;have e1:(args.map (Tm.app ρ))[j]?=(call.map (Tm.app ρ))[j]?:=by rw[h1]
  rw[gC,gC,a,b] at e1
  cases v:iV pl e.t with
  |true=>exact .inl ⟨hh,rfl⟩|false=>
   refine .inr ((app_congr λk hk=>(h2 k (.inl ⟨va _ (d8 a) k hk,λq=>?_⟩)).symm).trans (ay e1));have z:=hs _ (d8 a)
   cases ht:e.t with
   |v j=>
    rw[ht] at hk v;exact az (v.symm.trans ((show j=k from hk)▸q.1))
   |c=>rw[ht] at hk;exact hk|s1=>rw[ht] at z;exact nomatch z
   |s2=>rw[ht] at z;exact nomatch z
def G0(I:Start N n0 call F)(va:∀t∈args,∀k,t.has k->k<N):Inv pl N n0 F lv ⟨[],[],N⟩ F .v (λy=>L3) (p7 args call 1):=
 ⟨⟨I.b▸af.nil,λp m=>(by rw[I.b] at m;exact memN m),λx m=>I.sp▸(I.loose x m).1.1⟩,bX I.sp.symm,⟨rfl,rfl,rfl⟩,λy y y=>rfl,λy m=>(memN m),λy y e=>(f6 rfl e),au _,λn t h=>f6 (I.ys n) h,λe m=>by
  obtain⟨j,a,b,d,h⟩:=Lj m;have m':=d8 b;have q:=I.bL _ m';refine⟨I.sp▸q.1,?_,(λz=>nomatch h.symm.trans z),(λp z=>ay (d.symm.trans z)▸⟨I.args j _ b,rfl⟩),va _ (d8 a)⟩
  cases hv:e.T.bf with
  |true=>exact .inl (by rw[o3];exact hv)|false=>
   refine .inr λx hx mx=>(I.loose x mx).2 _ m' ?_ (by rw[o3] at hx;exact hx)
   rw[o3] at hx
   cases ht:e.T with
   |v=>rw[ht] at hv;exact nomatch hv
   |c=>rw[ht] at hx;exact hx.elim|s1=>rfl|s2=>rfl⟩
variable(rl:Rules R Fl Dn sig picks)
include rl
def Q1(I:Start N n0 call F)(hl:args.length=call.length)(pn:Plan pl N sig la e es args goals)(no:∀σ,args.map (Tm.app σ)≠call.map (Tm.app σ))(fl:Fl []):R ((iD pl args 1 ⟨[],[],N⟩).1++is) F:=
 Gg rl (P:=yi N n0 (wZ pl args) args call) (X:=F) (lv:=λy=>True) (λy=>I.evs▸fl) pn.inj (λy=>cC) pn.hs hl (λx m=>(I.loose x m).1.2) (G0 I pn.va) (I.b▸Ff hl pn.hs pn.once pn.va λt m n h=>⟨(I.bL t m).2 n h,(I.bL t m).1.lo n h⟩) I.rest λ{F' S' val'} hz I E y y=>by
  obtain⟨π,s⟩:=Cm (pl:=pl) (n0:=n0) I.ok.av λk t h=>(I.vk k t h).lt;obtain⟨ρ,h,_⟩:=E.snd s;exact absurd h (no ρ)
def NZ(I:Start N n0 call F)(hl:args.length=call.length)(pn:Plan pl N sig la e es args goals)(hlv:F.living=if e=F6 then(es:Int) else -1){b0:Bd}{S0:Sb}(M:af b0 S0)(sat:∀σ,Sat b0 σ↔args.map (Tm.app σ)=call.map (Tm.app σ))(C:l9 picks goals ⟨b0,S0,call,[]⟩ q)(dn:∀{G S2 τ ω},G.evs=q.evs->af G.b S2->jA (q.ks.map (Tm.app q.S)) (G.kept.map (Tm.app S2)) τ ω->Dn G):R ((iD pl args 1 ⟨[],[],N⟩).1++iT pl la e goals 0 (iD pl args 1 ⟨[],[],N⟩).2) F:=by
 have cv:∀t∈call,∀n,t.has n->N<=n/\n<=n0:=λt m n h=>⟨(I.bL t m).2 n h,(I.bL t m).1.lo n h⟩;refine Gg rl (P:=yi N n0 (wZ pl args) args call) (X:=F) (lv:=λy=>¬False) (λh=>absurd ⟨S0,(sat S0).mp M.sol,λy y=>rfl⟩ (h S0)) pn.inj (λy=>id) pn.hs hl (λx m=>(I.loose x m).1.2) (G0 I pn.va) (I.b▸Ff hl pn.hs pn.once pn.va cv) I.rest λ{F' S' val'} hz I' E hr mv=>?_;have kk:F'.kept=call:=I'.fx.2.2.trans I.kept;have el:F'.living=F.living:=I'.fx.2.1;refine Qi rl pn.inj (p:=⟨b0,S0,call,[]⟩) pn.gk pn.ne ⟨I'.base,E,⟨M,λπ=>⟨λζ=>ζ.elim λρ ζ'=>ζ'.elim λa b=>⟨ρ,(sat ρ).mpr a,b⟩,λζ=>ζ.elim λρ ζ'=>ζ'.elim λa b=>⟨ρ,(sat ρ).mp a,b⟩⟩,λs=>?_,λt m n h=>.inr (cv t m n h)⟩,I'.fx.1.trans I.evs,hr,λk=>(mv k).trans (or_iff_right λh=>h rfl),λk d=>d.elim,λk h y y q=>?_⟩ (el.trans hlv) ?_ C dn
 .rw[kk];exact ix λt m=>app_congr λn h=>(s.ag n (cv t m n h).1 (cv t m n h).2).symm
 .rw[el,hlv];exact h.2.elim λt ζ'=>ζ'.elim λm z=>pn.sl t m k z h.1 q
 .split
  .exact j8 ⋯ (fD _)
  .decide
end
section
variable{d:Nat}{evs:List Ev}{f:Nat×Nat}
def xM(M:af b S){N:Nat->Prop}(h:BQ (λt=>∀n,t.has n->N n) b)(ha:∀t∈as,∀n,t.has n->N n)(hx:x∈bY (as.map (Tm.app S))):N x:=by
 obtain⟨t,ht,hn⟩:=(pM.mp hx).resolve_left dZ;obtain⟨u,hu,rfl⟩:=dB.mp ht;obtain⟨m,hm,hx⟩:=dg.mp hn;exact KV M h m (ha u hu m hm) x hx
def AD(h:t.has m):(σ m).dep<=(t.app σ).dep:=by
 induction t with
 |v k=>exact bX (aF (λk=>(σ k).dep) (show k=m from h).symm)|c=>exact h.elim|s1 f x ih=>exact fE (ih h)|s2 f x y i1 i2=>exact fE (h.elim (λh=>aA (i1 h) (jT _ _)) λh=>aA (i2 h) (jU _ _))
def Nw(h:t.has m)(hv:t.bf=L0):(σ m).dep<(t.app σ).dep:=by
 cases t with
 |v=>exact nomatch hv
 |c=>exact h.elim|s1 f x=>exact kD (AD (t:=x) h)|s2 f x y=>exact kD (h.elim (λh=>aA (AD (t:=x) h) (jT _ _)) λh=>aA (AD (t:=y) h) (jU _ _))
def FL{M:Nat}(h:∀m,t.has m->(σ m).dep<=M):(t.app σ).dep<=t.dep+M:=by
 induction t with
 |v k=>exact aA (h k rfl) (cI _ _)|c=>exact ba _|s1 f x ih=>exact aA (cP (ih h)) (bX (Nat.succ_add _ _).symm)|s2 f x y i1 i2=>
  refine aA (cP (vV.mpr ⟨aA (i1 λm q=>h m (.inl q)) (b5 (jT x.dep y.dep) M),aA (i2 λm q=>h m (.inr q)) (b5 (jU x.dep y.dep) M)⟩)) (bX (Nat.succ_add _ _).symm)
def FE{p q:α->Bool}(hpq:∀x,p x=F6->q x=F6){l:List α}{x:α}(m:x∈l)(hq:q x=F6)(hp:p x=L0):l.countP p+1<=l.countP q:=by
 induction l with
 |nil=>exact memN m|cons y l ih=>
  rw[List.countP_cons,List.countP_cons];have mono:l.countP p<=l.countP q:=List.countP_mono_left λx z h=>hpq x h;rcases bD.mp m with rfl|m
  .rw[hq,hp,aD az,aI rfl];exact cP mono
  .rw[iy];refine eb (ih m) ?_
   cases e:p y with
   |true=>rw[hpq y e];exact au _|false=>exact ba _
def cnt(b:Bd)(S:Sb)(k:Nat):Nat:=b.countP λp=>decide ((S p.1).dep<=k)
def Nu(M:af b S)(hd:BQ (λt=>t.dep<=d) b):∀k n,(S n).dep<=k->(S n).dep<=d*cnt b S k:=by
 intro k
 induction k with
 |zero=>exact λn h=>aA h (ba _)|succ k ih=>
  refine M.ind (λn e h=>by rw[M.id n e];exact ba _) λn t e i2 h=>?_
  have hs:=M.sol n t e;have mono:cnt b S k<=cnt b S (k+1):=List.countP_mono_left λx y h=>bE (fE (dG h));by_cases hk:(S n).dep<=k
  .exact aA (ih n hk) (dc d mono)
  .cases hv:t.bf with
   |true=>
    refine jG hv λm em=>?_;subst em;rw[show S n=S m from hs] at h ⊢
    exact i2 m rfl h
   |false=>
    have c1:=FE (p:=λp:Nat×Tm=>decide ((S p.1).dep<=k)) (q:=λp=>decide ((S p.1).dep<=k+1)) (λx h=>bE (fE (dG h))) (nN e) (bE h) (bC hk);have a:=FL (t:=t) (σ:=S) (M:=d*cnt b S k) λm hm=>ih m (qQ (bw (Nw hm hv) (hs▸h)));rw[hs];exact aA a (aA (aA (b5 (hd _ (nN e)).2 _) (bX ((bW _ _).trans (y5 _ _).symm))) (dc d c1))
def mi{l:List Nat}:∀{r:List Nat},l.Nodup->(∀x∈l,x∈r)->l.length<=r.length:=by
 induction l with
 |nil=>exact λz z=>ba _|cons x l ih=>
  intro r h hs;have h:=bo.mp h;have hx:=hs x (.head _)
  have:=ih (r:=r.erase x) h.2 λy m=>(List.mem_erase_of_ne λe=>h.1 (by rw[<-e];exact m)).mpr (hs y (.tail _ m))
  rw[Di hx] at this;exact aA (cP this) (bX (y9 (List.length_pos_of_mem hx)))
def Lt(L:List Nat)(d:Nat)(t:Tm):Prop:=(∀n,t.has n->n∈L)/\t.dep<=d
def Bf(L:List Nat)(d:Nat):jY (Lt L d):=⟨λf x h=>⟨h.1,gE h.2⟩,λf x y h=>
 have e:max x.dep y.dep<=d:=gE h.2
 ⟨⟨λn q=>h.1 n (.inl q),aA (jT _ _) e⟩,⟨λn q=>h.1 n (.inr q),aA (jU _ _) e⟩⟩⟩
def Be(M:af b S)(h:BQ (Lt L d) b)(t:Tm):(t.app S).dep<=t.dep+d*L.length:=FL λm y=>aA (Nu M (λp hp=>⟨(h p hp).1.2,(h p hp).2.2⟩) _ m (au _)) (dc d (aA List.countP_le_length (by
 have:=mi (r:=L) M.nd λx hx=>by
  obtain⟨p,hp,rfl⟩:=dB.mp hx;exact(h p hp).1.1 p.1 rfl
 rw[aQ] at this;exact this)))
def AL(M:af b S){Q:Tm->Prop}(h:BQ Q b)(hc:∀z,Q (.c L0 z))(hx:∀x∈bY (as.map (Tm.app S)),Q (.v x)):BQ Q (event b S f as evs picks).1/\∃S2,af (event b S f as evs picks).1 S2:=by
 unfold event
 dsimp only
 cases e:jm (bY (as.map (Tm.app S))) (evs.length+1) picks with
 |none=>exact⟨h,S,M⟩|some x=>
  have m:x∈bY (as.map (Tm.app S)):=by
   unfold jm at e;split at e
   .exact d8 e
   .exact f6 rfl e
  exact⟨λp hp=>(cD.mp hp).elim (h p) λq=>(bB.mp q).symm▸⟨hx x m,hc _⟩,((xE M (xK M m) (k:=L0)).elim λS2 M2=>⟨S2,M2.av⟩)⟩
def cT(k:Nat):Gl->Prop
 | .call _ as=>∃t∈as,t.has k| .bi _ as=>∃t∈as,t.has k| .ao j=>j=k| .mk j=>j=k| .ct j=>j=k| .cut=>False
def jX(gs:List Gl):(Nat->Prop)->Prop:=List.rec (motive:=λy=>(Nat->Prop)->Prop) (λy=>True) (λg y ih M=>(∀k,g=.ao k\/g=.mk k->¬M k)/\ih λk=>M k\/cT k g) gs
def QZ(hd:d+d*L.length<=150):∀{p:PS} {Q:Nat->Prop},af p.b p.S->BQ (Lt L d) p.b->BQ (λt=>∀n,t.has n->Q n) p.b->jX gs Q->(∀g∈gs,(∀k,cT k g->k∈L)/\∀t∈jg g,t.dep<=d)->∃q,l9 picks gs p q/\af q.b q.S/\BQ (Lt L d) q.b:=by
 induction gs with
 |nil=>exact λ{p y} M h y y y=>⟨p,rfl,M,h⟩|cons g gs ih=>
  intro p Q M h hQ hn hg;have gl:=hg g (.head _);have lt:∀t∈jg g,Lt L d t:=λt m=>⟨λn hx=>gl.1 n (by
   cases g with
   |call f as=>exact⟨t,m,hx⟩|bi f as=>exact⟨t,m,hx⟩|ct k=>exact(bB.mp m▸hx:(Tm.v k).has n)|ao=>exact nomatch m
   |mk=>exact nomatch m
   |cut=>exact nomatch m),gl.2 t m⟩
  have sh:eM p.S (jg g):=λt m=>aA (Be M h t) (aA (b5 (lt t m).2 _) hd);have fin:Ae p.b g->BQ (Lt L d) (jr p g picks).1->BQ (λt=>∀n,t.has n->Q n\/cT n g) (jr p g picks).1->(∃S2,af (jr p g picks).1 S2)->∃q,l9 picks (g::gs) p q/\af q.b q.S/\BQ (Lt L d) q.b:=λn1 b1 q1 ζ=>ζ.casesOn λS2 M2=>
   let ⟨q,C,R⟩:=ih (p:=p.to g picks S2) M2 b1 q1 hn.2 λg m=>hg g (.tail _ m)
   ⟨q,⟨sh,n1,S2,M2,C⟩,R⟩
  have hc:∀{z},Lt L d (.c L0 z):=⟨λy q=>q.elim,ba _⟩;have up:BQ (λt=>∀n,t.has n->Q n\/cT n g) p.b:=λx m=>⟨λn z=>.inl ((hQ x m).1 n z),λn z=>.inl ((hQ x m).2 n z)⟩;have num:∀{k:Nat} {z:Int},k∈L->cT k g->¬Q k->p.b.at k=L3/\BQ (Lt L d) (p.b++[(k,.c L0 z)])/\BQ (λt=>∀n,t.has n->Q n\/cT n g) (p.b++[(k,.c L0 z)])/\∃S2,af (p.b++[(k,.c L0 z)]) S2:=λ{k z} kl gk nk=>by
   have hb:p.b.at k=L3:=by
    cases e:p.b.at k with
    |none=>rfl|some t=>exact absurd ((hQ _ (nN e)).1 k rfl) nk
   exact⟨hb,λx m=>(cD.mp m).elim (h x) λm=>(bB.mp m).symm▸⟨⟨λn q=>(show k=n from q)▸kl,ba _⟩,hc⟩,λx m=>(cD.mp m).elim (up x) λm=>(bB.mp m).symm▸⟨λn q=>.inr ((show k=n from q)▸gk),λy q=>q.elim⟩,(xE M hb (k:=L0) (z:=z)).casesOn λS2 M2=>⟨S2,M2.av⟩⟩
  have ev:∀{fk:Nat×Nat} {as:List Tm},(∀t∈as,Lt L d t)->(∀t∈as,∀n,t.has n->cT n g)->BQ (Lt L d) (event p.b p.S fk as p.evs picks).1/\BQ (λt=>∀n,t.has n->Q n\/cT n g) (event p.b p.S fk as p.evs picks).1/\∃S2,af (event p.b p.S fk as p.evs picks).1 S2:=λ{fk as} ha hb=>by
   obtain⟨h2,e2⟩:=AL (f:=fk) (evs:=p.evs) (picks:=picks) M h (λy=>hc) λx m=>⟨λn q=>(show x=n from q)▸xM M (λp hp=>⟨(h p hp).1.1,(h p hp).2.1⟩) (λt m=>(ha t m).1) m,ba _⟩
   exact⟨h2,(AL (f:=fk) (evs:=p.evs) (picks:=picks) M up (λy y q=>q.elim) λx m n q=>(show x=n from q)▸xM M up (λt m n z=>.inr (hb t m n z)) m).1,e2⟩
  cases g with
  |call f as=>exact have z:=ev (fk:=(0,f)) lt λt m n z=>⟨t,m,z⟩;fin cC z.1 z.2.1 z.2.2|bi f as=>exact have z:=ev (fk:=(1,f)) lt λt m n z=>⟨t,m,z⟩;fin cC z.1 z.2.1 z.2.2|ao k=>exact have z:=num (gl.1 k rfl) rfl (hn.1 k (.inl rfl));fin z.1 z.2.1 z.2.2.1 z.2.2.2|mk k=>exact have z:=num (gl.1 k rfl) rfl (hn.1 k (.inr rfl));fin z.1 z.2.1 z.2.2.1 z.2.2.2|ct k=>exact fin cC h up ⟨_,M⟩|cut=>exact fin cC h up ⟨_,M⟩
end
def xf(void:Nat->Bool)(order:List Nat)(uns:Nat->Bool)(last:Nat->Int):Pl:=⟨void,λk=>decide (k∈order),λk=>order.idxOf k+1,uns,last⟩
section
variable{void uns:Nat->Bool}{last:Nat->Int}{order:List Nat}
def Q9(h:k∈order):order.idxOf k+1<=order.length:=kA.mpr h
def CL:(place (xf void order uns last) k=yP (order.idxOf k+1)/\k∈order)\/place (xf void order uns last) k=tP k:=by
 unfold place;by_cases h:k∈order
 .exact .inl ⟨aI (bE h),h⟩
 .exact .inr (aD λq=>h (dG q))
def RH:Inj (xf void order uns last) N:=λj k y y y y e=>by
 rcases CL (void:=void) (order:=order) (uns:=uns) (last:=last) (k:=j) with ⟨hj,mj⟩|hj
 .rcases CL (void:=void) (order:=order) (uns:=uns) (last:=last) (k:=k) with ⟨hk,mk⟩|hk
  .rw[hj,hk] at e;have e:=qU (ot e).2;exact((oY (kA.mpr mj)).symm.trans (by congr 1)).trans (oY (kA.mpr mk))
  .rw[hj,hk] at e;exact absurd (ot e).1 ⋯
 .rcases CL (void:=void) (order:=order) (uns:=uns) (last:=last) (k:=k) with ⟨hk,mk⟩|hk
  .rw[hj,hk] at e;exact absurd (ot e).1 ⋯
  .rw[hj,hk] at e;exact(ot e).2
end
def JN:¬t.has k->dj k t=0:=by
 induction t with
 |v m=>exact λh=>aD h|c=>exact λz=>rfl|s1 f x ih=>exact ih|s2 f x y i1 i2=>exact λh=>(congr (aF _ (i1 λq=>h (.inl q))) (i2 λq=>h (.inr q)):dj k x+dj k y=0+0)
def Tm.hasB(n:Nat):Tm->Bool
 | .v m=>m == n| .c _ _=>L0| .s1 _ x=>x.hasB n| .s2 _ x y=>x.hasB n||y.hasB n
def Qp{x y:Tm}:(Tm.s2 f x y).hasB n=(x.hasB n||y.hasB n):=rfl
def Gb:t.hasB n=F6↔t.has n:=by
 induction t with
 |v m=>exact eB|c=>exact⟨(λh=>(az h).elim),λh=>h.elim⟩|s1 _ x ih=>exact ih|s2 _ x y i1 i2=>rw[Qp,vB,i1,i2,Qr]
end Mine.U
section
open PySem PySem.W PySem.Calls PyProof.Rows PySem.SeqAt
namespace Mine
open U
abbrev Aaa:List Nat:=[99,97,108,108]
abbrev Aab:List Nat:=[103,111,97,108]
abbrev Aac:List Nat:=[98,117,105,108,116,105,110]
abbrev Aad:List Nat:=[116,101,109,112]
abbrev Aae:List Nat:=[102,97,105,108,101,100]
abbrev Aaf:List Nat:=[115,112,101,99,105,97,108]
abbrev Aag:List Nat:=[103,111,97,108,95,97,114,103]
abbrev Aah:List Nat:=[100,111,110,101]
abbrev Aai:List Nat:=[95,115,116,114,117,99,116]
abbrev Aaj:List Nat:=[112,101,114,109]
abbrev Aak:List Nat:=[115,101,116,95,118,97,108,117,101]
abbrev Aal:List Nat:=[118,111,105,100]
abbrev Aam:List Nat:=[117,110,105,102,121,95,118,97,108,117,101]
abbrev Aan:List Nat:=[115,101,116,95,108,111,99,97,108,95,118,97,108,117,101]
abbrev Aao:List Nat:=[103,101,116,95,118,97,114,105,97,98,108,101]
abbrev Aap:List Nat:=[103,101,116,95,99,111,110,115,116,97,110,116]
abbrev Aaq:List Nat:=[103,101,116,95,115,116,114,117,99,116,117,114,101]
abbrev Aar:List Nat:=[117,110,105,102,121,95,108,111,99,97,108,95,118,97,108,117,101]
abbrev Aas:List Nat:=[112,117,116,95,117,110,115,97,102,101,95,118,97,108,117,101]
abbrev Aat:List Nat:=[112,117,116,95,115,116,114,117,99,116,117,114,101]
abbrev Aau:List Nat:=[115,101,116,95,118,97,114,105,97,98,108,101]
abbrev Aav:List Nat:=[115,101,116,95,99,111,110,115,116,97,110,116]
variable{W:Wd}{n a:Nat}{F:aT}{H H':AH}{u v x y:V}
section
variable{Q:V->AH->Prop}
def a5.var(h:F a=F5 v)(q:Q v H):a5 W n (.var a) F H Q:=⟨h,q⟩
end
variable{ss:aL}
section
variable{Q:Fl->aT->AH->Prop}{e:IE}
end
variable{i:Nat}{op:CmpOp}{vs:List V}{b:Bool}{P':Prop}{Q':V->AH->Prop}
section
variable{Q:V->AH->Prop}
def Yn{c:Nat}{fl:List (Nat×V)}(hc:H[i]?=F5 (.inst c fl))(h:gK c a=L0)(g:aR fl a=F5 v)(q:Q v H):Seq (Prim W (.attr a) [.obj i] H) Q:=⟨(⟨⟨hc,h,g⟩⟩:yT a (.obj i) H v H),q⟩
def pY(p:eO W u x H v)(q:Q v H):Seq (Prim W .sub [u,x] H) Q:=⟨(⟨p⟩:zJ W u x H v H),q⟩
def fP{op:Operator}(p:P2 W u v x H H' (binaryOp op))(q:Q v H'):Seq (Prim W (.bin op) [u,x] H) Q:=⟨(show Prim W (.bin op) [u,x] H v H' from p),q⟩
def mn(p:P2 W u v x H H' (compareOp op))(q:Q v H'):Seq (Prim W (.cmp op) [u,x] H) Q:=⟨(show Prim W (.cmp op) [u,x] H v H' from p),q⟩
def gx{f:F1}(p:P1 W u v H H' (λa=>call f.fv [a]))(q:Q v H'):Seq (Prim W (.f1 f) [u] H) Q:=⟨(show Prim W (.f1 f) [u] H v H' from p),q⟩
def Yv(z:vs.length<=aJ)(q:Q (.tup vs) H):Seq (Prim W .tup vs H) Q:=⟨(⟨z⟩:zK vs H (.tup vs) H),q⟩
def mw(z:vs.length<=aJ)(q:Q (.lst vs) H):Seq (Prim W .lst vs H) Q:=⟨(⟨z,.val⟩:aw (vs.length<=aJ) (LR vs H (.lst vs) H)),q⟩
def Ys(q:Q (.bool (we u)) H):Seq (Prim W .mm [u] H) Q:=⟨(.mk:zB u H _ H),q⟩
def Yq{l:List V}(h:IsL H l u)(q:Q (.bool (!l.isEmpty)) H):Seq (Prim W .fY [u] H) Q:=⟨(.mk h:zA u H _ H),q⟩
def Yp{l:List (List Nat)}{s:List Nat}(q:Q (.bool (l.contains s)) H):Seq (Prim W (.e5 l) [.str s] H) Q:=⟨(.mk:ym l H (.str s) _ H),q⟩
def sA(p:eg W l5 u x v H H')(q:Q v H'):Seq (Prim W .jv [u,x] H) Q:=⟨(show Prim W .jv [u,x] H v H' from p),q⟩
def Ca(p:eg W lJ u x v H H')(q:Q v H'):Seq (Prim W .iS [u,x] H) Q:=⟨(show Prim W .iS [u,x] H v H' from p),q⟩
def KO(p:qY W u x y v H H')(q:Q v H'):Seq (Prim W .cut [u,x,y] H) Q:=⟨(show Prim W .cut [u,x,y] H v H' from p),q⟩
def Yu(p:tJ W u v H H')(q:Q v H'):Seq (Prim W .listRev [u] H) Q:=⟨(show Prim W .listRev [u] H v H' from p),q⟩
def yE{P:Bool->Prop}(p:P b):Tq (.bool b) H P:=⟨.bool rfl,p⟩
def if1{P:Prop}(h:b=F6)(p:P):(if b=F6 then P else P'):=by rw[aI h];exact p
def An{P:Prop}(h:b=L0)(p:P'):(if b=F6 then P else P'):=by rw[h,aD az];exact p
def Fn.mono{f:Nat}(h:Fn W n f vs H Q)(k:∀{v H'},Q v H'->Q' v H'):Fn W n f vs H Q':=λha y y y y y K r c=>h ha K r λq=>c (k q)
end
section
variable{Q:Fl->aT->AH->Prop}
end
variable{α β:Type}
section
abbrev Fa:=List (Option V)
abbrev K1:=V->AH->Prop
abbrev K2:=Fl->Fa->AH->Prop
abbrev gW:=List V->AH->Prop
abbrev ET:=Fa->AH->K1->Prop
abbrev vL:=Fa->AH->gW->Prop
abbrev BT:=Fa->AH->K2->Prop
universe u
def Q3:Nat:=0
def Q4:Nat:=Q3
def wY:Nat:=Q4
def Q5:Nat:=wY
def bZ:Nat:=Q5
@[reducible] def ob{β:Sort u}(o:Option α)(d:β)(f:α->β):β:=Option.rec (motive:=λy=>β) d f o
def aB(l:List α):Nat->Option α:=List.rec (motive:=λy=>Nat->Option α) (λy=>L3) (λx y ih k=>Nat.rec (motive:=λy=>Option α) (F5 x) (λk y=>ih k) k) l
def aa(l:List α)(v:α):Nat->List α:=List.rec (motive:=λy=>Nat->List α) (λy=>[]) (λx r ih k=>Nat.rec (motive:=λy=>List α) (v::r) (λk y=>x::ih k) k) l
def app(l r:List α):List α:=List.rec (motive:=λy=>List α) r (λx y ih=>x::ih) l
def er(l:List (Nat×α))(a:Nat):Option α:=List.rec (motive:=λy=>Option α) L3 (λp y ih=>Bool.rec (motive:=λy=>Option α) ih (F5 p.2) (Nat.beq p.1 a)) l
def Am(l:List (Nat×α))(a:Nat):Bool:=List.rec (motive:=λy=>Bool) L0 (λp y ih=>Bool.rec (motive:=λy=>Bool) ih F6 (Nat.beq p.1 a)) l
def Bi(l:List (Nat×α))(a:Nat)(v:α):List (Nat×α):=List.rec (motive:=λy=>List (Nat×α)) [] (λp y ih=>Bool.rec (motive:=λy=>Nat×α) p (p.1,v) (Nat.beq p.1 a)::ih) l
def rE(l:List (Nat×α))(a:Nat)(v:α):List (Nat×α):=Bool.rec (motive:=λy=>List (Nat×α)) (app l [(a,v)]) (Bi l a v) (Am l a)
def kW(l:List α):Option α:=List.rec (motive:=λy=>Option α) L3 (λx y ih=>ob ih (F5 x) F5) l
def fN(l:List α):Bool:=List.rec (motive:=λy=>Bool) F6 (λy y y=>L0) l
section
variable(d:β)
def kQ(v:V)(f:List V->β):β:=V.casesOn (motive_1:=λy=>β) v d (λy=>d) (λy=>d) (λy=>d) f (λy=>d) (λy=>d)
def cInt(v:V)(f:Int->β):β:=V.casesOn (motive_1:=λy=>β) v d (λy=>d) f (λy=>d) (λy=>d) (λy=>d) (λy=>d)
def cStr(v:V)(f:List Nat->β):β:=V.casesOn (motive_1:=λy=>β) v d (λy=>d) (λy=>d) f (λy=>d) (λy=>d) (λy=>d)
def cBool(v:V)(f:Bool->β):β:=V.casesOn (motive_1:=λy=>β) v d f (λy=>d) (λy=>d) (λy=>d) (λy=>d) (λy=>d)
def vw(v:V)(f:Nat->β):β:=V.casesOn (motive_1:=λy=>β) v d (λy=>d) (λy=>d) (λy=>d) (λy=>d) (λy=>d) f
def tY(v:V)(f:Nat->β):β:=cInt d v λi=>Int.rec (motive:=λy=>β) f (λy=>d) i
end
section
variable(d:β)
def nR(v:V)(f:Atom->β):β:=V.casesOn (motive_1:=λy=>β) v d (λy=>d) (λi=>f (.int i)) (λs=>f (.str s)) (λy=>d) (λy=>d) (λy=>d)
def zh(v:V)(f:List V->β):β:=V.casesOn (motive_1:=λy=>β) v d (λy=>d) (λy=>d) (λy=>d) f f (λy=>d)
def ki(vs:List V)(f:V->β):β:=List.rec (motive:=λy=>β) d (λx r y=>List.rec (motive:=λy=>β) (f x) (λy y y=>d) r) vs
def u0(vs:List V)(f:V->V->β):β:=List.rec (motive:=λy=>β) d (λx r y=>ki d r (f x)) vs
def at_(H:AH)(v:V)(f:Nat->Cell->β):β:=vw d v λi=>ob (aB H i) d (f i)
def jF(c:Cell)(f:List V->β):β:=Cell.casesOn (motive:=λy=>β) c f (λy y=>d) (λy y=>d) (λy=>d) (λy y=>d)
def Av(c:Cell)(f:List (Atom×V)->Nat->β):β:=Cell.casesOn (motive:=λy=>β) c (λy=>d) f (λy y=>d) (λy=>d) (λy y=>d)
def isSet(c:Cell)(f:List Int->β):β:=Cell.casesOn (motive:=λy=>β) c (λy=>d) (λy y=>d) (λy y=>d) f (λy y=>d)
def t8(c:Cell)(f:Nat->List (Nat×V)->β):β:=Cell.casesOn (motive:=λy=>β) c (λy=>d) (λy y=>d) (λy y=>d) (λy=>d) f
end
def atoms(l:List V):Option (List Atom):=List.rec (motive:=λy=>Option (List Atom)) (F5 []) (λx y ih=>nR L3 x λa=>ob ih L3 λr=>F5 (a::r)) l
def eD(a:List Nat):List Nat->Bool:=List.rec (motive:=λz=>List Nat->Bool) (λb=>fN b) (λx z ih b=>List.rec (motive:=λz=>Bool) L0 (λy r z=>Bool.rec (motive:=λz=>Bool) L0 (ih r) (Nat.beq x y)) b) a
def Bl(s:List Nat)(l:List (List Nat)):Bool:=List.rec (motive:=λy=>Bool) L0 (λx y ih=>Bool.rec (motive:=λy=>Bool) ih F6 (eD s x)) l
def aH(l:List α):Nat:=List.rec (motive:=λy=>Nat) 0 (λy y ih=>Nat.succ ih) l
def jj(k:Nat):List V:=Nat.rec (motive:=λy=>List V) [] (λk ih=>app ih [.int (k:Int)]) k
def vh(p:List Int)(k:Int):List Int:=if p.contains k then p else p++[k]
def Kt(op:CmpOp)(a b:List Nat):Option Bool:=match op with
 | .Eq=>F5 (eD a b)| .NotEq=>F5 (!eD a b)|_=>L3
def Gy(op:CmpOp)(a b:Int):Option Bool:=match op with
 | .Eq=>F5 (decide (a=b))| .NotEq=>F5 (!decide (a=b))| .Lt=>F5 (decide (a<b))| .LtE=>F5 (decide (a<=b))| .Gt=>F5 (decide (b<a))| .GtE=>F5 (decide (b<=a))|_=>L3
def Ap(H:AH)(u x:V):Option Bool:=at_ L3 H x λy c=>Cell.casesOn (motive:=λy=>Option Bool) c (λy=>L3) (λkvs y=>nR L3 u λa=>F5 (aR kvs a).isSome) (λkvs y=>kQ L3 u λl=>ob (atoms l) L3 λk=>F5 (aR kvs k).isSome) (λp=>cInt L3 u λk=>F5 (p.contains k)) (λy y=>L3)
def RD(op:CmpOp)(H:AH)(u x:V):Option Bool:=match op with
 | .In=>Ap H u x| .NotIn=>ob (Ap H u x) L3 λb=>F5 (!b)|_=>L3
def wA(op:CmpOp)(H:AH)(u x:V):Option Bool:=vw (cStr (cInt L3 u λa=>cInt L3 x λb=>Gy op a b) u λa=>cStr L3 x λb=>Kt op a b) x λy=>RD op H u x
def tW(op:Operator)(u x:V):Option V:=cInt L3 u λa=>cInt L3 x λb=>match op with
 | .Add=>F5 (.int (a+b))| .Sub=>F5 (.int (a-b))|_=>L3
def pZ(H:AH)(v:V):Option (List V):=V.casesOn (motive_1:=λy=>Option (List V)) v L3 (λy=>L3) (λy=>L3) (λy=>L3) F5 F5 (λi=>ob (aB H i) L3 λc=>jF L3 c F5)
def atC(H:AH)(a:Nat)(u:V):Option V:=at_ L3 H u λy c=>t8 L3 c λk fl=>Bool.rec (motive:=λy=>Option V) (er fl a) L3 (gK k a)
def Sel(t:Bool)(P P':Prop):Prop:=Bool.rec P' P t
def gJ(o:Option V)(H:AH)(Q:K1):Prop:=ob o False λv=>Q v H
def kJ(v:V)(H:AH)(P:Bool->Prop):Prop:=V.casesOn (motive_1:=λy=>Prop) v (P L0) P (λy=>Tq v H P) (λy=>Tq v H P) (λy=>Tq v H P) (λy=>Tq v H P) (λi=>ob (aB H i) (Tq v H P) λc=>jF (Tq v H P) c λl=>P (!fN l))
def i8(W:Wd)(u x:V)(H:AH)(Q:K1):Prop:=let fb:=Seq (Prim W .sub [u,x] H) Q;V.casesOn (motive_1:=λy=>Prop) u fb (λy=>fb) (λy=>fb) (λy=>fb) (λl=>cInt fb x λj=>Int.rec (motive:=λy=>Prop) (λk=>gJ (aB l k) H Q) (λk=>Nat.rec (motive:=λy=>Prop) (gJ (kW l) H Q) (λy y=>fb) k) j) (λl=>tY fb x λk=>gJ (aB l k) H Q)
 λi=>ob (aB H i) fb λc=>Cell.casesOn (motive:=λy=>Prop) c (λl=>cInt fb x λj=>Int.rec (motive:=λy=>Prop) (λk=>gJ (aB l k) H Q) (λk=>Nat.rec (motive:=λy=>Prop) (gJ (kW l) H Q) (λy y=>fb) k) j)
  (λkvs y=>nR fb x λa=>gJ (aR kvs a) H Q) (λkvs y=>kQ fb x λl=>ob (atoms l) fb λk=>gJ (aR kvs k) H Q) (λy=>fb) (λy y=>fb)
def iM(W:Wd)(op:CmpOp)(u x:V)(H:AH)(Q:K1):Prop:=ob (wA op H u x) (Seq (Prim W (.cmp op) [u,x] H) Q) λv=>Q (.bool v) H
def DC(W:Wd)(op:Operator)(u x:V)(H:AH)(Q:K1):Prop:=ob (tW op u x) (Seq (Prim W (.bin op) [u,x] H) Q) λv=>Q v H
def qC(W:Wd)(f:F1)(u:V)(H:AH)(Q:K1):Prop:=let fb:=Seq (Prim W (.f1 f) [u] H) Q;F1.casesOn (motive:=λy=>Prop) f (ob (pZ H u) fb λl=>Q (.int (l.length:Nat)) H) fb (kQ (ob (pZ H u) fb λl=>Q (.tup l) H) u λy=>fb) fb fb
def u7(W:Wd)(a:Nat)(u:V)(H:AH)(Q:K1):Prop:=ob (atC H a u) (Seq (Prim W (.attr a) [u] H) Q) λv=>Q v H
def DO(W:Wd)(l:List (List Nat))(u:V)(H:AH)(Q:K1):Prop:=cStr (Seq (Prim W (.e5 l) [u] H) Q) u λs=>Q (.bool (Bl s l)) H
def vY(W:Wd)(u:V)(H:AH)(Q:K1):Prop:=kQ (ob (pZ H u) (Seq (Prim W .fY [u] H) Q) λl=>Q (.bool (!fN l)) H) u λy=>Seq (Prim W .fY [u] H) Q
def D4(W:Wd)(o:Op)(vs:List V)(H:AH)(Q:K1):Prop:=let _h:=bZ;match o with
 | .tup=>Sel (Nat.ble (aH vs) aJ) (Q (.tup vs) H) False| .oE=>Q (.obj (aH H)) (app H [.set []])| .sub=>u0 False vs λu x=>i8 W u x H Q| .cmp op=>u0 False vs λu x=>iM W op u x H Q| .bin op=>u0 False vs λu x=>DC W op u x H Q| .f1 f=>ki False vs λu=>qC W f u H Q| .attr a=>ki False vs λu=>u7 W a u H Q| .e5 l=>ki False vs λu=>DO W l u H Q| .fY=>ki False vs λu=>vY W u H Q| .mm=>ki False vs λu=>Q (.bool (we u)) H|o=>Seq (Prim W o vs H) Q
def Io:List (Nat×List (Nat×Nat)):=[(0,[(5929987949,4),(100897158637842290,6),(6013939299,7),(1518042969209,9)]),(5,[(5996636532,19),(29028909779157184358610936885881,20),(101739320438647140,21),(111863565712922486446909386356,22),(1582366286693,23),(28553514230927730767136968502900,24),(1569298080616,25),(1897164968328812631054732654321497203,26),(7410800657534425848493992510123109,27),(1522388266084,28),(109699635645612750339947324787,29),(29425046964601494130652034790515,30),(114941589706983022890938690661,31),(1763479434849757986513260,32),(8327796176364402537107088797765516207285496933,33),(1938966143961158221447987740652889459,34),(6667233722873370993509,35),(1517942301043,36),(7270166046139272155806917352252786,37),(408354559388773,38),(447781419885367196255219558,39),(6722640649202348879732,40),(7391621563157248401458788381389939,41),(28873521731084510004641471294565,42),(443021384642753003221115244,43),(6030319980,44),(390792119415653,45)]),(8,[(101739320438647140,54)]),(9,[(6130328948,59),(1599429832051,60)])]
def Gu:List (Nat×Nat):=[(0,3),(5,18),(6,47),(7,50),(8,51),(9,58)]
def uO(c m:Nat):Option Nat:=ob (er Io c) L3 λl=>er l m
def yw(W:Wd)(m:Nat)(u:V)(H:AH)(P:Nat->Prop):Prop:=let fb:=nH W m u H P;at_ fb H u λy c=>t8 fb c λk fl=>ob (er fl m) (ob (uO k m) fb P) λy=>fb
def lq(m:Mt)(c:Cell):Bool:=Mt.casesOn (motive:=λy=>Bool) m (jF L0 c λy=>F6) (jF L0 c λy=>F6) (jF L0 c λy=>F6) (isSet L0 c λy=>F6) (isSet L0 c λy=>F6) (Cell.casesOn (motive:=λy=>Bool) c (λy=>L0) (λy y=>F6) (λy y=>F6) (λy=>L0) (λy y=>L0)) (Av L0 c λy y=>F6)
def i5(W:Wd)(m:Mt)(u:V)(Q:K1)(vs:List V)(H:AH):Prop:=let fb:=Seq (b9 W m (u::vs) H) Q;at_ fb H u λi c=>Mt.casesOn (motive:=λy=>Prop) m
 (ki fb vs λv=>jF fb c λl=>aw (l.length<aJ) (Q .none (aa H (.lst (l++[v])) i)))
 (Sel (fN vs) (jF fb c λl=>gJ (kW l) (aa H (.lst l.dropLast) i) Q) fb)
 fb
 (ki fb vs λv=>cInt fb v λk=>isSet fb c λp=>aw (p.length<4000) (Q .none (aa H (.set (vh p k)) i)))
 (ki fb vs λv=>cInt fb v λk=>isSet fb c λp=>Q .none (aa H (.set (p.filter (· != k))) i))
 (u0 fb vs λx d=>Cell.casesOn (motive:=λy=>Prop) c (λy=>fb) (λkvs y=>nR fb x λa=>Q ((aR kvs a).getD d) H) (λkvs y=>kQ fb x λl=>ob (atoms l) fb λk=>Q ((aR kvs k).getD d) H) (λy=>fb) (λy y=>fb))
 (ki fb vs λx=>Av fb c λkvs st=>nR fb x λa=>aw (kvs.length<=aJ) (gJ (aR kvs a) (aa H (.dict (pI kvs a) (st+1)) i) Q))
def vF(W:Wd)(u x:V)(H:AH)(Q:K1):Prop:=let fb:=Ex λH'=>aw (mK W u x H H') (Q .none H');at_ fb H u λi c=>jF fb c λl=>kQ fb x λr=>aw (l.length+r.length<=aJ) (Q .none (aa H (.lst (l++r.reverse)) i))
def pH(P P':Prop)(t:Bool):Prop:=let _h:=bZ;Sel t P P'
def TQ(W:Wd)(o:Op)(Q:K1)(vs:List V)(H:AH):Prop:=let _h:=bZ;D4 W o vs H Q
@[irreducible] def Fi(W:Wd)(n:Nat)(f:Nat)(vs:List V)(H:AH)(Q:K1):Prop:=Fn W n f vs H Q
def TG(W:Wd)(n f:Nat)(Q:K1)(vs:List V)(H:AH):Prop:=let _h:=bZ;Fi W n f vs H Q
def TH(W:Wd)(n f:Nat)(u:V)(Q:K1)(vs:List V)(H:AH):Prop:=let _h:=bZ;Fi W n f (u::vs) H Q
def TN(W:Wd)(n:Nat)(u:V)(l:vL)(F:Fa)(H:AH)(Q:K1)(f:Nat):Prop:=let _h:=bZ;l F H (TH W n f u Q)
def kM(W:Wd)(n m:Nat)(l:vL)(F:Fa)(Q:K1)(u:V)(H:AH):Prop:=let _h:=bZ;yw W m u H (TN W n u l F H Q)
def Hr(W:Wd)(m:Mt)(u:V)(Q:K1)(vs:List V)(H:AH):Prop:=let _h:=bZ;i5 W m u Q vs H
def S9(W:Wd)(m:Mt)(l:vL)(F:Fa)(Q:K1)(u:V)(H:AH):Prop:=let _h:=bZ;Sel (at_ L0 H u λy c=>lq m c) (l F H (Hr W m u Q)) (aw (Recv W m u H) (l F H (Hr W m u Q)))
def Ht(W:Wd)(u:V)(Q:K1)(x:V)(H:AH):Prop:=let _h:=bZ;vF W u x H Q
def Th(W:Wd)(a:ET)(F:Fa)(Q:K1)(u:V)(H:AH):Prop:=let _h:=bZ;Sel (at_ L0 H u λy c=>jF L0 c λy=>F6) (a F H (Ht W u Q)) (aw (ow W u H) (a F H (Ht W u Q)))
def Hq(i:Nat)(Q:K1)(r:V)(H:AH):Prop:=aw (r=.none) (Q (.obj i) H)
def Ho(W:Wd)(n c:Nat)(Q:K1)(vs:List V)(H:AH):Prop:=let _h:=bZ;ob (er Gu c) (qV W n c vs H Q) λf=>Fi W n f (.obj (aH H)::vs) (app H [.inst c []]) (Hq (aH H) Q)
def S7(b:ET)(F:Fa)(Q:K1)(v:V)(H:AH):Prop:=let _h:=bZ;kJ v H (pH (b F H Q) (cBool (Q v H) v λy=>Q (.bool L0) H))
def TS(b:ET)(F:Fa)(Q:K1)(v:V)(H:AH):Prop:=let _h:=bZ;kJ v H (pH (cBool (Q v H) v λy=>Q (.bool F6) H) (b F H Q))
def TP(H:AH)(Q:K1)(t:Bool):Prop:=let _h:=bZ;Q (.bool (!t)) H
def TO(Q:K1)(v:V)(H:AH):Prop:=let _h:=bZ;kJ v H (TP H Q)
def TL(a b:ET)(F:Fa)(Q:K1)(v:V)(H:AH):Prop:=let _h:=bZ;kJ v H (pH (a F H Q) (b F H Q))
def Hl(w:V)(Q:gW)(ws:List V)(H:AH):Prop:=let _h:=bZ;Q (w::ws) H
def kC(m:AH->gW->Prop)(Q:gW)(w:V)(H:AH):Prop:=let _h:=bZ;m H (Hl w Q)
def dm(F:Fa)(x:Nat)(v:V):Fa:=aa F (F5 v) x
def qB(el:ET)(x:Nat)(F:Fa)(l:List V):AH->gW->Prop:=List.rec (motive:=λy=>AH->gW->Prop) (λH Q=>Q [] H) (λv y ih H Q=>el (dm F x v) H (kC ih Q)) l
def qA(C:AH->Prop)(el:ET)(x:Nat)(F:Fa)(l:List V):AH->gW->Prop:=List.rec (motive:=λy=>AH->gW->Prop) (λH Q=>aw (C H) (Q [] H)) (λv y ih H Q=>aw (C H) (el (dm F x v) H (kC ih Q))) l
def uB(Q:K1)(ws:List V)(H:AH):Prop:=let _h:=bZ;oh ws H Q
def TA(el:ET)(x:Nat)(F:Fa)(H:AH)(Q:K1)(C:AH->Prop)(l:List V):Prop:=let _h:=bZ;aw (l.length<=aJ) (qA C el x F l H (uB Q))
def BD(el:ET)(x:Nat)(F:Fa)(Q:K1)(src:V)(H:AH):Prop:=let _h:=bZ;zh (sr src H (TA el x F H Q)) src λl=>aw (l.length<=aJ) (qB el x F l H (uB Q))
def TF(el:ET)(x:Nat)(F:Fa)(Q:K1)(v:V)(H:AH):Prop:=let _h:=bZ;tY False v λk=>aw (k<=aJ) (qB el x F (jj k) H (uB Q))
def kL(m:vL)(F:Fa)(Q:gW)(u:V)(H:AH):Prop:=let _h:=bZ;m F H (Hl u Q)
mutual
noncomputable def bI(W:Wd)(n:Nat):IE->Fa->AH->K1->Prop
 | .const v,_,H,Q=>Q v H| .var x,F,H,Q=>gJ (ob (aB F x) L3 id) H Q| .op o es,F,H,Q=>oU W n es F H (TQ W o Q)| .call f es,F,H,Q=>oU W n es F H (TG W n f Q)| .ak e m es,F,H,Q=>bI W n e F H (kM W n m (oU W n es) F Q)| .bm m e es,F,H,Q=>bI W n e F H (S9 W m (oU W n es) F Q)| .jD e a,F,H,Q=>bI W n e F H (Th W (bI W n a) F Q)| .new c es,F,H,Q=>oU W n es F H (Ho W n c Q)| .and a b,F,H,Q=>bI W n a F H (S7 (bI W n b) F Q)| .or a b,F,H,Q=>bI W n a F H (TS (bI W n b) F Q)| .not a,F,H,Q=>bI W n a F H (TO Q)| .ite c a b,F,H,Q=>bI W n c F H (TL (bI W n a) (bI W n b) F Q)| .comp e x it,F,H,Q=>bI W n it F H (BD (bI W n e) x F Q)| .gL e x m,F,H,Q=>bI W n m F H (TF (bI W n e) x F Q)
noncomputable def oU(W:Wd)(n:Nat):fC->Fa->AH->gW->Prop
 | .nil,_,H,Q=>Q [] H| .cons e es,F,H,Q=>bI W n e F H (kL (oU W n es) F Q)
end
def lQ(b:BT)(Q:K2)(fl:Fl)(F:Fa)(H:AH):Prop:=let _h:=bZ;Fl.casesOn (motive:=λy=>Prop) fl (b F H Q) (Q .brk F H) (Q .cnt F H) (λv=>Q (.ret v) F H)
def gQ(w:BT)(Q:K2)(fl:Fl)(F:Fa)(H:AH):Prop:=let _h:=bZ;Fl.casesOn (motive:=λy=>Prop) fl (w F H Q) (Q .aK F H) (w F H Q) (λv=>Q (.ret v) F H)
def gq(P:K1)(fl:Fl)(F:Fa)(H:AH):Prop:=let _h:=bZ;Fl.casesOn (motive:=λy=>Prop) fl (P .none H) False False (λv=>P v H)
def wo(b w:BT)(F:Fa)(Q:K2)(v:V)(H:AH):Prop:=let _h:=bZ;kJ v H (pH (b F H (gQ w Q)) (Q .aK F H))
def gZ(c:ET)(b:BT)(k:Nat):BT:=Nat.rec (motive:=λy=>BT) (λy y y=>False) (λy ih F H Q=>c F H (wo b ih F Q)) k
def dA(x:Nat)(b:BT)(l:List V):BT:=List.rec (motive:=λy=>BT) (λF H Q=>Q .aK F H) (λv y ih F H Q=>b (dm F x v) H (gQ ih Q)) l
def fh(C:AH->Prop)(x:Nat)(b:BT)(l:List V):BT:=List.rec (motive:=λy=>BT) (λF H Q=>aw (C H) (Q .aK F H)) (λv y ih F H Q=>aw (C H) (b (dm F x v) H (gQ ih Q))) l
def Hk(x:Nat)(F:Fa)(Q:K2)(v:V)(H:AH):Prop:=let _h:=bZ;Q .aK (dm F x v) H
def KZ(F:Fa)(xs:List Nat):List V->Option Fa:=List.rec (motive:=λy=>Fa->List V->Option Fa) (λF vs=>List.rec (motive:=λy=>Option Fa) (F5 F) (λy y y=>L3) vs) (λx y ih F vs=>List.rec (motive:=λy=>Option Fa) L3 (λv vs y=>ih (dm F x v) vs) vs) xs F
def Tg(xs:List Nat)(F:Fa)(Q:K2)(v:V)(H:AH):Prop:=let _h:=bZ;kQ False v λl=>ob (KZ F xs l) False λF=>Q .aK F H
def Td(x y:Nat)(u:V)(F:Fa)(Q:K2)(w:V)(H:AH):Prop:=let _h:=bZ;Q .aK (dm (dm F y w) x u) H
def Tc(x y:Nat)(b:ET)(F:Fa)(Q:K2)(u:V)(H:AH):Prop:=let _h:=bZ;b F H (Td x y u F Q)
def mM(W:Wd)(u x v:V)(F:Fa)(H:AH)(Q:K2):Prop:=let fb:=Ex λH'=>aw (hO W u x v H H') (Q .aK F H');at_ fb H u λi c=>Cell.casesOn (motive:=λy=>Prop) c (λl=>tY fb x λk=>aw (k<l.length) (Q .aK F (aa H (.lst (l.set k v)) i)))
 (λkvs st=>nR fb x λa=>aw (kvs.length<=aJ) (Q .aK F (aa H (.dict (bS kvs a v) (st+1)) i))) (λkvs st=>kQ fb x λl=>ob (atoms l) fb λk=>aw (kvs.length<=aJ) (Q .aK F (aa H (.aX (bS kvs k v) (st+1)) i))) (λy=>fb) (λy y=>fb)
def Tb(W:Wd)(v u:V)(F:Fa)(Q:K2)(x:V)(H:AH):Prop:=let _h:=bZ;mM W u x v F H Q
def Ta(W:Wd)(v:V)(i:ET)(F:Fa)(Q:K2)(u:V)(H:AH):Prop:=let _h:=bZ;i F H (Tb W v u F Q)
def TZ(W:Wd)(a i:ET)(F:Fa)(Q:K2)(v:V)(H:AH):Prop:=let _h:=bZ;a F H (Ta W v i F Q)
def qb(a:Nat)(u v:V)(F:Fa)(H:AH)(Q:K2):Prop:=let fb:=Ex λH'=>aw (i7 a H v u H') (Q .aK F H');at_ fb H u λi c=>t8 fb c λk fl=>Sel (gK k a) fb (Sel (Nat.ble (aH fl) 800) (Q .aK F (aa H (.inst k (rE fl a v)) i)) fb)
def TX(a:Nat)(v:V)(F:Fa)(Q:K2)(u:V)(H:AH):Prop:=let _h:=bZ;qb a u v F H Q
def TV(o:ET)(a:Nat)(F:Fa)(Q:K2)(v:V)(H:AH):Prop:=let _h:=bZ;o F H (TX a v F Q)
def isAdd(op:Operator):Bool:=Operator.casesOn (motive:=λy=>Bool) op F6 L0 L0 L0 L0 L0 L0 L0 L0 L0 L0 L0 L0
def sY(op:Operator)(u:V)(H:AH)(w:V)(Q:K1):Prop:=let fb:=nA op u H w Q;vw (ob (tW op u w) fb λv=>Q v H) u λi=>ob (aB H i) fb λc=>jF fb c λl=>kQ (Sel (isAdd op) (ob (pZ H w) fb λr=>aw (l.length+r.length<=aJ) (Q u (aa H (.lst (l++r)) i))) fb) w λy=>fb
def S8(op:Operator)(x:Nat)(u:V)(F:Fa)(Q:K2)(w:V)(H:AH):Prop:=let _h:=bZ;sY op u H w (Hk x F Q)
def Hj(a:Nat)(op:Operator)(u v:V)(F:Fa)(Q:K2)(w:V)(H:AH):Prop:=let _h:=bZ;ob (tW op v w) False λr=>qb a u r F H Q
def BC(a:Nat)(op:Operator)(e:ET)(F:Fa)(Q:K2)(u:V)(H:AH):Prop:=let _h:=bZ;ob (atC H a u) False λv=>e F H (Hj a op u v F Q)
def kEx(F:Fa)(Q:K2)(v:V)(H:AH):Prop:=let _h:=bZ;Q .aK F H
def TU(F:Fa)(Q:K2)(v:V)(H:AH):Prop:=let _h:=bZ;Q (.ret v) F H
def Hn(a b:BT)(F:Fa)(Q:K2)(v:V)(H:AH):Prop:=let _h:=bZ;kJ v H (pH (a F H Q) (b F H Q))
def Hm(x:Nat)(b:BT)(F:Fa)(H:AH)(Q:K2)(C:AH->Prop)(l:List V):Prop:=let _h:=bZ;fh C x b l F H Q
def TJ(x:Nat)(b:BT)(F:Fa)(Q:K2)(v:V)(H:AH):Prop:=let _h:=bZ;zh (sr v H (Hm x b F H Q)) v λl=>dA x b l F H Q
def TK(x:Nat)(b:BT)(F:Fa)(Q:K2)(v:V)(H:AH):Prop:=let _h:=bZ;tY False v λk=>aw (k<=aJ) (dA x b (jj k) F H Q)
mutual
noncomputable def yZ(W:Wd)(n:Nat):IS->Fa->AH->K2->Prop
 | .asg x e,F,H,Q=>bI W n e F H (Hk x F Q)| .gf xs e,F,H,Q=>bI W n e F H (Tg xs F Q)| .swap x y a b,F,H,Q=>bI W n a F H (Tc x y (bI W n b) F Q)| .cB a i e,F,H,Q=>bI W n e F H (TZ W (bI W n a) (bI W n i) F Q)| .setAttr o a e,F,H,Q=>bI W n e F H (TV (bI W n o) a F Q)| .aug x op e,F,H,Q=>ob (ob (aB F x) L3 id) False λu=>bI W n e F H (S8 op x u F Q)| .lI t a op e,F,H,Q=>bI W n t F H (BC a op (bI W n e) F Q)| .expr e,F,H,Q=>bI W n e F H (kEx F Q)| .ite c a b,F,H,Q=>bI W n c F H (Hn (aO W n a) (aO W n b) F Q)| .eU c b,F,H,Q=>Ex λk=>gZ (bI W n c) (aO W n b) k F H Q| .forIn x e b,F,H,Q=>bI W n e F H (TJ x (aO W n b) F Q)| .forR x m b,F,H,Q=>bI W n m F H (TK x (aO W n b) F Q)| .ret e,F,H,Q=>bI W n e F H (TU F Q)| .cont,F,H,Q=>Q .cnt F H| .pass,F,H,Q=>Q .aK F H
noncomputable def aO(W:Wd)(n:Nat):aL->Fa->AH->K2->Prop
 | .nil,F,H,Q=>Q .aK F H| .cons s ss,F,H,Q=>yZ W n s F H (lQ (aO W n ss) Q)
end
end
def ah{l:List α}:∀{k:Nat},aB l k=l[k]?:=by
 induction l with
 |nil=>exact rfl|cons x l ih=>
  intro k
  cases k with
  |zero=>rfl|succ k=>exact ih
def dO{l:List α}{v:α}:∀{k:Nat},aa l v k=l.set k v:=by
 induction l with
 |nil=>exact rfl|cons x l ih=>
  intro k
  cases k with
  |zero=>rfl|succ k=>exact aF _ ih
def cQ{l r:List α}:app l r=l++r:=by
 induction l with
 |nil=>rfl|cons x l ih=>exact aF _ ih
def rW{l:List α}:fN l=l.isEmpty:=by cases l<;>rfl
def cY{l:List α}:aH l=l.length:=by
 induction l with
 |nil=>rfl|cons x l ih=>exact aF Nat.succ ih
def Fu{l:List (Nat×α)}:er l a=aR l a:=by
 induction l with
 |nil=>rfl|cons p l ih=>
  show Bool.rec (motive:=λy=>Option α) (er l a) (F5 p.2) (Nat.beq p.1 a)=_;unfold aR;rw[vO]
  cases e:Nat.beq p.1 a with
  |true=>rw[bE (vT e)];rfl|false=>rw[bC λq=>(y7 e) q];exact ih
def Qq{l:List (Nat×α)}:Am l a=l.any λp=>decide (p.1=a):=by
 induction l with
 |nil=>rfl|cons p l ih=>
  show Bool.rec (motive:=λy=>Bool) (Am l a) F6 (Nat.beq p.1 a)=_;rw[qG,<-ih]
  cases e:Nat.beq p.1 a with
  |true=>rw[bE (vT e),Bool.true_or]|false=>rw[bC (y7 e),Bool.false_or]
def Vb{l:List (Nat×α)}{v:α}:Bi l a v=l.map λp=>if p.1=a then(p.1,v) else p:=by
 induction l with
 |nil=>rfl|cons p l ih=>
  show Bool.rec (motive:=λy=>Nat×α) p (p.1,v) (Nat.beq p.1 a)::Bi l a v=_;rw[cV,<-ih]
  cases e:Nat.beq p.1 a with
  |true=>rw[aI (vT e)]|false=>rw[aD (y7 e)]
def O3{l:List (Nat×α)}{v:α}:rE l a v=bS l a v:=by
 unfold rE bS;rw[Qq,Vb,cQ];cases l.any _<;>rfl
def AO{l:List (Nat×α)}{v:α}(h:er l a=F5 v):(a,v)∈l:=by
 induction l with
 |nil=>cases h|cons p l ih=>
  have h:Bool.rec (motive:=λy=>Option α) (er l a) (F5 p.2) (Nat.beq p.1 a)=F5 v:=h
  cases e:Nat.beq p.1 a with
  |true=>rw[e] at h;cases h;rw[<-vT e];exact .head _|false=>rw[e] at h;exact .tail _ (ih h)
theorem AJ:∀{a b:List Nat},eD a b=decide (a=b)
 | [],[]=>rfl| [],_::_=>rfl|_::_,[]=>rfl|x::a,y::b=>by
  show Bool.rec (motive:=λz=>Bool) L0 (eD a b) (Nat.beq x y)=_
  cases e:Nat.beq x y with
  |true=>rw[vT e];exact(AJ (a:=a)).trans (nS.mpr ⟨λq=>q▸rfl,λq=>(qH q).2⟩)|false=>exact(bC λq=>y7 e (qH q).1).symm
def Vi{s:List Nat}{l:List (List Nat)}:Bl s l=l.contains s:=by
 induction l with
 |nil=>rfl|cons x l ih=>
  show Bool.rec (motive:=λy=>Bool) (Bl s l) F6 (eD s x)=_;rw[DV,AJ,<-ih];rw[show decide (s=x)=(s == x) from oS.mpr (by rw[AB,eB])]
  cases s == x<;>rfl
def Bs{k:Nat}:jj k=jL k:=by
 induction k with
 |zero=>rfl|succ k ih=>
  show app (jj k) [.int (k:Int)]=_;rw[cQ,ih];unfold jL;rw[List.range_succ,b8];rfl
def Yz(h:1<=n):seqIndex? (-1) n=F5 (n-1):=by
 unfold seqIndex?;have e:(if (-1:Int)<0 then -1+(n:Int) else -1)=-1+(n:Int):=rfl
 rw[e]
 dsimp only
 rw[aI (by rw[d5,nT,nT,Int.add_comm];exact⟨Int.sub_nonneg_of_le (mC.mpr h),Int.sub_lt_self _ (show(0:Int)<1 by decide)⟩),Iy h]
section
open PySem.Calls PyProof.Rows in
def eO.aAE{l:List V}(e:l.getLast?=F5 v):eO W (.tup l) (.int (-1)) H v:=λ{y A s y y y R} K hu hx c=>
 hx.b7 (P:=λcx=>cU W A s _ (getItem _ cx) R) λy=>hu.gS (P:=λcu=>cU W A s cu (getItem cu _) R) λy y nf x z r=>
  let ⟨⟨e',hv⟩⟩:=r.get (vR.symm.trans e)
  have h1:=Dz (bp (ba _) (pP e'))
  ⟨LQ x,zG.lookup,getItem_tuple x.is ⋯ ⋯ (Yz (by rw[bQ];exact h1)) (by rw[bQ,mD];exact r.length▸e') (c.here K.N hv)⟩
end
def w7{l:List α}:kW l=l.getLast?:=by
 induction l with
 |nil=>rfl|cons x l ih=>
  show ob (kW l) (F5 x) F5=_;rw[ih,List.getLast?_cons];cases l.getLast?<;>rfl
variable{c:Cell}{R:Prop}
section
variable{d:β}(P:β->Prop)
theorem dh{β:Sort _}{d:β}(P:β->Prop){o:Option α}{f:α->β}(q:P (ob o d f))(k:∀a,o=F5 a->P (f a)->R)(k':P d->R):R:=by
 cases o with
 |none=>exact k' q|some a=>exact k a rfl q
def sL{f:List V->β}(q:P (kQ d v f))(k:∀l,v=.tup l->P (f l)->R)(k':P d->R):R:=by cases v<;>first|exact k _ rfl q|exact k' q
def lO{f:Int->β}(q:P (cInt d v f))(k:∀l,v=.int l->P (f l)->R)(k':P d->R):R:=by cases v<;>first|exact k _ rfl q|exact k' q
def Cp{f:List Nat->β}(q:P (cStr d v f))(k:∀l,v=.str l->P (f l)->R)(k':P d->R):R:=by cases v<;>first|exact k _ rfl q|exact k' q
def CC{f:Nat->β}(q:P (vw d v f))(k:∀l,v=.obj l->P (f l)->R)(k':P d->R):R:=by cases v<;>first|exact k _ rfl q|exact k' q
def xN{f:Nat->β}(q:P (tY d v f))(k:∀l:Nat,v=.int l->P (f l)->R)(k':P d->R):R:=lO P q (λi e q=>by cases i<;>first|exact k _ e q|exact k' q) k'
def qk{f:Atom->β}(q:P (nR d v f))(k:∀a,v=cN a->P (f a)->R)(k':P d->R):R:=by
 cases v with
 |int i=>exact k (.int i) rfl q|str i=>exact k (.str i) rfl q|_=>exact k' q
def lZ{f:V->β}(q:P (ki d vs f))(k:∀u,vs=[u]->P (f u)->R)(k':P d->R):R:=by
 cases vs with
 |nil=>exact k' q|cons u l=>cases l with
  |nil=>exact k u rfl q|cons=>exact k' q
def yI{f:V->V->β}(q:P (u0 d vs f))(k:∀u x,vs=[u,x]->P (f u x)->R)(k':P d->R):R:=by
 cases vs with
 |nil=>exact k' q|cons u l=>exact lZ P (f:=f u) (vs:=l) q (λx e q=>k u x (e▸rfl) q) k'
def pO{f:List V->β}(q:P (jF d c f))(k:∀l,c=.lst l->P (f l)->R)(k':P d->R):R:=by cases c<;>first|exact k _ rfl q|exact k' q
def Nr{f:List (Atom×V)->Nat->β}(q:P (Av d c f))(k:∀l s,c=.dict l s->P (f l s)->R)(k':P d->R):R:=by cases c<;>first|exact k _ _ rfl q|exact k' q
def Ke{f:List Int->β}(q:P (isSet d c f))(k:∀l,c=.set l->P (f l)->R)(k':P d->R):R:=by cases c<;>first|exact k _ rfl q|exact k' q
def As{f:Nat->List (Nat×V)->β}(q:P (t8 d c f))(k:∀l s,c=.inst l s->P (f l s)->R)(k':P d->R):R:=by cases c<;>first|exact k _ _ rfl q|exact k' q
def Ny{f:List (Atom×V)->Nat->β}{g:List (List Atom×V)->Nat->β}(q:P (Cell.casesOn (motive:=λy=>β) c (λy=>d) f g (λy=>d) (λy y=>d)))(k:∀l s,c=.dict l s->P (f l s)->R)(k2:∀l s,c=.aX l s->P (g l s)->R)(k':P d->R):R:=by cases c<;>first|exact k _ _ rfl q|exact k2 _ _ rfl q|exact k' q
def mR{f:Nat->Cell->β}(q:P (at_ d H v f))(k:∀i c,v=.obj i->H[i]?=F5 c->P (f i c)->R)(k':P d->R):R:=CC P q (λi e q=>dh P q (λc h q=>k i c e (ah▸h) q) k') k'
end
theorem tS:∀{l:List V} {r:List Atom},atoms l=F5 r->l=r.map cN
 | [],r=>λh=>by cases h;rfl|x::l,r=>λh=>by
  have h:nR L3 x (λa=>ob (atoms l) L3 λr=>F5 (a::r))=F5 r:=h;exact qk (·=F5 r) h (λa e h=>dh (·=F5 r) h (λq hq h=>by cases h;rw[e,tS hq];rfl) λh=>ai h) λh=>ai h
variable{o:Option V}{t:Bool}{R':Prop}{m st:Nat}{l ws:List V}{kvs:List (Atom×V)}
section
variable{Q:V->AH->Prop}
def Seq.to{P:V->AH->Prop}(s:Seq P Q)(k:∀v H,Q v H->Q' v H):Seq P Q':=s.casesOn λp q=>⟨p,k _ _ q⟩
def l6(q:gJ o H Q)(k:∀v,o=F5 v->Q v H->R):R:=by
 cases o with
 |none=>exact q.elim|some v=>exact k v rfl q
def Zd(q:i8 W u x H Q)(k:∀v H,Q v H->Q' v H):Seq (Prim W .sub [u,x] H) Q':=by
 have fb:Seq (Prim W .sub [u,x] H) Q->Seq (Prim W .sub [u,x] H) Q':=λq=>Seq.to q k
 cases u with
 |tup l=>exact lO (β:=Prop) id q (λj e q=>by
    cases j with
    |ofNat j=>exact l6 q λv h q=>e▸pY (eO.tup (ah▸h)) (k _ _ q)|negSucc j=>cases j with
     |zero=>exact l6 q λv h q=>e▸pY (eO.aAE (w7▸h)) (k _ _ q)|succ=>exact fb q) fb
 |lst l=>exact xN id (f:=λk=>gJ (aB l k) H Q) q (λj e q=>l6 q λv h q=>e▸pY (eO.lst (ah▸h)) (k _ _ q)) fb|obj i=>
  refine dh (β:=Prop) id q (λc hc q=>?_) fb;rw[ah] at hc
  cases c with
  |lst l=>exact lO (β:=Prop) id q (λj e q=>by
    cases j with
    |ofNat j=>exact l6 q λv h q=>e▸pY (eO.cell hc (ah▸h)) (k _ _ q)|negSucc j=>cases j with
     |zero=>exact l6 q λv h q=>e▸pY (eO.last hc (w7▸h)) (k _ _ q)|succ=>exact fb q) fb
  |dict kvs st=>exact qk (β:=Prop) id q (λa e q=>l6 q λv h q=>e▸pY (eO.dict hc h) (k _ _ q)) fb|aX kvs st=>exact sL (β:=Prop) id q (λl e q=>dh (β:=Prop) id q (λa h q=>l6 q λv h' q=>e▸tS h▸pY (eO.aX hc h') (k _ _ q)) fb) fb|_=>exact fb q
 |_=>exact fb q
def ZW{a b:List Nat}(h:Kt op a b=F5 t):P2 W (.str a) (.bool t) (.str b) H H (compareOp op):=by
 cases op<;>first|exact ai h|(rw[<-ay h,AJ];first|exact nJ.str|exact kG.str)
def RV{a b:Int}(h:Gy op a b=F5 t):P2 W (.int a) (.bool t) (.int b) H H (compareOp op):=by
 cases op<;>first|exact ai h|(rw[<-ay h];first|exact nJ.int|exact kG.int|exact Lz.int|exact Ly.int|exact Lx.int|exact Lw.int)
def Gq(h:Ap H u x=F5 t):P2 W u (.bool t) x H H (compareOp .In)/\P2 W u (.bool (!t)) x H H (compareOp .NotIn):=by
 refine mR (·=F5 t) h (λi c e hc h=>?_) λh=>ai h;subst e
 cases c with
 |dict kvs st=>exact qk (·=F5 t) h (λa e h=>by rw[e,<-ay h];exact⟨tH.dict hc,oo.dict hc⟩) λh=>ai h|aX kvs st=>exact sL (·=F5 t) h (λl e h=>dh (·=F5 t) h (λa ha h=>by rw[e,<-ay h,tS ha];exact⟨tH.aX hc,oo.aX hc⟩) λh=>ai h) λh=>ai h|set p=>exact lO (·=F5 t) h (λa e h=>by rw[e,<-ay h];exact⟨tH.set hc,oo.set hc⟩) λh=>ai h|_=>exact ai h
def Nb(h:wA op H u x=F5 t):P2 W u (.bool t) x H H (compareOp op):=by
 refine CC (·=F5 t) h (λi e h=>?_) λh=>?_
 .cases op with
  |In=>exact(Gq h).1|NotIn=>exact dh (·=F5 t) h (λb hb h=>ay h▸(Gq hb).2) λh=>ai h|_=>exact ai h
 .exact Cp (·=F5 t) h (λa e h=>Cp (·=F5 t) h (λb e' h=>e▸e'▸ZW h) λh=>ai h) λh=>lO (·=F5 t) h (λa e h=>lO (·=F5 t) h (λb e' h=>e▸e'▸RV h) λh=>ai h) λh=>ai h
def Nd(q:iM W op u x H Q)(k:∀v H,Q v H->Q' v H):Seq (Prim W (.cmp op) [u,x] H) Q':=
 dh id q (λy h q=>mn (Nb h) (k _ _ q)) λq=>Seq.to q k
def zV{op:Operator}(h:tW op u x=F5 v):∃a b,u=.int a/\x=.int b/\((op=.Add/\v=.int (a+b))\/(op=.Sub/\v=.int (a-b))):=
 lO (·=F5 v) h (λa e h=>lO (·=F5 v) h (λb e' h=>⟨a,b,e,e',by cases op<;>first|exact ai h|exact .inl ⟨rfl,(ay h).symm⟩|exact .inr ⟨rfl,(ay h).symm⟩⟩) λh=>ai h) λh=>ai h
def Mw{op:Operator}(q:DC W op u x H Q)(k:∀v H,Q v H->Q' v H):Seq (Prim W (.bin op) [u,x] H) Q':=
 dh id q (λv h q=>by
  obtain⟨a,b,rfl,rfl,⟨rfl,rfl⟩|⟨rfl,rfl⟩⟩:=zV h
  .exact fP mJ.int (k _ _ q)
  .exact fP L5.int (k _ _ q)) λq=>Seq.to q k
def xr{l:List V}(h:pZ H u=F5 l):u=.tup l\/IsL H l u:=by
 cases u with
 |tup l'=>cases h;exact .inl rfl|lst l'=>cases h;exact .inr .val|obj i=>exact dh (·=F5 l) h (λc hc h=>pO (·=F5 l) h (λl' e h=>by cases h;exact .inr (.cell (e▸ah▸hc))) λh=>ai h) λh=>ai h|_=>exact ai h
def OY{f:F1}(q:qC W f u H Q)(k:∀v H,Q v H->Q' v H):Seq (Prim W (.f1 f) [u] H) Q':=by
 cases f with
 |len=>exact dh id q (λl h q=>(xr h).elim (λe=>e▸gx qX.tup (k _ _ q)) λe=>gx (qX.lst e) (k _ _ q)) λq=>Seq.to q k|tuple=>
  have g:ob (pZ H u) (Seq (Prim W (.f1 .tuple) [u] H) Q) (λl=>Q (.tup l) H)->(∀l,u≠.tup l)->Seq (Prim W (.f1 .tuple) [u] H) Q':=λq n=>dh id q (λl h q=>(xr h).elim (λe=>absurd e (n l)) λe=>gx (L8.lst e) (k _ _ q)) λq=>Seq.to q k
  cases u with
  |tup l=>exact Seq.to q k|_=>exact g q nofun
 |_=>exact Seq.to q k
def NW{P:Option V->Prop}(q:P (Bool.rec (motive:=λy=>Option V) o L3 b))(k:b=L0->P o->R)(k':P L3->R):R:=by
 cases b with
 |true=>exact k' q|false=>exact k rfl q
def EY(h:atC H a u=F5 v):∃i c fl,u=.obj i/\H[i]?=F5 (.inst c fl)/\gK c a=L0/\aR fl a=F5 v:=
 mR (·=F5 v) h (λi c e hc h=>As (·=F5 v) h (λk fl e' h=>NW (P:=(·=F5 v)) h (λe2 h=>⟨i,k,fl,e,e'▸hc,e2,Fu▸h⟩) λh=>ai h) λh=>ai h) λh=>ai h
def Mj(q:u7 W a u H Q)(k:∀v H,Q v H->Q' v H):Seq (Prim W (.attr a) [u] H) Q':=
 dh id q (λv h q2=>by obtain⟨i,c,fl,e1,hc,e,g⟩:=EY h;exact e1▸Yn hc e g (k _ _ q2)) λq=>Seq.to q k
def RO{l:List (List Nat)}(q:DO W l u H Q)(k:∀v H,Q v H->Q' v H):Seq (Prim W (.e5 l) [u] H) Q':=
 Cp (β:=Prop) id q (λs e q=>e▸Yp (k _ _ (Vi▸q))) λq=>Seq.to q k
def V7(q:vY W u H Q)(k:∀v H,Q v H->Q' v H):Seq (Prim W .fY [u] H) Q':=by
 have g:ob (pZ H u) (Seq (Prim W .fY [u] H) Q) (λl=>Q (.bool (!fN l)) H)->(∀l,u≠.tup l)->Seq (Prim W .fY [u] H) Q':=λq n=>dh id q (λl h q=>(xr h).elim (λe=>absurd e (n l)) λe=>Yq e (k _ _ (rW▸q))) λq=>Seq.to q k
 cases u with
 |tup l=>exact Seq.to q k|_=>exact g q nofun
def Xn{o:Op}(q:D4 W o vs H Q)(k:∀v H,Q v H->Q' v H):Seq (Prim W o vs H) Q':=by
 cases o with
 |tup=>
  have q:Sel (Nat.ble (aH vs) aJ) (Q (.tup vs) H) False:=q;unfold Sel at q;rw[cY] at q
  cases e:Nat.ble vs.length aJ with
  |false=>rw[e] at q;exact q.elim|true=>rw[e] at q;exact Yv (Dv e) (k _ _ q)
 |oE=>
  have q2:Q (.obj (aH H)) (app H [.set []]):=q;rw[cY,cQ] at q2;exact⟨(show P0 W H _ _ _ from L6.new),k _ _ q2⟩
 |sub=>exact yI (β:=Prop) id q (λu x e q=>e▸Zd q k) False.elim|cmp op=>exact yI (β:=Prop) id q (λu x e q=>e▸Nd q k) False.elim|bin op=>exact yI (β:=Prop) id q (λu x e q=>e▸Mw q k) False.elim|f1 f=>exact lZ (β:=Prop) id q (λu e q=>e▸OY q k) False.elim|attr a=>exact lZ (β:=Prop) id q (λu e q=>e▸Mj q k) False.elim|e5 l=>exact lZ (β:=Prop) id q (λu e q=>e▸RO q k) False.elim|fY=>exact lZ (β:=Prop) id q (λu e q=>e▸V7 q k) False.elim|mm=>exact lZ (β:=Prop) id q (λu e q=>e▸Ys (k _ _ q)) False.elim|_=>exact Seq.to q k
def sH{P P':Bool->Prop}(q:kJ v H P)(k:∀t,P t->P' t):Tq v H P':=by
 have fb:Tq v H P->Tq v H P':=λq=>q.casesOn λh p=>⟨h,k _ p⟩
 cases v with
 |none=>exact⟨.none rfl,k _ q⟩|bool b=>exact⟨.bool rfl,k _ q⟩|obj i=>exact dh (β:=Prop) id q (λc hc q=>pO (β:=Prop) id q (λl e q=>⟨.lst (e▸ah▸hc) rfl,k _ (rW▸q)⟩) fb) fb|_=>exact fb q
def ud{P:Prop}(q:Sel t P P')(k:P->R)(k':P'->R'):(if t=F6 then R else R'):=by
 cases t with
 |true=>exact if1 rfl (k q)|false=>exact An rfl (k' q)
def ue{P:Prop}(q:Sel t P P')(k:t=F6->P->R)(k':P'->R):R:=by
 cases t with
 |true=>exact k rfl q|false=>exact k' q
def Vw:Io.all (λe=>e.2.all λx=>decide (tT.pQ e.1 x.1=F5 x.2))=F6:=by kernel_rfl
def RG:Gu.all (λe=>decide (tT.init e.1=F5 e.2))=F6:=by kernel_rfl
def Vx{c f:Nat}(h:uO c m=F5 f):tT.pQ c m=F5 f:=
 dh (·=F5 f) h (λl hl h=>dG (d7.mp (d7.mp Vw _ (AO hl)) _ (AO h))) λh=>ai h
def Vm(pr:a9 W){P P':Nat->Prop}(q:yw W m u H P)(k:∀f,P f->P' f):nH W m u H P':=by
 have fb:nH W m u H P->nH W m u H P':=λq=>q.casesOn λa b c d p=>⟨a,b,c,d,k _ p⟩;refine mR (β:=Prop) id q (λi c e hc q=>As (β:=Prop) id q (λl fl e' q=>?_) fb) fb;have q:ob (er fl m) (ob (uO l m) (nH W m u H P) P) (λy=>nH W m u H P):=q
 cases g:er fl m with
 |some=>rw[g] at q;exact fb q|none=>
  rw[g] at q;exact dh (β:=Prop) id q (λf hf q=>⟨e,e'▸hc,pr.T▸Vx hf,Fu▸g,k _ q⟩) fb
def YU{m:Mt}(h:at_ L0 H u (λy c=>lq m c)=F6):Recv W m u H:=by
 refine mR (·=F6) h (λi c e hc h=>?_) nofun;subst e;cases m<;>cases c<;>first|exact(az h).elim|exact Recv.append hc|exact Recv.pop hc|exact Recv.insert hc|exact Recv.add hc|exact Recv.discard hc|exact Recv.get hc|exact Recv.Cv hc|exact Recv.gM hc
section
variable{k:Int}{p:List Int}{a:Atom}{ks:List Atom}{kv2:List (List Atom×V)}(e:u=.obj i)(hc:H[i]?=F5 c)
include e hc
def Xc(e1:vs=[v])(e2:c=.lst l)(z:l.length<aJ):b9 W .append (u::vs) H .none (H.set i (.lst (l++[v]))):=by rw[e,e1];exact b9.append (e2▸hc) (by rw[a8];exact z)
def Xg(e1:fN vs=F6)(e2:c=.lst l)(h:kW l=F5 v):b9 W .pop (u::vs) H v (H.set i (.lst l.dropLast)):=by
 rw[e,show vs=[] by cases vs with|nil=>rfl|cons=>exact(az e1).elim]
 exact b9.pop (e2▸hc) (w7▸h)
def Xb(e1:vs=[v])(ev:v=.int k)(e2:c=.set p)(z:p.length<4000):b9 W .add (u::vs) H .none (H.set i (.set (vh p k))):=by rw[e,e1,ev];exact b9.add (e2▸hc) z
def Xd(e1:vs=[v])(ev:v=.int k)(e2:c=.set p):b9 W .discard (u::vs) H .none (H.set i (.set (p.filter (· != k)))):=by rw[e,e1,ev];exact b9.discard (e2▸hc)
def Xf(e1:vs=[v,x])(ev:v=cN a)(e2:c=.dict kvs st):b9 W .ew (u::vs) H ((aR kvs a).getD x) H:=by rw[e,e1,ev];exact b9.get (e2▸hc)
def Xh{r:List V}(e1:vs=[v,x])(ev:v=.tup r)(h:atoms r=F5 ks)(e2:c=.aX kv2 st):b9 W .ew (u::vs) H ((aR kv2 ks).getD x) H:=by rw[e,e1,ev,tS h];exact b9.Cv (e2▸hc)
def Xe(e1:vs=[x])(ev:x=cN a)(e2:c=.dict kvs st)(h:aR kvs a=F5 v)(z:kvs.length<=aJ):b9 W .gM (u::vs) H v (H.set i (.dict (pI kvs a) (st+1))):=by rw[e,e1,ev];exact b9.gM (e2▸hc) h z
end
def uM(q:Q v (aa H c i)):Q v (H.set i c):=Eq.mp (aF (Q v) dO) q
def Ji{m:Mt}(q:i5 W m u Q vs H)(k:∀v H,Q v H->Q' v H):Seq (b9 W m (u::vs) H) Q':=by
 have fb:Seq (b9 W m (u::vs) H) Q->Seq (b9 W m (u::vs) H) Q':=λq=>Seq.to q k;refine mR (β:=Prop) id q (λi c e hc q=>?_) fb
 cases m with
 |append=>exact lZ (β:=Prop) id q (λv e1 q=>pO (β:=Prop) id q (λl e2 q=>q.casesOn λz q=>⟨Xc e hc e1 e2 z,k _ _ (uM q)⟩) fb) fb|pop=>exact ue q (λe1 q=>pO (β:=Prop) id q (λl e2 q=>l6 q λv h q=>⟨Xg e hc e1 e2 h,k _ _ (uM q)⟩) fb) fb|insert=>exact fb q|add=>exact lZ (β:=Prop) id q (λv e1 q=>lO (β:=Prop) id q (λj ev q=>Ke (β:=Prop) id q (λp e2 q=>q.casesOn λz q=>⟨Xb e hc e1 ev e2 z,k _ _ (uM q)⟩) fb) fb) fb|discard=>exact lZ (β:=Prop) id q (λv e1 q=>lO (β:=Prop) id q (λj ev q=>Ke (β:=Prop) id q (λp e2 q=>⟨Xd e hc e1 ev e2,k _ _ (uM q)⟩) fb) fb) fb|ew=>exact yI (β:=Prop) id q (λx d e1 q=>Ny (β:=Prop) id q (λkvs st e2 q=>qk (β:=Prop) id q (λa ev q=>⟨Xf e hc e1 ev e2,k _ _ q⟩) fb) (λkvs st e2 q=>sL (β:=Prop) id q (λl ev q=>dh (β:=Prop) id q (λa h q=>⟨Xh e hc e1 ev h e2,k _ _ q⟩) fb) fb) fb) fb|gM=>exact lZ (β:=Prop) id q (λx e1 q=>Nr (β:=Prop) id q (λkvs st e2 q=>qk (β:=Prop) id q (λa ev q=>q.casesOn λz q=>l6 q λv h q=>⟨Xe e hc e1 ev e2 h z,k _ _ (uM q)⟩) fb) fb) fb
def Fm(q:vF W u x H Q)(k:∀v H,Q v H->Q' v H):Ex λH'=>aw (mK W u x H H') (Q' .none H'):=by
 have fb:(Ex λH'=>aw (mK W u x H H') (Q .none H'))->Ex λH'=>aw (mK W u x H H') (Q' .none H'):=λq=>let ⟨p,q⟩:=q;⟨p,k _ _ q⟩;refine mR (β:=Prop) id q (λi c e hc q=>pO (β:=Prop) id q (λl e' q=>sL (β:=Prop) id q (λr e2 q=>?_) fb) fb) fb;subst e e' e2;obtain⟨z,q⟩:=q;rw[dO] at q;exact⟨mK.tup hc z,k _ _ q⟩
def YV(h:at_ L0 H u (λy c=>jF L0 c λy=>F6)=F6):ow W u H:=
 mR (·=F6) h (λi c e hc h=>pO (·=F6) h (λl e' y=>by subst e e';exact ow.lst hc) nofun) nofun
def rC{f:Nat}:Fi W n f vs H Q=Fn W n f vs H Q:=by unfold Fi;rfl
def AP{f:Nat}(q:Fi W n f vs H Q)(k:∀v H,Q v H->Q' v H):Fn W n f vs H Q':=by
 rw[rC] at q;exact Fn.mono q λq=>k _ _ q
def WH{c:Nat}(q:qV W n c vs H Q)(k:∀v H,Q v H->Q' v H):qV W n c vs H Q':=q.casesOn λh x=>⟨h,Fn.mono x λy=>y.casesOn λa b=>⟨a,k _ _ b⟩⟩
def WE(pr:a9 W){c:Nat}(q:Ho W n c Q vs H)(k:∀v H,Q v H->Q' v H):qV W n c vs H Q':=
 dh (β:=Prop) id q (λf h q=>by
  have q:Fi W n f (.obj (aH H)::vs) (app H [.inst c []]) (Hq (aH H) Q):=q;rw[cY,cQ,rC] at q;exact⟨pr.T▸dG (d7.mp RG _ (AO h)),Fn.mono q λy=>y.casesOn λa b=>⟨a,k _ _ b⟩⟩) λq=>WH q k
def xG(q:oh ws H Q)(k:∀v H,Q v H->Q' v H):oh ws H Q':=q.casesOn λr x=>⟨r,k _ _ x⟩
end
mutual
noncomputable def cK(f:Nat->Nat):IE->IE
 | .const v=>.const v| .var x=>.var (f x)| .op o es=>.op o (pS f es)| .call g es=>.call g (pS f es)| .ak e m es=>.ak (cK f e) m (pS f es)| .bm m e es=>.bm m (cK f e) (pS f es)| .jD e a=>.jD (cK f e) (cK f a)| .new c es=>.new c (pS f es)| .and a b=>.and (cK f a) (cK f b)| .or a b=>.or (cK f a) (cK f b)| .not a=>.not (cK f a)| .ite c a b=>.ite (cK f c) (cK f a) (cK f b)| .comp e x it=>.comp (cK f e) (f x) (cK f it)| .gL e x m=>.gL (cK f e) (f x) (cK f m)
noncomputable def pS(f:Nat->Nat):fC->fC
 | .nil=>.nil| .cons e es=>.cons (cK f e) (pS f es)
end
mutual
noncomputable def JC(f:Nat->Nat):IS->IS
 | .asg x e=>.asg (f x) (cK f e)| .gf xs e=>.gf (xs.map f) (cK f e)| .swap x y a b=>.swap (f x) (f y) (cK f a) (cK f b)| .cB a i e=>.cB (cK f a) (cK f i) (cK f e)| .setAttr o a e=>.setAttr (cK f o) a (cK f e)| .aug x op e=>.aug (f x) op (cK f e)| .lI t a op e=>.lI (cK f t) a op (cK f e)| .expr e=>.expr (cK f e)| .ite c a b=>.ite (cK f c) (iH f a) (iH f b)| .eU c b=>.eU (cK f c) (iH f b)| .forIn x e b=>.forIn (f x) (cK f e) (iH f b)| .forR x m b=>.forR (f x) (cK f m) (iH f b)| .ret e=>.ret (cK f e)| .cont=>.cont| .pass=>.pass
noncomputable def iH(f:Nat->Nat):aL->aL
 | .nil=>.nil| .cons s ss=>.cons (JC f s) (iH f ss)
end
def Rel(f:Nat->Nat)(F:Fa)(G:aT):Prop:=∀i v,ob (aB F i) L3 id=F5 v->G (f i)=F5 v
variable{F:Fa}{G:aT}
section
variable{f:Nat->Nat}
def Rel.set(inj:∀i j,f i=f j->i=j){x:Nat}(r:Rel f F G):Rel f (dm F x v) (upd G (f x) v):=λi w h=>by
 unfold upd;unfold dm at h;rw[dO,ah,vQ] at h;by_cases e:x=i
 .subst e;rw[aI rfl] at h ⊢;split at h
  .exact h
  .exact ai h
 .rw[aD e] at h;rw[aD λq=>e (inj _ _ q).symm];exact r i w (ah▸h)
end
variable{C:AH->Prop}{el:ET}{el':aT->AH->K1->Prop}{b:Nat}
section
variable{f:Nat->Nat}(pr:a9 W)(inj:∀i j,f i=f j->i=j)
theorem Nm(ok:∀{v H} {Q Q':V->AH->Prop},el (dm F a v) H Q->(∀v H,Q v H->Q' v H)->el' (upd G b v) H Q'):∀{l:List V} {H:AH} {Q Q':List V->AH->Prop},qA C el a F l H Q->(∀v H,Q v H->Q' v H)->j0 C el' b G l H Q':=by
 intro l
 induction l with
 |nil=>exact λq k=>q.casesOn λc q=>⟨c,k _ _ q⟩|cons v l ih=>exact λq k=>q.casesOn λc q=>⟨c,ok q λw H q=>ih q λws H q=>k _ _ q⟩
theorem z6(hC:∀H,C H)(ok:∀{v H} {Q Q':V->AH->Prop},el (dm F a v) H Q->(∀v H,Q v H->Q' v H)->el' (upd G b v) H Q'):∀{l:List V} {H:AH} {Q Q':List V->AH->Prop},qB el a F l H Q->(∀v H,Q v H->Q' v H)->j0 C el' b G l H Q':=by
 intro l
 induction l with
 |nil=>exact λq k=>⟨hC _,k _ _ q⟩|cons v l ih=>exact λq k=>⟨hC _,ok q λw H q=>ih q λws H q=>k _ _ q⟩
theorem KY{P:Prop->Prop}{d:Prop}{g:List V->Prop}(q:zh d v g)(k:∀l,v=.tup l\/v=.lst l->g l->R)(k':d->R):R:=by
 cases v with
 |tup l=>exact k l (.inl rfl) q|lst l=>exact k l (.inr rfl) q|_=>exact k' q
theorem aAI{P:Prop}{Q:K1}(q:kJ v H (pH P (cBool (Q v H) v λy=>Q (.bool L0) H)))(k:P->R)(k':Q v H->R'):Tq v H λt=>if t=F6 then R else R':=by
 cases v with
 |bool b=>cases b with
  |true=>exact yE (if1 rfl (k q))|false=>exact yE (An rfl (k' q))
 |_=>exact sH q λt q=>ud q k k'
theorem aAJ{P:Prop}{Q:K1}(q:kJ v H (pH (cBool (Q v H) v λy=>Q (.bool F6) H) P))(k:P->R)(k':Q v H->R'):Tq v H λt=>if t=F6 then R' else R:=by
 cases v with
 |bool b=>cases b with
  |true=>exact yE (if1 rfl (k' q))|false=>exact yE (An rfl (k q))
 |_=>exact sH q λt q=>ud q k' k
include pr inj
mutual
theorem cG:∀(e:IE) {F:Fa} {G:aT} {H:AH} {Q Q':V->AH->Prop},bI W n e F H Q->Rel f F G->(∀v H,Q v H->Q' v H)->a5 W n (cK f e) G H Q'
 | .const v,_,_,_,_,_=>λq r k=>k _ _ q| .var x,F,G,H,Q,Q'=>λq r k=>l6 q λv h q=>a5.var (r _ _ h) (k _ _ q)| .op o es,_,_,_,_,_=>λq r k=>o9 es q r λy y q=>Xn q k| .call g es,_,_,_,_,_=>λq r k=>o9 es q r λy y q=>AP q k| .ak e m es,_,_,_,_,_=>λq r k=>cG e q r λy y q=>Vm pr q λy q=>o9 es q r λy y q=>AP q k| .bm m e es,_,_,_,_,_=>λq r k=>cG e q r λy y q=>ue q (λh q=>⟨YU h,o9 es q r λy y q=>Ji q k⟩) λq=>let ⟨a,q⟩:=q;⟨a,o9 es q r λy y q=>Ji q k⟩| .jD e a,_,_,_,_,_=>λq r k=>cG e q r λy y q=>ue q (λh q=>⟨YV h,cG a q r λy y q=>Fm q k⟩) λq=>let ⟨b,q⟩:=q;⟨b,cG a q r λy y q=>Fm q k⟩| .new c es,_,_,_,_,_=>λq r k=>o9 es q r λy y q=>WE pr q k| .and a b,_,_,_,_,_=>λq r k=>cG a q r λy y q=>aAI q (λq=>cG b q r k) (k _ _)| .or a b,_,_,_,_,_=>λq r k=>cG a q r λy y q=>aAJ q (λq=>cG b q r k) (k _ _)| .not a,_,_,_,_,_=>λq r k=>cG a q r λy y q=>sH q λy q=>k _ _ q| .ite c a b,_,_,_,_,_=>λq r k=>cG c q r λy y q=>sH q λy q=>ud q (λq=>cG a q r k) (λq=>cG b q r k)| .comp e x it,F,G,_,Q,Q'=>λq r k=>cG it q r λsrc H q=>KY (P:=id) q (λl e' q=>let ⟨z,q⟩:=q;e'.elim (λe'=>e'▸⟨.tup,z,z6 (λy=>.tup) (λq k=>cG e q (r.set inj) k) q λy y q=>xG q k⟩) λe'=>e'▸⟨.lst .val,z,z6 (λy=>.lst .val) (λq k=>cG e q (r.set inj) k) q λy y q=>xG q k⟩) λq=>let ⟨a,b,q⟩:=q;⟨a,b,Nm (λq k=>cG e q (r.set inj) k) q λy y q=>xG q k⟩| .gL e x m,_,_,_,_,_=>λq r k=>cG m q r λv H q=>xN (β:=Prop) id q (λj e' q=>let ⟨z,q⟩:=q;⟨e',z,z6 (λy=>cC) (λq k=>cG e q (r.set inj) k) (Bs▸q) λy y q=>xG q k⟩) False.elim
theorem o9:∀(es:fC) {F:Fa} {G:aT} {H:AH} {Q Q':List V->AH->Prop},oU W n es F H Q->Rel f F G->(∀v H,Q v H->Q' v H)->j5 W n (pS f es) G H Q'
 | .nil=>λq r k=>k _ _ q| .cons e es=>λq r k=>cG e q r λy y q=>o9 es q r λy y q=>k _ _ q
end
end
abbrev Bq:=aT->AH->(Fl->aT->AH->Prop)->Prop
def p8(f:Nat->Nat)(b:BT)(b':Bq):Prop:=∀{F:Fa} {G:aT} {H:AH} {Q:K2} {Q':Fl->aT->AH->Prop},b F H Q->Rel f F G->(∀fl F G H,Rel f F G->Q fl F H->Q' fl G H)->b' G H Q'
variable{op:Operator}
section
variable{f:Nat->Nat}{b:BT}{b':Bq}{Q:K2}{Q':Fl->aT->AH->Prop}{w:V}
theorem Cy{w:BT}{w':aT->AH->Prop}(ih:∀{F G H},Rel f F G->w F H Q->w' G H)(k:∀fl F G H,Rel f F G->Q fl F H->Q' fl G H):∀fl F G H,Rel f F G->gQ w Q fl F H->yH w' Q' fl G H
 | .aK=>λy y y r q=>ih r q| .cnt=>λy y y r q=>ih r q| .brk=>λy y y r q=>k _ _ _ _ r q| .ret _=>λy y y r q=>k _ _ _ _ r q
theorem Wb{w:BT}{w':Bq}(o:p8 f w w')(k:∀fl F G H,Rel f F G->Q fl F H->Q' fl G H):∀fl F G H,Rel f F G->lQ w Q fl F H->Bw (λF H=>w' F H Q') Q' fl G H
 | .aK=>λy y y r q=>o q r k| .cnt=>λy y y r q=>k _ _ _ _ r q| .brk=>λy y y r q=>k _ _ _ _ r q| .ret _=>λy y y r q=>k _ _ _ _ r q
def aA8{c:ET}{c':aT->AH->K1->Prop}(oc:∀{F G H} {Q Q':V->AH->Prop},c F H Q->Rel f F G->(∀v H,Q v H->Q' v H)->c' G H Q')(ok:p8 f b b')(k:∀fl F G H,Rel f F G->Q fl F H->Q' fl G H):∀{m:Nat} {F:Fa} {G:aT} {H:AH},Rel f F G->gZ c b m F H Q->tK c' b' m G H Q':=by
 intro m
 induction m with
 |zero=>exact λy q=>q|succ m ih=>exact λr q=>oc q r λy y q=>sH q λy q=>ud q (λq=>ok q r (Cy ih k)) (k _ _ _ _ r)
section
variable(inj:∀i j,f i=f j->i=j)
include inj
def O1(ok:p8 f b b')(k:∀fl F G H,Rel f F G->Q fl F H->Q' fl G H):∀{l:List V} {F:Fa} {G:aT} {H:AH},Rel f F G->fh C a b l F H Q->lA C (f a) b' l G H Q':=by
 intro l
 induction l with
 |nil=>exact λr q=>q.casesOn λc q=>⟨c,k _ _ _ _ r q⟩|cons v l ih=>exact λr q=>q.casesOn λc q=>⟨c,ok q (r.set inj) (Cy ih k)⟩
def AZ(hC:∀H,C H)(ok:p8 f b b')(k:∀fl F G H,Rel f F G->Q fl F H->Q' fl G H):∀{l:List V} {F:Fa} {G:aT} {H:AH},Rel f F G->dA a b l F H Q->lA C (f a) b' l G H Q':=by
 intro l
 induction l with
 |nil=>exact λr q=>⟨hC _,k _ _ _ _ r q⟩|cons v l ih=>exact λr q=>⟨hC _,ok q (r.set inj) (Cy ih k)⟩
theorem Ka:∀{xs:List Nat} {l:List V} {F F':Fa} {G:aT},KZ F xs l=F5 F'->Rel f F G->l.length=xs.length/\Rel f F' (iu G (xs.map f) l)
 | [],[],_,_,_=>λh r=>by cases h;exact⟨rfl,r⟩| [],_::_,_,_,_=>λh y=>ai h|_::_,[],_,_,_=>λh y=>ai h|x::xs,v::l,F,F',G=>λh r=>(Ka (xs:=xs) (l:=l) (F:=dm F x v) h (r.set inj)).elim λa b=>⟨aF Nat.succ a,b⟩
end
def Xx(q:mM W u x v F H Q)(k:∀H,Q .aK F H->Q' .aK G H):Ex λH'=>aw (hO W u x v H H') (Q' .aK G H'):=by
 have fb:(Ex λH'=>aw (hO W u x v H H') (Q .aK F H'))->Ex λH'=>aw (hO W u x v H H') (Q' .aK G H'):=λq=>let ⟨p,q⟩:=q;⟨p,k _ q⟩;refine mR (β:=Prop) id q (λi c e hc q=>?_) fb;subst e
 cases c with
 |lst l=>exact xN (β:=Prop) id q (λj e q=>by obtain⟨z,q2⟩:=q;rw[dO] at q2;exact e▸⟨hO.lst hc z,k _ q2⟩) fb|dict kvs st=>exact qk (β:=Prop) id q (λj e q=>by obtain⟨z,q2⟩:=q;rw[dO] at q2;exact e▸⟨hO.dict hc z,k _ q2⟩) fb|aX kvs st=>exact sL (β:=Prop) id q (λl e q=>dh (β:=Prop) id q (λj h q=>by obtain⟨z,q2⟩:=q;rw[dO] at q2;rw[e,tS h];exact⟨hO.aX hc z,k _ q2⟩) fb) fb|_=>exact fb q
def Cb(q:qb a u v F H Q)(k:∀H,Q .aK F H->Q' .aK G H):Ex λH'=>aw (i7 a H v u H') (Q' .aK G H'):=by
 have fb:(Ex λH'=>aw (i7 a H v u H') (Q .aK F H'))->Ex λH'=>aw (i7 a H v u H') (Q' .aK G H'):=λq=>let ⟨p,q⟩:=q;⟨p,k _ q⟩;refine mR (β:=Prop) id q (λi c e hc q=>As (β:=Prop) id q (λc' fl e' q=>?_) fb) fb;have q2:Sel (gK c' a) (Ex λH'=>aw (i7 a H v u H') (Q .aK F H')) (Sel (Nat.ble (aH fl) 800) (Q .aK F (aa H (.inst c' (rE fl a v)) i)) (Ex λH'=>aw (i7 a H v u H') (Q .aK F H'))):=q
 cases hcl:gK c' a with
 |true=>rw[hcl] at q2;exact fb q2|false=>
  rw[hcl] at q2;exact ue (show Sel (Nat.ble (aH fl) 800) _ _ from q2) (λz q3=>by
   rw[dO,O3] at q3;rw[cY] at z;exact e▸⟨i7.mk (e'▸hc) hcl (bp (Dv z) ⋯),k _ q3⟩) fb
def Ra(h:isAdd op=F6):op=.Add:=by cases op<;>first|rfl|exact(az h).elim
def WY(P:β->Prop){d:β}{f:List V->β}(q:P (kQ d v f))(k:(∀l,v≠.tup l)->P d->R)(k':∀l,P (f l)->R):R:=by cases v<;>first|exact k nofun q|exact k' _ q
def Mm{Q Q':V->AH->Prop}(q:sY op u H w Q)(k:∀v H,Q v H->Q' v H):nA op u H w Q':=by
 have fb:nA op u H w Q->nA op u H w Q':=λq=>by
  cases q with
  |add o e e' q=>exact .add o e e' (k _ _ q)|sub o e e' q=>exact .sub o e e' (k _ _ q)|lst o e hc hl z q=>exact .lst o e hc hl z (k _ _ q)
 refine CC (β:=Prop) id q (λi e q=>dh (β:=Prop) id q (λc hc q=>pO (β:=Prop) id q (λl e' q=>?_) fb) fb) λq=>dh id q (λv h q=>?_) fb
 .exact WY (β:=Prop) id q (λn q=>ue q (λho q=>dh (β:=Prop) id q (λr h q=>(xr h).elim (λe=>absurd e (n r)) λhr=>q.casesOn λz q=>.lst (Ra ho) e (e'▸ah▸hc) hr z (e▸k _ _ (Eq.mp (aF (Q u) dO) q))) fb) fb) λy=>fb
 .obtain⟨a,b,e1,e2,⟨e3,e4⟩|⟨e3,e4⟩⟩:=zV h
  .exact .add e3 e1 e2 (e4▸k _ _ q)
  .exact .sub e3 e1 e2 (e4▸k _ _ q)
def Mn(q:ob (tW op v w) False λr=>qb a u r F H Q)(k:∀H,Q .aK F H->Q' .aK G H):nA op v H w λr H=>aw (∀i,v≠.obj i) (Ex λH'=>aw (i7 a H r u H') (Q' .aK G H')):=
 dh id q (λr h q=>by
  obtain⟨a,b,e1,e2,⟨e3,e4⟩|⟨e3,e4⟩⟩:=zV h
  .exact .add e3 e1 e2 ⟨λi z=>(by rw[e1] at z;cases z),e4▸Cb q k⟩
  .exact .sub e3 e1 e2 ⟨λi z=>(by rw[e1] at z;cases z),e4▸Cb q k⟩) False.elim
end
section
variable{f:Nat->Nat}(pr:a9 W)(inj:∀i j,f i=f j->i=j)
include pr inj
mutual
theorem OO:∀(s:IS),p8 f (yZ W n s) (λF H Q=>ya W n (JC f s) F H Q)
 | .asg x e=>λq r k=>cG pr inj e q r λw w q=>k _ _ _ _ (r.set inj) q| .gf xs e=>λq r k=>cG pr inj e q r λv H q=>sL (β:=Prop) id q (λl e' q=>dh (β:=Prop) id q (λF' h q=>(Ka inj h r).elim λz r'=>⟨e',(z.trans (aQ f).symm:l.length=(xs.map f).length),k _ _ _ _ r' q⟩) False.elim) False.elim| .swap x y a b=>λq r k=>cG pr inj a q r λw w q=>cG pr inj b q r λw w q=>k _ _ _ _ ((r.set inj).set inj) q| .cB a i e=>λq r k=>cG pr inj e q r λw w q=>cG pr inj a q r λw w q=>cG pr inj i q r λw w q=>Xx q λw q=>k _ _ _ _ r q| .setAttr o a e=>λq r k=>cG pr inj e q r λw w q=>cG pr inj o q r λw w q=>Cb q λw q=>k _ _ _ _ r q| .aug x op e=>λq r k=>dh (β:=Prop) id q (λu h q=>⟨r _ _ h,cG pr inj e q r λw w q=>Mm q λw w q=>k _ _ _ _ (r.set inj) q⟩) False.elim| .lI t a op e=>λq r k=>cG pr inj t q r λu H q=>dh (β:=Prop) id q (λv h q=>(EY h).elim λw ζ'=>ζ'.elim λw ζ''=>ζ''.elim λw ζ'''=>ζ'''.elim λe1 ζ''''=>ζ''''.elim λhc ζ'''''=>ζ'''''.elim λe2 g=>⟨(e1▸⟨hc,e2,g⟩:sX a H u v),cG pr inj e q r λw w q=>Mn q λw q=>k _ _ _ _ r q⟩) False.elim| .expr e=>λq r k=>cG pr inj e q r λw w q=>k _ _ _ _ r q| .ite c a b=>λq r k=>cG pr inj c q r λw w q=>sH q λw q=>ud q (λq=>mS a q r k) (λq=>mS b q r k)| .eU c b=>λq r k=>q.casesOn λq=>⟨aA8 (c:=bI W n c) (c':=a5 W n (cK f c)) (b:=aO W n b) (b':=λF H Q=>d0 W n (iH f b) F H Q) (λq r k=>cG pr inj c q r k) (mS b) k r q⟩| .forIn x e b=>λq r k=>cG pr inj e q r λv H q=>KY (P:=id) q (λl e' q=>e'.elim (λe'=>e'▸⟨.tup,AZ (b:=aO W n b) (b':=λF H Q=>d0 W n (iH f b) F H Q) (C:=It .tup (.tup l) l) inj (λw=>.tup) (mS b) k r q⟩) λe'=>e'▸⟨.lst .val,AZ (b:=aO W n b) (b':=λF H Q=>d0 W n (iH f b) F H Q) (C:=It .lst (.lst l) l) inj (λw=>.lst .val) (mS b) k r q⟩) λq=>q.casesOn λa q=>⟨a,O1 (b:=aO W n b) (b':=λF H Q=>d0 W n (iH f b) F H Q) inj (mS b) k r q⟩| .forR x m b=>λq r k=>cG pr inj m q r λv H q=>xN (β:=Prop) id q (λj e' q=>q.casesOn λz q=>⟨e',z,AZ (b:=aO W n b) (b':=λF H Q=>d0 W n (iH f b) F H Q) inj (λw=>cC) (mS b) k r (Bs (k:=j)▸(show dA x (aO W n b) (jj j) _ _ _ from q))⟩) False.elim| .ret e=>λq r k=>cG pr inj e q r λw w q=>k _ _ _ _ r q| .cont=>λq r k=>k _ _ _ _ r q| .pass=>λq r k=>k _ _ _ _ r q
theorem mS:∀(ss:aL),p8 f (aO W n ss) (λF H Q=>d0 W n (iH f ss) F H Q)
 | .nil=>λq r k=>k _ _ _ _ r q| .cons s ss=>λq r k=>OO s q r (Wb (mS ss) k)
end
end
def big:Nat:=10 ^ 80
def oC(xs:List Nat)(i:Nat):Nat:=(xs[i]?).getD (big+i)
def distinct:List Nat->Bool
 | []=>F6|x::xs=>Nat.blt x big&&xs.all (λy=>!Nat.beq x y)&&distinct xs
theorem AE:∀{xs:List Nat},distinct xs=F6->xs.Nodup/\∀x∈xs,x<big
 | []=>λz=>⟨dU,λz m=>memN m⟩|x::xs=>λh=>by
  have h:(Nat.blt x big&&xs.all (λy=>!Nat.beq x y)&&distinct xs)=F6:=h;rw[d5,d5] at h;obtain⟨⟨h1,h2⟩,h3⟩:=h;obtain⟨a,b⟩:=AE h3;refine⟨bo.mpr ⟨λm=>?_,a⟩,λy m=>(bD.mp m).elim (λe=>by rw[e];exact Nat.blt_eq.mp h1) (b y)⟩
  have:=d7.mp h2 x m
  rw[Nat.beq_refl] at this;cases this
def WK{xs:List Nat}(h:distinct xs=F6):∀i j,oC xs i=oC xs j->i=j:=λi j e=>by
 obtain⟨nd,lt⟩:=AE h;unfold oC at e
 cases hi:xs[i]? with
 |none=>
  cases hj:xs[j]? with
  |none=>rw[hi,hj] at e;exact Nat.add_left_cancel e|some y=>
   rw[hi,hj] at e;have e:big+i=y:=e;exact absurd (lt y (d8 hj)) (gF.mpr (by rw[<-e];exact aW _ _))
 |some x=>
  cases hj:xs[j]? with
  |none=>
   rw[hi,hj] at e;have e:x=big+j:=e;exact absurd (lt x (d8 hi)) (gF.mpr (by rw[e];exact aW _ _))
  |some y=>
   rw[hi,hj] at e;have e:x=y:=e;subst e;have l:=(dT.mp hi).1;exact(Dd l nd).mp (hi.trans hj.symm)
def B5(m:Nat):Fa:=Nat.rec (motive:=λy=>Fa) [] (λy ih=>L3::ih) m
def wV(vs:List V)(m:Nat):Fa:=List.rec (motive:=λy=>Fa) (B5 m) (λv y ih=>F5 v::ih) vs
theorem LZ{x:Nat}:∀{xs:List Nat} {vs:List V} {F:aT},x∉xs->iu F xs vs x=F x
 | [],_,_=>λz=>rfl|y::xs,[],_=>λz=>rfl|y::xs,v::vs,F=>λh=>(LZ (xs:=xs) (vs:=vs) (F:=upd F y v) λm=>h (.tail _ m)).trans (aD λ(e:x=y)=>h (by rw[e];exact .head _))
def WQ:ob (aB (B5 m) i) L3 id=(L3:Option V):=by
 induction m generalizing i with
 |zero=>rfl|succ m ih=>cases i with
  |zero=>rfl|succ i=>exact ih
theorem GO:∀{vs:List V} {m i:Nat} {v:V},ob (aB (wV vs m) i) L3 id=F5 v->vs[i]?=F5 v
 | [],m,i,v=>λh=>by rw[show wV [] m=B5 m from rfl,WQ] at h;cases h|w::vs,m,0,v=>λh=>h|w::vs,m,i+1,v=>λh=>by
  have h:ob (aB (wV vs m) i) L3 id=F5 v:=h
  have:=GO h
  exact this
theorem LY:∀{xs:List Nat} {vs:List V} {F:aT} {i x:Nat} {v:V},xs.Nodup->xs[i]?=F5 x->vs[i]?=F5 v->iu F xs vs x=F5 v
 | [],_,_,_,_,_=>λz h z=>ai h|_::_,[],_,_,_,_=>λz z h=>ai h|y::xs,w::vs,F,0,x,v=>λnd h h'=>by
  rw[bo] at nd;have h:F5 y=F5 x:=h;have h':F5 w=F5 v:=h';cases h;cases h';exact(LZ nd.1).trans (aI rfl)
 |y::xs,w::vs,F,i+1,x,v=>λnd h h'=>LY (xs:=xs) (vs:=vs) (i:=i) (bo.mp nd).2 h h'
def LF(f k m:Nat)(b:aL):Prop:=∃xs:List Nat,xs.length=k+m/\distinct xs=F6/\(fT f).map (·.params)=F5 (xs.take k)/\(fT f).map (·.body)=F5 (iH (oC xs) b)
variable{b:aL}
def lf{f k:Nat}(xs:List Nat)(h:(xs.length,distinct xs,(fT f).map (·.params),(fT f).map (·.body))=(k+m,F6,F5 (xs.take k),F5 (iH (oC xs) b)):=by kernel_rfl):LF f k m b:=⟨xs,aF (·.1) h,aF (·.2.1) h,aF (·.2.2.1) h,aF (·.2.2.2) h⟩
def a9.fe(pr:a9 W){f k:Nat}{Q:V->AH->Prop}(g:LF f k m b)(hl:vs.length=k)(q:aO W n b (wV vs m) H (gq Q)):Fi W (n+1) f vs H Q:=by
 rw[rC];obtain⟨xs,h1,h2,h3,h4⟩:=g
 cases hf:fT f with
 |none=>rw[hf] at h3;exact ai h3|some fi=>
  rw[hf] at h3 h4;have h3:fi.params=xs.take k:=ay h3;have h4:fi.body=iH (oC xs) b:=ay h4;have lk:(xs.take k).length=k:=by rw[yr,h1];exact tD (aW _ _)
  refine @a9.fn W pr f n fi vs H Q hf (by rw[h3,lk,hl]) ?_
  rw[h3,h4]
  refine mS pr (WK h2) b q (λi v h=>?_) λfl F G H y q=>match fl,q with
   | .aK,q=>q| .ret _,q=>q
  have hv:=GO h;have hi:i<k:=hl▸(dT.mp hv).1;have hx:(xs.take k)[i]?=F5 (oC xs i):=by
   have:i<xs.length:=h1▸bw hi (aW _ _)
   unfold oC;rw[List.getElem?_take_of_lt hi,bu this];rfl
  exact LY ((List.take_sublist _ _).nodup (AE h2).1) hx hv
@[irreducible] def Stop(b:BT):BT:=b
section
variable{Q:K2}{s s':IS}{b:BT}
def bH(q:b F H Q):Stop b F H Q:=by unfold Stop;exact q
def ZT:Stop b=b:=by unfold Stop;rfl
def tk:Nat->aL->aL
 |k+1,.cons s ss=>.cons s (tk k ss)|_,_=>.nil
def dp:Nat->aL->aL
 |k+1,.cons _ ss=>dp k ss|_,ss=>ss
theorem FI:∀(k:Nat) {ss:aL} {F:Fa} {H:AH} {Q:K2},aO W n (tk k ss) F H (lQ (aO W n (dp k ss)) Q)=aO W n ss F H Q
 |0,ss,F,H,Q=>rfl|k+1,.nil,F,H,Q=>rfl|k+1,.cons s ss,F,H,Q=>aF (yZ W n s F H) (funext λfl=>funext λF=>funext λH=>match fl with
   | .aK=>FI k| .brk=>rfl| .cnt=>rfl| .ret _=>rfl)
def bz(k:Nat)(q:aO W n (tk k ss) F H (lQ (Stop (aO W n (dp k ss))) Q)):aO W n ss F H Q:=by rw[ZT] at q;exact FI k▸q
end
section
variable{Q:V->AH->Prop}
def bJ(h:o=F5 v)(q:Q v H):gJ o H Q:=by rw[h];exact q
def ae{P:Prop}(h:t=F6)(p:P):Sel t P P':=by rw[h];exact p
def aZ{P:Prop}(h:t=L0)(p:P'):Sel t P P':=by rw[h];exact p
def c7{P:Prop}(h1:t=F6->P)(h0:t=L0->P'):Sel t P P':=by
 cases t with
 |true=>exact h1 rfl|false=>exact h0 rfl
def dN(z:vs.length<=aJ)(q:Q (.obj (aH H)) (app H [.lst vs])):Seq (Prim W .lst vs H) Q:=by rw[cY,cQ] at q;exact⟨(⟨z,.cell⟩:aw (vs.length<=aJ) (LR vs H (.obj H.length) (H++[.lst vs]))),q⟩
def kX(q:Q (.obj (aH H)) (app H [.dict [] 0])):Seq (Prim W .f5 [] H) Q:=by rw[cY,cQ] at q;exact⟨(.dict:DR H (.obj H.length) (H++[.dict [] 0])),q⟩
def uI(q:Q (.obj (aH H)) (app H [.aX [] 0])):Seq (Prim W .f5 [] H) Q:=by rw[cY,cQ] at q;exact⟨(.aX:DR H (.obj H.length) (H++[.aX [] 0])),q⟩
end
abbrev i1:Int:=-1
abbrev i2:Int:=-2
abbrev i3:Int:=-3
abbrev i4:Int:=-1000
section
meta def mkD(n:Lean.Name):Lean.Term:=⟨.node .none ``Lean.Parser.Term.dotIdent #[.atom .none ".",Lean.mkIdent n]⟩
meta def mkF(n:Lean.Name)(a:Array Lean.Term):Lean.Term:=Lean.Syntax.mkApp (mkD n) a
meta def mkL(a b:Lean.Term):Lean.Term:=mkF `cons #[a,mkF `cons #[b,mkD `nil]]
local macro_rules
 |`(↑$a)=>pure (mkF `var #[a]).raw
local macro_rules
 |`(⇑$a)=>pure (mkF `const #[mkF `int #[a]]).raw
local macro_rules
 |`($a % $b)=>pure (mkF `op #[mkD `sub,mkL a b]).raw
local macro_rules
 |`($a == $b)=>pure (mkF `op #[mkF `cmp #[mkD `Eq],mkL a b]).raw
local macro_rules
 |`($a+$b)=>pure (mkF `op #[mkF `bin #[mkD `Add],mkL a b]).raw
local macro_rules
 |`(($a,$as,*))=>do pure (mkF `op #[mkD `tup,<-`(#[$a,$as,*])]).raw
local macro_rules
 |`($a*$s:str)=>pure (mkF `op #[mkF `attr #[Lean.quote (s.getString.toList.foldl (λn c=>Nat.add (Nat.mul n 256) c.toNat) 1)],mkF `cons #[a,mkD `nil]]).raw
meta def mkC(a b:Lean.Term):Lean.Term:=mkF `cons #[a,b]
local macro_rules
 |`(#[$as,*])=>pure (as.getElems.foldr mkC (mkD `nil)).raw
local macro_rules
 |`($s:str)=>pure (mkF `const (Array.singleton (mkF `str (Array.singleton (Lean.quote (s.getString.toList.map Char.toNat)))))).raw
abbrev j1:aL:=#[.ret ("[]",".",.const (.str [123,125]),"-","+","*","/",",","|",";","->",.const (.str [92,43]),":-","?-","-->","!","true","fail","false","call","=","^","error",.const (.str []),"end_of_file","system","$VAR","catch","throw")]
def g1:LF 1 0 0 j1:=lf []
abbrev j2:aL:=#[.ret ((".",⇑2),(",",⇑2),(";",⇑2),("->",⇑2),(.const (.str [92,43]),⇑1),(":-",⇑2),(":-",⇑1),("?-",⇑1),("-->",⇑2),(.const (.str [123,125]),⇑1),("=",⇑2),("^",⇑2),("-",⇑1),("-",⇑2),("+",⇑2),("/",⇑2),("error",⇑2),("$VAR",⇑1),("catch",⇑3),("throw",⇑1),("!",⇑0),("true",⇑0),("fail",⇑0),("false",⇑0),("call",⇑1),("call",⇑2),("call",⇑3),("call",⇑4),("call",⇑5),("call",⇑6),("call",⇑7),("call",⇑8))]
def g2:LF 2 0 0 j2:=lf []
abbrev G9:aL:=#[.expr (.ak ↑0 5929987949 #[↑1])]
abbrev HA:aL:=#[.expr (.ak ↑0 6013939299 #[↑2%⇑0,↑2%⇑1])]
abbrev j3:aL:=#[.setAttr ↑0 1599430227059 (.op .lst #[]),.setAttr ↑0 109388970062261371602777502323 (.op .f5 #[]),.setAttr ↑0 25829672611287626355 (.op .lst #[]),.setAttr ↑0 1861224063156749765404099319326667379 (.op .f5 #[]),.forIn 1 (.call 1 #[]) G9,.forIn 2 (.call 2 #[]) HA]
def g3:LF 3 1 2 j3:=lf [6230994022,6247774324,24276855]
abbrev j4:aL:=#[.asg 2 (.bm .ew (↑0*"atom_numbers") #[↑1,.const (.int i1)]),.ite (.op (.cmp .GtE) #[↑2,⇑0]) #[.ret ↑2] #[],.asg 3 (.op (.f1 .len) #[↑0*"texts"]),.expr (.bm .append (↑0*"texts") #[↑1]),.cB (↑0*"atom_numbers") ↑1 ↑3,.ret ↑3]
def g4:LF 4 2 2 j4:=lf [6230994022,6247774324,1539468258916,402925602104690]
abbrev j6:aL:=#[.asg 3 (↑1,↑2),.asg 4 (.bm .ew (↑0*"functor_numbers") #[↑3,.const (.int i1)]),.ite (.op (.cmp .GtE) #[↑4,⇑0]) #[.ret ↑4] #[],.asg 5 (.op (.f1 .len) #[↑0*"functors"]),.expr (.bm .append (↑0*"functors") #[↑3]),.cB (↑0*"functor_numbers") ↑3 ↑5,.ret ↑5]
def g6:LF 6 3 3 j6:=lf [6230994022,5929987949,1518042969209,23815545,1539468258916,402925602104690]
abbrev j7:aL:=#[.ret (.ak ↑0 100897158637842290 #[.ak ↑0 5929987949 #[↑1],↑2])]
def g7:LF 7 3 0 j7:=lf [6230994022,6247774324,1518042969209]
abbrev j9:aL:=#[.ret ((↑0*"functors"%↑1)%⇑1)]
def g9:LF 9 2 0 j9:=lf [6230994022,100897158637842290]
abbrev Rh:aL:=#[.ret (.call 15 #[.op .lst #[↑0]])]
def PF:LF 14 1 0 Rh:=lf [6247772781]
abbrev Sl:IE:=↑3
abbrev Rj:aL:=#[.asg 4 (.bm .pop ↑3 #[]),.ite ((↑4%⇑0)=="v") #[.ite (.op (.cmp .NotIn) #[↑4%⇑1,↑1]) #[.cB ↑1 (↑4%⇑1) (.const (.bool F6)),.expr (.bm .append ↑2 #[↑4%⇑1])] #[]] #[.ite ((↑4%⇑0)=="s") #[.expr (.jD ↑3 (↑4%⇑2))] #[]]]
abbrev Ri:aL:=#[.asg 1 (.op .f5 #[]),.asg 2 (.op .lst #[]),.asg 3 (.op .listRev #[↑0]),.eU Sl Rj,.ret ↑2]
def PG:LF 15 1 4 Ri:=lf [1599429832051,6230992238,407255031049332,6248424559,6247772781]
abbrev Sn:IE:=↑2
abbrev Rl:aL:=#[.asg 3 (.bm .pop ↑2 #[]),.ite ((↑3%⇑0)=="v") #[.cB ↑1 (↑3%⇑1) ((.bm .ew ↑1 #[↑3%⇑1,⇑0])+⇑1)] #[.ite ((↑3%⇑0)=="s") #[.expr (.jD ↑2 (↑3%⇑2))] #[]]]
abbrev Rk:aL:=#[.asg 1 (.op .f5 #[]),.asg 2 (.op .lst #[↑0]),.eU Sn Rl,.ret ↑1]
def PH:LF 16 1 3 Rk:=lf [6247772781,390805339403379,6248424559,6180401780]
abbrev Rn:aL:=#[.ite ((↑0%⇑0)=="a") #[.ret (⇑4,↑0%⇑1)] #[],.ret (⇑5,↑0%⇑1)]
def PI:LF 17 1 0 Rn:=lf [6247772781]
abbrev Ro:aL:=#[.setAttr ↑0 399558432417132 ↑1,.setAttr ↑0 6181118318 ↑2,.setAttr ↑0 5963211877 (.op .lst #[]),.setAttr ↑0 6230992238 (.op .oE #[]),.setAttr ↑0 1565236879724 (.op .oE #[]),.setAttr ↑0 7431401238237797656773434007450233 (↑1*"count")]
def PJ:LF 18 3 0 Ro:=lf [6230994022,399558432417132,6181118318]
abbrev Rp:aL:=#[.expr (.bm .append (↑0*"code") #[↑1])]
def PK:LF 19 2 0 Rp:=lf [6230994022,436943810960463395400806254]
abbrev Rq:aL:=#[.asg 1 (↑0*"next_temporary"),.setAttr ↑0 7431401238237797656773434007450233 (↑1+⇑1),.ret ("t",↑1)]
def PL:LF 20 1 1 Rq:=lf [6230994022,402925602104690]
abbrev Rt:aL:=#[.ret ((↑0*"plan"*"infos"%↑1*"kind")=="void")]
def PM:LF 21 2 0 Rt:=lf [6230994022,363]
abbrev Ru:aL:=#[.ret ((↑0*"plan"*"infos"%↑1*"kind")=="perm")]
def PN:LF 22 2 0 Ru:=lf [6230994022,363]
abbrev Rv:aL:=#[.asg 2 (↑0*"plan"*"infos"%↑1),.ite ((↑2*"kind")=="perm") #[.ret ("y",↑2*"slot")] #[],.ret ("t",↑1)]
def PO:LF 23 2 1 Rv:=lf [6230994022,363,6063810159]
abbrev Rw:aL:=#[.ite ((↑1%⇑0)=="v") #[.asg 3 (↑1%⇑1),.ite (.ak ↑0 101739320438647140 #[↑3]) #[.ret (.const .none)] #[],.ite (.op (.cmp .In) #[↑3,↑0*"seen"]) #[.expr (.ak ↑0 5996636532 #[("get_value",.ak ↑0 1582366286693 #[↑3],↑2)])] #[.expr (.bm .add (↑0*"seen") #[↑3]),.expr (.bm .add (↑0*"local") #[↑3]),.expr (.ak ↑0 5996636532 #[("get_variable",.ak ↑0 1582366286693 #[↑3],↑2)])]] #[.ite ((↑1%⇑0)=="s") #[.expr (.ak ↑0 1569298080616 #[↑1,↑2])] #[.expr (.ak ↑0 5996636532 #[("get_constant",.call 17 #[↑1],↑2)])]]]
def PQ:LF 24 3 1 Rw:=lf [6230994022,6247772781,408397525705573,363]
abbrev HY:IE:=((((↑3%(.const (.int i1)))%⇑2)%(.const (.int i1)))%⇑0)=="s"
abbrev G8:aL:=#[.expr (.bm .append ↑3 #[((↑3%(.const (.int i1)))%⇑2)%(.const (.int i1))])]
abbrev Sq:IE:=.op (.cmp .GtE) #[↑5,⇑0]
abbrev wh:aL:=#[.asg 6 (↑3%↑5),.asg 7 (.ak ↑0 109699635645612750339947324787 #[↑6%⇑2,↑4]),.ite (↑5==⇑0) #[.asg 8 ↑2] #[.asg 8 (.ak ↑0 29028909779157184358610936885881 #[])],.ite ((↑6%⇑1)==⇑0) #[.expr (.ak ↑0 5996636532 #[("put_list",↑8)])] #[.expr (.ak ↑0 5996636532 #[("put_structure",↑6%⇑1,↑8)])],.expr (.ak ↑0 29425046964601494130652034790515 #[↑7]),.asg 4 ↑8,.aug 5 .Sub ⇑1]
abbrev Rx:aL:=#[.asg 3 (.op .lst #[↑1]),.eU HY G8,.asg 4 (.const .none),.asg 5 (.op (.bin .Sub) #[.op (.f1 .len) #[↑3],⇑1]),.eU Sq wh]
def PT:LF 28 3 6 Rx:=lf [6230994022,6247772781,409436856739188,1526464604526,1522120028023,90484,6147761253,405072951600499,26689852469287347570]
abbrev HZ:IE:=.op (.cmp .LtE) #[↑5,↑4]
abbrev A0:aL:=#[.asg 6 (↑1%↑5),.ite (.and (↑5==↑4) (.op .mm #[↑2])) #[.expr (.bm .append ↑3 #[↑2])] #[.ite ((↑6%⇑0)=="s") #[.asg 7 (.ak ↑0 29028909779157184358610936885881 #[]),.expr (.ak ↑0 1522388266084 #[↑6,↑7]),.expr (.bm .append ↑3 #[↑7])] #[.expr (.bm .append ↑3 #[↑6])]],.aug 5 .Add ⇑1]
abbrev Ry:aL:=#[.asg 3 (.op .lst #[]),.asg 4 (.op (.bin .Sub) #[.op (.f1 .len) #[↑1],⇑1]),.asg 5 ⇑0,.eU HZ A0,.ret ↑3]
def GQ:LF 29 3 5 Ry:=lf [6230994022,5929854835,1522120028023,405072951600499,6113293172,90484,23163495,6869497416814208053881]
abbrev rJ:aL:=#[.ite (.and ((↑3%⇑0)=="v") (.ak ↑0 101739320438647140 #[↑3%⇑1])) #[.aug 2 .Add ⇑1,.cont] #[],.ite (.op (.cmp .Gt) #[↑2,⇑0]) #[.expr (.ak ↑0 5996636532 #[("set_void",↑2)]),.asg 2 ⇑0] #[],.ite ((↑3%⇑0)=="v") #[.expr (.ak ↑0 114941589706983022890938690661 #[↑3%⇑1])] #[.ite ((↑3%⇑0)=="t") #[.expr (.ak ↑0 5996636532 #[("set_value",↑3)])] #[.expr (.ak ↑0 5996636532 #[("set_constant",.call 17 #[↑3])])]]]
abbrev Rz:aL:=#[.asg 2 ⇑0,.forIn 3 ↑1 rJ,.ite (.op (.cmp .Gt) #[↑2,⇑0]) #[.expr (.ak ↑0 5996636532 #[("set_void",↑2)])] #[]]
def PU:LF 30 2 2 Rz:=lf [6230994022,405072951600499,1608186946675,1582316217189]
abbrev R0:aL:=#[.ite (.op (.cmp .NotIn) #[↑1,↑0*"seen"]) #[.expr (.bm .add (↑0*"seen") #[↑1]),.expr (.ak ↑0 5996636532 #[("set_variable",.ak ↑0 1582366286693 #[↑1])])] #[.ite (.op (.cmp .In) #[↑1,↑0*"local"]) #[.expr (.ak ↑0 5996636532 #[("set_local_value",.ak ↑0 1582366286693 #[↑1])]),.ite (.not (.ak ↑0 111863565712922486446909386356 #[↑1])) #[.expr (.bm .discard (↑0*"local") #[↑1])] #[]] #[.expr (.ak ↑0 5996636532 #[("set_value",.ak ↑0 1582366286693 #[↑1])])]]]
def PV:LF 31 2 0 R0:=lf [6230994022,363]
abbrev HC:aL:=#[.aug 3 .Add ⇑1,.asg 5 ("a",↑3),.ite ((↑4%⇑0)=="v") #[.expr (.ak ↑0 28873521731084510004641471294565 #[↑4%⇑1,↑5,↑2])] #[.ite ((↑4%⇑0)=="s") #[.expr (.ak ↑0 1522388266084 #[↑4,↑5])] #[.expr (.ak ↑0 5996636532 #[("put_constant",.call 17 #[↑4],↑5)])]]]
abbrev R1:aL:=#[.asg 3 ⇑0,.forIn 4 ↑1 HC]
def PW:LF 41 3 3 R1:=lf [6230994022,5929854835,102568360795532903,402925602104690,23163495,409436856739188]
abbrev R2:aL:=#[.asg 4 (↑0*"plan"*"infos"%↑1),.ite ((↑4*"kind")=="void") #[.expr (.ak ↑0 5996636532 #[("put_void",↑2)])] #[.ite (.op (.cmp .NotIn) #[↑1,↑0*"seen"]) #[.expr (.bm .add (↑0*"seen") #[↑1]),.ite ((↑4*"kind")=="perm") #[.expr (.bm .add (↑0*"local") #[↑1])] #[],.expr (.ak ↑0 5996636532 #[("put_variable",.ak ↑0 1582366286693 #[↑1],↑2)])] #[.ite (.and (↑4*"unsafe") (.and (.op (.cmp .GtE) #[↑3,⇑0]) ((↑4*"last_goal")==↑3))) #[.expr (.ak ↑0 5996636532 #[("put_unsafe_value",.ak ↑0 1582366286693 #[↑1],↑2)])] #[.expr (.ak ↑0 5996636532 #[("put_value",.ak ↑0 1582366286693 #[↑1],↑2)])]]]]
def PX:LF 42 4 1 R2:=lf [6230994022,363,409436856739188,102568360795532903,6063810159]
abbrev R3:aL:=#[.ite (.ak ↑0 101739320438647140 #[↑2]) #[.ret (.const .none)] #[],.expr (.bm .add (↑0*"seen") #[↑2]),.expr (.ak ↑0 5996636532 #[(↑1,.ak ↑0 1582366286693 #[↑2])])]
def PY:LF 43 3 0 R3:=lf [6230994022,6146846053,363]
abbrev R4:aL:=#[.asg 2 (↑0*"kernel"*"goals"%↑1),.asg 3 (↑2%⇑0),.ite (↑3=="call") #[.expr (.ak ↑0 7391621563157248401458788381389939 #[↑2%⇑2,↑1])] #[.ite (↑3=="builtin") #[.expr (.ak ↑0 7391621563157248401458788381389939 #[↑2%⇑2,.const (.int i1)]),.expr (.ak ↑0 5996636532 #[("builtin",↑2%⇑1)])] #[.ite (↑3=="unify") #[.expr (.ak ↑0 1763479434849757986513260 #[↑2%⇑1,↑2%⇑2])] #[.ite (↑3=="cut") #[.expr (.ak ↑0 5996636532 #[.op .tup #["neck_cut"]])] #[.ite (↑3=="level") #[.expr (.ak ↑0 443021384642753003221115244 #["get_level",↑2%⇑1])] #[.ite (↑3=="mark") #[.expr (.ak ↑0 443021384642753003221115244 #["mark",↑2%⇑1])] #[.ite (↑3=="cutto") #[.expr (.ak ↑0 443021384642753003221115244 #["cut_to",↑2%⇑1])] #[.expr (.ak ↑0 5996636532 #[.op .tup #["fail"]])]]]]]]]]
def PZ:LF 44 2 2 R4:=lf [6230994022,1552335267192,6030319980,6097038948]
abbrev HD:aL:=#[.aug 3 .Add ⇑1,.expr (.ak ↑0 28553514230927730767136968502900 #[↑4,("a",↑3)])]
abbrev Ha:IE:=.op (.cmp .Lt) #[↑6,↑5]
abbrev HE:aL:=#[.expr (.ak ↑0 6030319980 #[↑6]),.ite ((↑2%↑6%⇑0)=="call") #[.expr (.ak ↑0 5996636532 #[("call",↑2%↑6%⇑1,↑1*"live_after"%↑6)])] #[],.aug 6 .Add ⇑1]
abbrev rK:aL:=#[.asg 1 (↑0*"plan"),.asg 2 (↑0*"kernel"*"goals"),.ite (↑1*"needs_env") #[.expr (.ak ↑0 5996636532 #[("allocate",↑1*"env_size")])] #[],.asg 3 ⇑0,.forIn 4 (↑0*"kernel"*"args") HD,.asg 5 (.op (.bin .Sub) #[.op (.f1 .len) #[↑2],⇑1]),.asg 6 ⇑0,.eU Ha HE,.ite (.op (.cmp .GtE) #[↑5,⇑0]) #[.expr (.ak ↑0 6030319980 #[↑5])] #[],.ite (↑1*"needs_env") #[.expr (.ak ↑0 5996636532 #[.op .tup #["deallocate"]])] #[],.ite (.and (.op (.cmp .GtE) #[↑5,⇑0]) ((↑2%↑5%⇑0)=="call")) #[.expr (.ak ↑0 5996636532 #[("execute",↑2%↑5%⇑1)])] #[.expr (.ak ↑0 5996636532 #[.op .tup #["proceed"]])],.ret (↑0*"code")]
def Pb:LF 45 1 6 rK:=lf [6230994022,6181118318,1543761914995,402925602104690,23163495,6113293172,1552335267192]
abbrev R6:aL:=#[.ret (.ak (.new 5 #[↑1,↑2]) 390792119415653 #[])]
def Pd:LF 46 3 0 R6:=lf [104560727069518963,399558432417132,6181118318]
abbrev R7:aL:=#[.setAttr ↑0 100897158637842290 ↑1,.setAttr ↑0 5929854835 ↑2,.setAttr ↑0 1543761914995 ↑3,.setAttr ↑0 1526583357044 ↑4]
def Pf:LF 47 5 0 R7:=lf [6230994022,100897158637842290,5929854835,1543761914995,1526583357044]
abbrev R8:aL:=#[.asg 1 (↑0%⇑0),.ite (.or (↑1=="call") (↑1=="builtin")) #[.ret (↑0%⇑2)] #[],.ite (↑1=="unify") #[.ret (↑0%⇑1,↑0%⇑2)] #[],.ret (.op .tup #[])]
def Pg:LF 48 1 1 R8:=lf [6030319980,6097038948]
abbrev R9:aL:=#[.ite (.or ((↑0%⇑0)=="level") (.or ((↑0%⇑0)=="mark") ((↑0%⇑0)=="cutto"))) #[.ret (↑0%⇑1)] #[],.ret (.const (.int i1))]
def Ph:LF 49 1 0 R9:=lf [6030319980]
abbrev SD:aL:=#[.setAttr ↑0 24535410 ↑1,.setAttr ↑0 6097038948 "temp",.setAttr ↑0 6231453556 ⇑0,.setAttr ↑0 1539367400308 ↑2,.setAttr ↑0 410592219326053 (.const (.bool L0)),.setAttr ↑0 6721636927027383591276 (.const (.int i1)),.setAttr ↑0 1526583357044 ⇑0,.setAttr ↑0 433293403150942252400209515 ⇑0,.setAttr ↑0 1720739053318992903368299 ⇑0]
def Pj:LF 50 3 0 SD:=lf [6230994022,363,1539367400308]
abbrev SF:aL:=#[.setAttr ↑0 1552335400819 ↑1,.setAttr ↑0 390775274630003 ↑2,.setAttr ↑0 6758814687394858888822 ↑3,.setAttr ↑0 25755653471308708453 ↑4,.setAttr ↑0 1720886839222231419348338 ↑5]
def Pm:LF 51 6 0 SF:=lf [6230994022,1552335400819,390775274630003,6758814687394858888822,25755653471308708453,1720886839222231419348338]
abbrev A1:aL:=#[.expr (.bm .append ↑1 #[↑2]),.ite ((↑3%⇑0)=="call") #[.aug 2 .Add ⇑1] #[]]
abbrev SG:aL:=#[.asg 1 (.op .lst #[]),.asg 2 ⇑0,.forIn 3 ↑0 A1,.ret ↑1]
def Pn:LF 57 1 3 SG:=lf [1543761914995,390775274630003,1526465916523,6030319980]
abbrev SH:aL:=#[.setAttr ↑0 1552335400819 (.op .f5 #[])]
def Po:LF 58 1 0 SH:=lf [6230994022]
abbrev HF:aL:=#[.ite (.op (.cmp .NotIn) #[↑1,↑0*"infos"]) #[.cB (↑0*"infos") ↑1 (.new 7 #[↑1,↑2]),.setAttr (↑0*"infos"%↑1) 433293403150942252400209515 ↑4] #[],.asg 6 (↑0*"infos"%↑1),.lI ↑6 1526583357044 .Add ↑5,.setAttr ↑6 6721636927027383591276 ↑3,.setAttr ↑6 1720739053318992903368299 ↑4]
def Pp:LF 59 6 1 HF:=lf [6230994022,363,1539367400308,6030319980,1526465916523,1526583357044,6063810159]
abbrev HG:aL:=#[.expr (.ak ↑0 6130328948 #[↑7,↑2+"_struct",↑3,↑4,↑6%↑7])]
abbrev wi:aL:=#[.ite ((↑5%⇑0)=="v") #[.expr (.ak ↑0 6130328948 #[↑5%⇑1,↑2+"_arg",↑3,↑4,⇑1])] #[.asg 6 (.call 16 #[↑5]),.forIn 7 (.call 14 #[↑5]) HG]]
abbrev SI:aL:=#[.forIn 5 ↑1 wi]
def Pq:LF 60 5 3 SI:=lf [6230994022,1599429832051,1582366286693,6030319980,1526465916523,6247772781,390805339403379,363]
abbrev SJ:aL:=#[.ite ((↑0*"count")==⇑1) #[.ret "void"] #[],.ite (.op (.cmp .Gt) #[↑0*"last_chunk",↑0*"first_chunk"]) #[.ret "perm"] #[],.ret "temp"]
def Pt:LF 61 1 0 SJ:=lf [6063810159]
abbrev Hb:IE:=.and (.op (.cmp .Gt) #[↑4,⇑0]) (.op (.cmp .Lt) #[.op (.attr 6721636927027383591276) #[↑0%(↑1%(.op (.bin .Sub) #[↑4,⇑1]))],↑3*"last_goal"])
abbrev HH:aL:=#[.aug 4 .Sub ⇑1]
abbrev HJ:aL:=#[.asg 3 (↑0%↑2),.ite ((↑3*"kind")=="perm") #[.asg 4 (.op (.f1 .len) #[↑1]),.eU Hb HH,.expr (.bm .insert ↑1 #[↑4,↑2])] #[]]
abbrev SK:aL:=#[.asg 1 (.op .lst #[]),.forIn 2 (.op (.f1 .sorted) #[↑0]) HJ,.ret ↑1]
def Pu:LF 62 1 4 SK:=lf [1552335400819,1578172179826,363,6063810159,90484]
abbrev A2:aL:=#[.asg 6 (↑1%↑5),.asg 7 (.call 49 #[↑6]),.ite (.op (.cmp .GtE) #[↑7,⇑0]) #[.expr (.ak ↑3 6130328948 #[↑7,"special",↑5,↑2%↑5,⇑1])] #[],.expr (.ak ↑3 1599429832051 #[.call 48 #[↑6],"goal",↑5,↑2%↑5]),.ite (.and ((↑6%⇑0)=="call") (.op (.cmp .Lt) #[↑5+⇑1,.op (.f1 .len) #[↑1]])) #[.asg 4 (.const (.bool F6))] #[]]
abbrev HK:aL:=#[.setAttr (↑8%↑9) 6097038948 (.call 61 #[↑8%↑9])]
abbrev HL:aL:=#[.asg 11 (↑8%(↑10%↑5)),.setAttr ↑11 6231453556 (↑5+⇑1),.setAttr ↑11 410592219326053 ((↑11*"first")=="goal_arg")]
abbrev Hc:IE:=.and (.op (.cmp .Lt) #[↑13,.op (.f1 .len) #[↑10]]) (.op (.cmp .Gt) #[↑8%(↑10%↑13)*"last_goal",↑5])
abbrev HM:aL:=#[.aug 13 .Add ⇑1]
abbrev HN:aL:=#[.asg 13 ⇑0,.eU Hc HM,.expr (.bm .append ↑12 #[↑13])]
abbrev SM:aL:=#[.asg 1 (↑0*"goals"),.asg 2 (.call 57 #[↑1]),.asg 3 (.new 9 #[]),.expr (.ak ↑3 1599429832051 #[↑0*"args","head",.const (.int i1),⇑0]),.asg 4 (.const (.bool L0)),.forR 5 (.op (.f1 .len) #[↑1]) A2,.asg 8 (↑3*"infos"),.forIn 9 ↑8 HK,.asg 10 (.call 62 #[↑8]),.forR 5 (.op (.f1 .len) #[↑10]) HL,.asg 12 (.op .lst #[]),.forR 5 (.op (.f1 .len) #[↑1]) HN,.ret (.new 8 #[↑8,↑2,↑4,.op (.f1 .len) #[↑10],↑12])]
def Pw:LF 63 1 13 SM:=lf [399558432417132,1543761914995,390775274630003,408423245440377,6758814687394858888822,90484,6030319980,104550797121511788,1552335400819,363,1578172179826,6063810159,1720886839222231419348338,6113818213]
abbrev A3:aL:=#[.ite (.op (.cmp .Lt) #[↑0%⇑0,⇑1000]) #[.asg 2 (↑0%⇑1),.cB ↑0 ⇑1 (↑2+⇑1),.asg 3 (↑0%⇑2%(.op (.bin .Mod) #[↑2,.op (.f1 .len) #[↑0%⇑2]])),.ite (↑3==⇑0) #[.ret ⇑0] #[],.ite (.and (.op (.cmp .Lt) #[↑2,.op (.f1 .len) #[↑0%⇑2]]) (.op (.cmp .GtE) #[↑3,.op (.bin .Pow) #[⇑10,⇑18]])) #[.cB ↑0 ⇑0 (.op (.bin .Mod) #[↑3,.op (.bin .Pow) #[⇑10,⇑60]])] #[.cB ↑0 ⇑0 (.op (.bin .Mod) #[.op (.bin .Mult) #[((.op (.bin .Mod) #[↑3,⇑2305843009213693951])+(.op (.bin .Mult) #[⇑104729,↑2]))+⇑17,⇑6364136223846793005+(.op (.bin .Mult) #[⇑2,↑2])],⇑2305843009213693951])]] #[],.asg 4 (.op (.bin .Mod) #[↑0%⇑0,↑1]),.cB ↑0 ⇑0 (.op (.bin .FloorDiv) #[↑0%⇑0,↑1]),.ret ↑4]
def Py:LF 64 2 3 A3:=lf [6181318508,6130987892,1582366286693,5962558572,1530927347566]
abbrev Sr:IE:=.call 65 #[↑2,↑1]
abbrev SO:aL:=#[.ite ((↑0%⇑0)=="v") #[.ite (.op (.cmp .NotIn) #[↑0%⇑1,↑1]) #[.cB ↑1 (↑0%⇑1) (.op (.f1 .len) #[↑1])] #[],.ret ("v",↑1%(↑0%⇑1))] #[],.ite ((↑0%⇑0)=="s") #[.ret ("s",↑0%⇑1,.op (.f1 .tuple) #[.comp Sr 2 (↑0%⇑2)])] #[],.ret ↑0]
def Ab:LF 65 2 1 SO:=lf [6247772781,1599361674341,6180401780]
abbrev Hf:IE:=.call 65 #[↑2,↑1]
abbrev SP:aL:=#[.asg 1 (.op .f5 #[]),.ret (.comp Hf 2 ↑0)]
def GR:LF 66 1 2 SP:=lf [1599429832051,1599361674341,6247772781]
abbrev SR:aL:=#[.expr (.call 67 #[↑2,↑1])]
abbrev SQ:aL:=#[.ite ((↑0%⇑0)=="v") #[.ite (.op (.cmp .NotIn) #[↑0%⇑1,↑1]) #[.expr (.bm .append ↑1 #[↑0%⇑1])] #[]] #[.ite ((↑0%⇑0)=="s") #[.forIn 2 (↑0%⇑2) SR] #[]],.ret ↑1]
def Ac:LF 67 2 1 SQ:=lf [6247772781,6230992238,6180401780]
abbrev Hd:IE:=.and ((↑1%⇑0)=="v") (.op (.cmp .In) #[↑1%⇑1,↑0])
abbrev HO:aL:=#[.asg 1 (↑0%(↑1%⇑1))]
abbrev SU:aL:=#[.eU Hd HO,.ret ↑1]
def Pz:LF 68 2 0 SU:=lf [1522288389732,6247772781]
abbrev Ss:IE:=.call 69 #[↑0,↑2]
abbrev SW:aL:=#[.asg 1 (.call 68 #[↑0,↑1]),.ite ((↑1%⇑0)=="s") #[.ret ("s",↑1%⇑1,.op (.f1 .tuple) #[.comp Ss 2 (↑1%⇑2)])] #[],.ret ↑1]
def GS:LF 69 2 1 SW:=lf [1522288389732,6247772781,6180401780]
abbrev He:IE:=.op .fY #[↑3]
abbrev HP:aL:=#[.asg 4 (.call 68 #[↑0,.bm .pop ↑3 #[]]),.ite (↑4==("v",↑1)) #[.ret (.const (.bool F6))] #[],.ite ((↑4%⇑0)=="s") #[.aug 3 .Add (.op (.f1 .list) #[↑4%⇑2])] #[]]
abbrev SX:aL:=#[.asg 3 (.op .lst #[↑2]),.eU He HP,.ret (.const (.bool L0))]
def P9:LF 70 3 2 SX:=lf [1522288389732,402925602104690,6247772781,6248424559,6180401780]
abbrev Su:IE:=(↑1%⇑2%↑4,↑2%⇑2%↑4)
abbrev uA:IE:=.op .fY #[↑3]
abbrev rL:aL:=#[.gf [1,2] (.bm .pop ↑3 #[]),.asg 1 (.call 68 #[↑0,↑1]),.asg 2 (.call 68 #[↑0,↑2]),.ite (.and ((↑2%⇑0)=="v") (.op (.cmp .NotEq) #[↑1%⇑0,"v"])) #[.gf [1,2] (↑2,↑1)] #[],.ite ((↑1%⇑0)=="v") #[.ite (↑1==↑2) #[.cont] #[],.ite (.call 70 #[↑0,↑1%⇑1,↑2]) #[.ret (.const (.bool L0))] #[],.cB ↑0 (↑1%⇑1) ↑2] #[.ite (.and ((↑1%⇑0)=="s") (.and ((↑2%⇑0)=="s") ((↑1%⇑1)==(↑2%⇑1)))) #[.aug 3 .Add (.gL Su 4 (.op (.f1 .len) #[↑1%⇑2]))] #[.ite (.or ((↑1%⇑0)=="s") (.or ((↑2%⇑0)=="s") (.op (.cmp .NotEq) #[↑1,↑2]))) #[.ret (.const (.bool L0))] #[]]]]
abbrev SY:aL:=#[.asg 3 (.op .lst #[(↑1,↑2)]),.eU uA rL,.ret (.const (.bool F6))]
def QA:LF 71 3 2 SY:=lf [1522288389732,24079973,24409967,6248424559,1582366286693]
abbrev Sw:IE:=.call 69 #[↑0,↑6]
abbrev Se:aL:=#[.expr (.call 67 #[↑9,↑8])]
abbrev Sa:aL:=#[.asg 7 (.comp Sw 6 ↑3),.asg 8 (.op .lst #[]),.forIn 9 ↑7 Se,.expr (.bm .append ↑4 #[(↑1,↑2,.call 66 #[↑7])]),.asg 10 (↑5%(.op (.bin .Mod) #[.op (.f1 .len) #[↑4],.op (.f1 .len) #[↑5]])),.ite (.and (.op .fY #[↑8]) (.op (.cmp .Gt) #[↑10,⇑0])) #[.cB ↑0 (↑8%(.op (.bin .Mod) #[↑10,.op (.f1 .len) #[↑8]])) ("i",⇑700+(.op (.f1 .len) #[↑4]))] #[]]
def QB:LF 72 6 5 Sa:=lf [1522288389732,6097038948,402925602104690,1582182855795,393034158994547,1582316088179,6180401780,1612364868709,1573592589683,6247772781,6180922219]
abbrev HQ:aL:=#[.ite (.not (.call 71 #[↑0,↑1*"args"%↑6,↑2%↑6])) #[.ret (↑4,↑5,"failed")] #[]]
abbrev A4:aL:=#[.ite (.or ((↑7%⇑0)=="call") ((↑7%⇑0)=="builtin")) #[.aug 5 .Add (.op (.f1 .list) #[↑7%⇑2]),.expr (.call 72 #[↑0,↑7%⇑0,↑7%⇑1,↑7%⇑2,↑4,↑3])] #[.ite ((↑7%⇑0)=="unify") #[.ite (.not (.call 71 #[↑0,↑7%⇑1,↑7%⇑2])) #[.ret (↑4,↑5,"failed")] #[]] #[.ite ((↑7%⇑0)=="level") #[.cB ↑0 (↑7%⇑1) ("i",.const (.int i4))] #[.ite ((↑7%⇑0)=="mark") #[.cB ↑0 (↑7%⇑1) ("i",⇑5000+(.op (.f1 .len) #[↑4]))] #[.ite ((↑7%⇑0)=="cutto") #[.expr (.bm .append ↑4 #[("cutto",.call 66 #[.op .lst #[.call 69 #[↑0,("v",↑7%⇑1)]]])])] #[.ite ((↑7%⇑0)=="fail") #[.ret (↑4,↑5,"failed")] #[.expr (.bm .append ↑4 #[.op .tup #[↑7%⇑0]])]]]]]]]
abbrev Sf:aL:=#[.asg 4 (.op .lst #[]),.asg 5 (.op (.f1 .list) #[↑2]),.forR 6 (.op (.f1 .len) #[↑2]) HQ,.forIn 7 (↑1*"goals") A4,.ret (↑4,↑5,"done")]
def QC:LF 73 4 4 Sf:=lf [1522288389732,399558432417132,5962296428,1582316088179,393034158994547,6096777332,1582366286693,6030319980]
abbrev Sg:aL:=#[.ite (.op (.e5 [Aao,Aap,Aaq]) #[↑0%⇑0]) #[.ret (.op .lst #[↑0%⇑2])] #[],.ite ((↑0%⇑0)=="get_value") #[.ret (.op .lst #[↑0%⇑1,↑0%⇑2])] #[],.ite (.op (.e5 [[103,101,116,95,108,105,115,116],Aam,Aar,Aak,Aan,[112,117,116,95,118,97,108,117,101],Aas,[99,117,116,95,116,111]]) #[↑0%⇑0]) #[.ret (.op .lst #[↑0%⇑1])] #[],.ret (.op .lst #[])]
def QD:LF 74 1 0 Sg:=lf [23686771]
abbrev Sh:aL:=#[.ret (.ite ((↑0%⇑0)==⇑4) "a" "i",↑0%⇑1)]
def QE:LF 75 1 0 Sh:=lf [5962558572]
abbrev HS:aL:=#[.cB ↑7 ("a",↑8+⇑1) (↑3%↑8)]
abbrev HT:aL:=#[.ite ((↑11%⇑0)=="s") #[.expr (.call 67 #[↑11,↑10])] #[]]
abbrev HU:aL:=#[.ite (.and ((↑11%⇑0)=="v") (.op (.cmp .NotIn) #[↑11%⇑1,↑10])) #[.cB ↑9 (↑11%⇑1) (.const (.int i2))] #[]]
abbrev HV:aL:=#[.ite (.op (.cmp .NotIn) #[↑20,↑7]) #[.ret (↑5,↑6,"unset")] #[]]
abbrev HW:aL:=#[.aug 13 .Add ⇑1,.expr (.bm .append ↑12 #[("v",↑13)])]
abbrev A5:aL:=#[.ite (.op (.cmp .NotIn) #[("a",↑8+⇑1),↑7]) #[.ret (↑5,↑6,"unset")] #[],.expr (.bm .append ↑28 #[↑7%("a",↑8+⇑1)])]
abbrev A6:aL:=#[.ite (.or (.and (↑17=="builtin") ((↑30%⇑0)=="t")) (.and ((↑30%⇑0)=="y") (.op (.cmp .LtE) #[↑30%⇑1,↑14]))) #[.cB ↑29 ↑30 (↑7%↑30)] #[]]
abbrev BB:IE:=↑29%↑30
abbrev HX:aL:=#[.asg 27 (.call 68 #[↑2,↑11]),.ite (.and ((↑27%⇑0)=="v") (.and (.op (.cmp .In) #[↑27%⇑1,↑9]) (.op (.cmp .Gt) #[↑9%(↑27%⇑1),↑14]))) #[.ret (↑5,↑6,"loose")] #[]]
abbrev wj:aL:=#[.asg 16 (↑1%↑15),.asg 17 (↑16%⇑0),.asg 18 (↑16%(.op (.bin .Sub) #[.op (.f1 .len) #[↑16],⇑1])),.asg 19 (.const (.bool F6)),.forIn 20 (.call 74 #[↑16]) HV,.ite (.op (.cmp .NotEq) #[.or ((.op .jv #[↑17,⇑6])=="unify_") ((.op .jv #[↑17,⇑4])=="set_"),.op .fY #[↑12]]) #[.ret (↑5,↑6,"torn")] #[],.ite (↑17=="get_variable") #[.cB ↑7 (↑16%⇑1) (↑7%(↑16%⇑2))] #[.ite (↑17=="get_value") #[.asg 21 (.call 68 #[↑2,↑7%(↑16%⇑1)]),.asg 22 (.call 68 #[↑2,↑7%(↑16%⇑2)]),.asg 23 (.ite ((↑21%⇑0)=="v") (.bm .ew ↑9 #[↑21%⇑1,.const (.int i3)]) (.const (.int i3))),.ite (.and ((↑22%⇑0)=="v") (.op (.cmp .Gt) #[.bm .ew ↑9 #[↑22%⇑1,.const (.int i3)],↑23])) #[.swap 21 22 ↑22 ↑21] #[],.asg 19 (.call 71 #[↑2,↑21,↑22])] #[.ite (↑17=="get_constant") #[.asg 19 (.call 71 #[↑2,↑7%(↑16%⇑2),.call 75 #[↑16%⇑1]])] #[.ite (.op (.e5 [[103,101,116,95,108,105,115,116],Aaq,[112,117,116,95,108,105,115,116],Aat]) #[↑17]) #[.asg 24 (.ite ((.op .iS #[↑17,⇑4])=="structure") (↑16%⇑1) ⇑0),.forR 8 (.ak ↑0 1518042969209 #[↑24]) HW,.asg 25 ("s",↑24,.op (.f1 .tuple) #[↑12]),.ite ((.op .jv #[↑17,⇑4])=="put_") #[.cB ↑7 ↑18 ↑25] #[.asg 26 (.call 68 #[↑2,↑7%↑18]),.ite ((↑26%⇑0)=="v") #[.cB ↑2 (↑26%⇑1) ↑25] #[.ite (.and ((↑26%⇑0)=="s") ((↑26%⇑1)==↑24)) #[.asg 12 (.op (.f1 .list) #[↑26%⇑2])] #[.asg 19 (.const (.bool L0))]]]] #[.ite (.op (.e5 [[117,110,105,102,121,95,118,97,114,105,97,98,108,101],Aau]) #[↑17]) #[.cB ↑7 (↑16%⇑1) (↑12%⇑0),.asg 12 (.op .iS #[↑12,⇑1])] #[.ite (.op (.e5 [[117,110,105,102,121,95,99,111,110,115,116,97,110,116],Aav]) #[↑17]) #[.asg 19 (.call 71 #[↑2,↑12%⇑0,.call 75 #[↑16%⇑1]]),.asg 12 (.op .iS #[↑12,⇑1])] #[.ite (.op (.e5 [[117,110,105,102,121,95,118,111,105,100],[115,101,116,95,118,111,105,100]]) #[↑17]) #[.ite (.op (.cmp .Lt) #[.op (.f1 .len) #[↑12],↑16%⇑1]) #[.ret (↑5,↑6,"torn")] #[],.asg 12 (.op .iS #[↑12,↑16%⇑1])] #[.ite (.op (.e5 [Aam,Aar,Aak,Aan]) #[↑17]) #[.asg 27 (.call 68 #[↑2,↑7%(↑16%⇑1)]),.ite (.and ((↑27%⇑0)=="v") (.op (.cmp .In) #[↑27%⇑1,↑9])) #[.ite (.op (.e5 [Aam,Aak]) #[↑17]) #[.ret (↑5,↑6,"loose")] #[],.expr (.bm .gM ↑9 #[↑27%⇑1])] #[],.asg 19 (.call 71 #[↑2,↑12%⇑0,↑27]),.asg 12 (.op .iS #[↑12,⇑1])] #[.ite (.or (↑17=="put_variable") (↑17=="put_void")) #[.aug 13 .Add ⇑1,.cB ↑7 (↑16%⇑1) ("v",↑13),.cB ↑7 ↑18 ("v",↑13),.ite ((↑16%⇑1%⇑0)=="y") #[.cB ↑9 ↑13 (↑16%⇑1%⇑1)] #[]] #[.ite (↑17=="put_value") #[.cB ↑7 (↑16%⇑2) (↑7%(↑16%⇑1))] #[.ite (↑17=="put_unsafe_value") #[.asg 27 (.call 68 #[↑2,↑7%(↑16%⇑1)]),.ite (.and ((↑27%⇑0)=="v") (.op (.cmp .In) #[↑27%⇑1,↑9])) #[.expr (.bm .gM ↑9 #[↑27%⇑1])] #[],.cB ↑7 (↑16%⇑2) ↑27] #[.ite (↑17=="put_constant") #[.cB ↑7 (↑16%⇑2) (.call 75 #[↑16%⇑1])] #[.ite (↑17=="get_level") #[.cB ↑7 (↑16%⇑1) ("i",.const (.int i4))] #[.ite (↑17=="mark") #[.cB ↑7 (↑16%⇑1) ("i",⇑5000+(.op (.f1 .len) #[↑5]))] #[.ite (↑17=="cut_to") #[.expr (.bm .append ↑5 #[("cutto",.call 66 #[.op .lst #[.call 69 #[↑2,↑7%(↑16%⇑1)]]])])] #[.ite (↑17=="neck_cut") #[.expr (.bm .append ↑5 #[.op .tup #["cut"]])] #[.ite (↑17=="fail") #[.asg 19 (.const (.bool L0))] #[.ite (↑17=="allocate") #[.ite (.or (.op (.cmp .GtE) #[↑14,⇑0]) (.op (.cmp .Gt) #[↑15,⇑0])) #[.ret (↑5,↑6,"torn")] #[],.asg 14 (↑16%⇑1)] #[.ite (↑17=="deallocate") #[.asg 14 (.const (.int i1))] #[.ite (.op (.e5 [Aaa,[101,120,101,99,117,116,101],Aac]) #[↑17]) #[.asg 28 (.op .lst #[]),.forR 8 (.ak ↑0 1518042969209 #[↑16%⇑1]) A5,.ite (↑17=="call") #[.ite (.op (.cmp .Gt) #[↑16%⇑2,↑14]) #[.ret (↑5,↑6,"torn")] #[],.asg 14 (↑16%⇑2)] #[],.asg 29 (.op .f5 #[]),.forIn 30 ↑7 A6,.ite (.op (.cmp .NotEq) #[↑17,"builtin"]) #[.forIn 11 (↑28+(.comp BB 30 ↑29)) HX] #[],.asg 7 ↑29,.aug 6 .Add ↑28,.expr (.call 72 #[↑2,.ite (↑17=="builtin") "builtin" "call",↑16%⇑1,↑28,↑5,↑4]),.ite (↑17=="execute") #[.ret (↑5,↑6,.ite (.and (↑15==(.op (.bin .Sub) #[.op (.f1 .len) #[↑1],⇑1])) (↑14==(.const (.int i1)))) "done" "torn")] #[]] #[.ite (↑17=="proceed") #[.ret (↑5,↑6,.ite (.and (↑15==(.op (.bin .Sub) #[.op (.f1 .len) #[↑1],⇑1])) (↑14==(.const (.int i1)))) "done" "torn")] #[.ret (↑5,↑6,"unknown")]]]]]]]]]]]]]]]]]]]]],.ite (.not ↑19) #[.ret (↑5,↑6,"failed")] #[]]
abbrev HR:aL:=#[.asg 5 (.op .lst #[]),.asg 6 (.op (.f1 .list) #[↑3]),.asg 7 (.op .f5 #[]),.forR 8 (.op (.f1 .len) #[↑3]) HS,.asg 9 (.op .f5 #[]),.asg 10 (.op .lst #[]),.forIn 11 ↑3 HT,.forIn 11 ↑3 HU,.asg 12 (.op .lst #[]),.asg 13 ⇑100000,.asg 14 (.const (.int i1)),.forR 15 (.op (.f1 .len) #[↑1]) wj,.ret (↑5,↑6,"open")]
def QF:LF 76 5 26 HR:=lf [1595201252979,5963211877,1522288389732,5962296428,1582316088179,393034158994547,6096777332,6047100004,1582366286693,1565237670757,1552335922546,6247772781,6214218612,1595318301285,400675190697575,90484,23686771,6146846053,6113293172,23946612,6147106148,24079973,24409967,1578071516530,402925602104690,6130066533,1539468258916,1607952266597,1582182855795,6113551988,6231715700]
abbrev Sx:IE:=.call 69 #[↑4,↑12]
abbrev Sz:IE:=.call 69 #[↑8,↑12]
abbrev Si:aL:=#[.asg 4 (.op .f5 #[]),.gf [5,6,7] (.call 73 #[↑4,↑1,↑2,↑3]),.asg 8 (.op .f5 #[]),.gf [9,10,11] (.call 76 #[↑0,.call 46 #[↑0,↑1,.call 63 #[↑1]],↑8,↑2,↑3]),.ite (.or (.op (.cmp .NotEq) #[↑9,↑5]) (.op (.cmp .NotEq) #[↑11,↑7])) #[.ret (.const (.bool L0))] #[],.ite (↑7=="failed") #[.ret (.const (.bool F6))] #[],.ret ((.call 66 #[.comp Sx 12 ↑6])==(.call 66 #[.comp Sz 12 ↑10]))]
def QG:LF 77 4 9 Si:=lf [1595201252979,399558432417132,5962296428,1582316088179,1522288389732,393034158994547,6096777332,6298759780,6046444644,1539468258916,6230992238,6230731108,6247772781]
abbrev A7:aL:=#[.ite (.op (.e5 [Aaa,Aac]) #[↑3%⇑0]) #[.aug 2 .Add (.op (.f1 .list) #[↑3%⇑2])] #[.ite ((↑3%⇑0)=="unify") #[.aug 2 .Add (.op (.f1 .list) #[.op .iS #[↑3,⇑1]])] #[.ite ((.op (.f1 .len) #[↑3])==⇑2) #[.expr (.bm .append ↑2 #[("v",↑3%⇑1)])] #[]]]]
abbrev Hg:IE:=.call 65 #[↑5,↑4]
abbrev A8:aL:=#[.ite (.op (.e5 [Aaa,Aac]) #[↑3%⇑0]) #[.expr (.bm .append ↑6 #[(↑3%⇑0,↑3%⇑1,.op (.f1 .tuple) #[.op .cut #[↑2,↑7,↑7+(.op (.f1 .len) #[↑3%⇑2])]])]),.aug 7 .Add (.op (.f1 .len) #[↑3%⇑2])] #[.ite ((↑3%⇑0)=="unify") #[.expr (.bm .append ↑6 #[("unify",↑2%↑7,↑2%(↑7+⇑1))]),.aug 7 .Add ⇑2] #[.ite ((.op (.f1 .len) #[↑3])==⇑2) #[.expr (.bm .append ↑6 #[(↑3%⇑0,↑2%↑7%⇑1)]),.aug 7 .Add ⇑1] #[.expr (.bm .append ↑6 #[↑3])]]]]
abbrev Sj:aL:=#[.asg 2 (.op (.f1 .list) #[↑0%⇑1]),.forIn 3 ↑1 A7,.asg 4 (.op .f5 #[]),.asg 2 (.comp Hg 5 ↑2),.asg 6 (.op .lst #[]),.asg 7 (.op (.f1 .len) #[↑0%⇑1]),.forIn 3 ↑1 A8,.ret (.new 6 #[↑0%⇑0,.op (.f1 .tuple) #[.op .jv #[↑2,.op (.f1 .len) #[↑0%⇑1]]],↑6,.op (.f1 .len) #[↑4]])]
def QH:LF 78 2 6 Sj:=lf [6046441828,1543761914995,1582182855795,6030319980,1599361674341,6180401780,5979991653,90484]
abbrev A9:aL:=#[.asg 4 (.call 64 #[↑0,⇑8]),.ite (.op (.cmp .Lt) #[↑4,⇑3]) #[.ret ("v",↑3%(.call 64 #[↑0,.op (.f1 .len) #[↑3]]))] #[],.ite (↑4==⇑3) #[.ret ("a",(.op .lst #[⇑0,↑1%⇑0])%(.call 64 #[↑0,⇑2]))] #[],.ite (.or (↑4==⇑4) (↑2==⇑0)) #[.ret ("i",(.op .lst #[⇑0,⇑1,.const (.int i1),.op (.bin .Pow) #[⇑10,⇑30]])%(.call 64 #[↑0,⇑4]))] #[],.asg 5 (.call 79 #[↑0,↑1,.op (.bin .Sub) #[↑2,⇑1],↑3]),.ite (↑4==⇑5) #[.ret ("s",↑1%⇑1,.op .tup #[↑5])] #[],.ret ("s",.ite (↑4==⇑6) ⇑0 (↑1%⇑2),(↑5,.call 79 #[↑0,↑1,.op (.bin .Sub) #[↑2,⇑1],↑3]))]
def GU:LF 79 4 2 A9:=lf [6181318508,1612482505828,1530710226024,1573592589683,6097038948,1539367400308]
abbrev Hh:IE:=.call 79 #[↑1,↑3,⇑0,.op .lst #[⇑0,⇑1,⇑2]]
abbrev BA:aL:=#[.asg 13 (.call 79 #[↑1,↑3,⇑2,.op .lst #[⇑0,⇑1,⇑2,⇑3,⇑4,⇑5]]),.ite (.and (.op .fY #[↑8]) ((.call 64 #[↑1,⇑5])==⇑0)) #[.asg 13 ("v",↑8%(.call 64 #[↑1,.op (.f1 .len) #[↑8]]))] #[],.expr (.bm .append ↑12 #[↑13])]
abbrev wm:aL:=#[.asg 11 (.call 64 #[↑1,⇑8]),.ite (.op (.cmp .Lt) #[↑11,⇑6]) #[.asg 12 (.op .lst #[]),.forR 5 (.call 64 #[↑1,⇑4]) BA,.expr (.bm .append ↑7 #[(.ite (↑11==⇑5) "builtin" "call",.ak ↑2 6013939299 #["g"+(.op (.f1 .str) #[↑10]),.op (.f1 .len) #[↑12]],.op (.f1 .tuple) #[↑12])]),.asg 9 (.or ↑9 (.op (.cmp .Lt) #[↑11,⇑5]))] #[.ite (.and (↑11==⇑6) (.op (.cmp .NotIn) #[⇑11,↑8])) #[.expr (.bm .append ↑7 #[("mark",⇑11)]),.expr (.bm .append ↑8 #[⇑11])] #[.ite (.op .fY #[↑8]) #[.expr (.bm .append ↑7 #[("cutto",↑8%(.call 64 #[↑1,.op (.f1 .len) #[↑8]]))])] #[.ite (.not ↑9) #[.expr (.bm .append ↑7 #[.op .tup #["cut"]])] #[]]]]]
abbrev Hi:IE:=.call 79 #[↑1,↑3,⇑1,.op .lst #[⇑500,⇑501]]
abbrev S5:IE:=.call 64 #[↑1,⇑4]
abbrev pG:aL:=#[.asg 1 (.op .lst #[⇑0,⇑0,.op .jv #[↑0+(.op .lst #[⇑0]),⇑40]]),.asg 2 (.new 0 #[]),.asg 3 (.op .lst #[.ak ↑2 5929987949 #["a"],.ak ↑2 6013939299 #["f",⇑1],.ak ↑2 6013939299 #["f",⇑2]]),.asg 4 (.call 64 #[↑1,⇑4]),.asg 6 (.ak ↑2 6013939299 #["h",↑4],.op (.f1 .tuple) #[.gL Hh 5 ↑4]),.asg 7 (.op .lst #[]),.asg 8 (.op .lst #[]),.asg 9 (.const (.bool L0)),.ite ((.call 64 #[↑1,⇑3])==⇑0) #[.expr (.bm .append ↑7 #[("level",⇑10)]),.expr (.bm .append ↑8 #[⇑10])] #[],.forR 10 (⇑1+(.call 64 #[↑1,⇑4])) wm,.asg 14 (.gL Hi 5 ↑4),.asg 15 (.gL S5 10 ⇑4),.ret (.call 77 #[↑2,.call 78 #[↑6,↑7],↑14,↑15])]
def QI:LF 80 1 15 pG:=lf [408345935179892,6181318508,1595201252979,1612482505828,1526583357044,1582366286693,6046441828,1543761914995,6096777332,390745058731364,6231975280,6097038948,1582182855795,6180401780,5962296428,1582316088179]
end
def lz{b:Nat}(h:Nat.ble a b=F6):a<=b:=Dv h
def aC:U.Tm->V
 | .v n=>.tup [.str [118],.int n]| .c k z=>.tup [.str (if k=F6 then[97] else[105]),.int z]| .s1 f x=>.tup [.str [115],.int f,.tup [aC x]]| .s2 f x y=>.tup [.str [115],.int f,.tup [aC x,aC y]]
def uw:U.Tm->List Nat
 | .v _=>[118]| .c k _=>if k=F6 then[97] else[105]|_=>[115]
def bU(ns:List Nat):List Int:=ns.map λ(n:Nat)=>(n:Int)
def bP(p:U.Place):V:=.tup [.str [p.1],.int p.2]
def encC(k:Bool)(z:Int):V:=.tup [.int (if k=F6 then 4 else 5),.int z]
def lX:bO->List Nat
 | .getVar _ _=>Aao| .jh _ _=>[103,101,116,95,118,97,108,117,101]| .kU _ _ _=>Aap| .uY _=>[112,117,116,95,108,105,115,116]| .putStr _ _=>Aat| .ky _=>Aau| .ir _=>Aan| .iJ _=>Aak| .ku _ _=>Aav| .jo _=>[115,101,116,95,118,111,105,100]| .kq _ _=>[112,117,116,95,118,97,114,105,97,98,108,101]| .lj _=>[112,117,116,95,118,111,105,100]| .kn _ _=>Aas| .jN _ _=>[112,117,116,95,118,97,108,117,101]| .lh _ _ _=>[112,117,116,95,99,111,110,115,116,97,110,116]| .jd _=>Aac| .level _=>[103,101,116,95,108,101,118,101,108]| .mark _=>[109,97,114,107]| .hY _=>[99,117,116,95,116,111]| .cut=>[110,101,99,107,95,99,117,116]| .alloc _=>[97,108,108,111,99,97,116,101]| .hZ=>[100,101,97,108,108,111,99,97,116,101]| .call _ _=>Aaa| .exec _=>[101,120,101,99,117,116,101]| .proceed=>[112,114,111,99,101,101,100]
def tO:bO->List V
 | .getVar p q=>[bP p,bP q]| .jh p q=>[bP p,bP q]| .kU k z q=>[encC k z,bP q]| .uY q=>[bP q]| .putStr f q=>[.int f,bP q]| .ky p=>[bP p]| .ir p=>[bP p]| .iJ p=>[bP p]| .ku k z=>[encC k z]| .jo n=>[.int n]| .kq p q=>[bP p,bP q]| .lj q=>[bP q]| .kn p q=>[bP p,bP q]| .jN p q=>[bP p,bP q]| .lh k z q=>[encC k z,bP q]| .jd f=>[.int f]| .level p=>[bP p]| .mark p=>[bP p]| .hY p=>[bP p]| .cut=>[]| .alloc n=>[.int n]| .hZ=>[]| .call f n=>[.int f,.int n]| .exec f=>[.int f]| .proceed=>[]
def fz(i:bO):V:=.tup (.str (lX i)::tO i)
section
variable{t:U.Tm}{Q:V->AH->Prop}
def eN:eD (uw t) [118]=t.bf:=by
 cases t with
 |c k z=>cases k<;>rfl|_=>rfl
def fV:eD (uw t) [115]=aq t:=by
 cases t with
 |c k z=>cases k<;>rfl|_=>rfl
def fZ(q:Q (.str (uw t)) H):i8 W (aC t) (.int 0) H Q:=by cases t<;>exact q
def K3(h:aq t=F6)(q:Q (.int (U.fnOf t:Nat)) H):i8 W (aC t) (.int 1) H Q:=by cases t<;>first|exact(az h).elim|exact q
def iX{c:Nat}{fl:List (Nat×V)}(hc:aB H i=F5 (.inst c fl))(h:gK c a=L0)(g:er fl a=F5 v)(q:Q v H):u7 W a (.obj i) H Q:=by
 have e:atC H a (.obj i)=F5 v:=by
  show ob (aB H i) L3 _=_;rw[hc];show Bool.rec (motive:=λy=>Option V) (er fl a) L3 (gK c a)=_;rw[h];exact g
 unfold u7;rw[e];exact q
def iq(hc:aB H i=F5 (.lst l)):at_ L0 H (.obj i) (λy c=>lq .append c)=F6:=by
 show ob (aB H i) L0 _=F6;rw[hc];rfl
def dK(hc:aB H i=F5 (.lst l))(z:l.length<aJ)(q:Q .none (aa H (.lst (l++[v])) i)):i5 W .append (.obj i) Q [v] H:=by
 show ob (aB H i) _ _;rw[hc];exact⟨z,q⟩
def wJ{l:List Nat}{k:Nat}:(bU l).contains (k:Int)=decide (k∈l):=by
 induction l with
 |nil=>rfl|cons x l ih=>
  show List.contains ((x:Int)::bU l) (k:Int)=_;rw[DV,ih,show((k:Int) == (x:Int))=decide (k=x) from oS.mpr (by rw[eB,AB];exact Int.ofNat_inj),<-Bool.decide_or]
  exact nS.mpr bD.symm
def q8{l:List Nat}{k:Nat}:vh (bU l) (k:Int)=bU (U.add l k):=by
 unfold vh U.add;rw[wJ];by_cases h:k∈l
 .rw[bE h,aI rfl,aI h]
 .rw[bC h,aD az,aD h];unfold bU;rw[b8];rfl
def rG{k:Nat}:decide ((0:Int)<(k:Int))=decide (k≠0):=nS.mpr ⟨λh e=>by subst e;exact Int.lt_irrefl _ h,λh=>gV.mpr (vW h)⟩
def Bc{l:Nat}:decide ((a:Int)<(l:Int))=decide (a<l):=nS.mpr gV
end
variable{b:BT}
section
variable{Q:K2}
def fL{enc:α->V}{x:Nat}{t:α}{ts:List α}(h:∀K:BT,(∀{F H},dA x b (ts.map enc) F H Q->K F H Q)->b (dm F x (enc t)) H (gQ K Q)):dA x b ((t::ts).map enc) F H Q:=h _ id
def l7{c:ET}{k:Nat}(h:∀K:BT,(∀{F H},gZ c b k F H Q->K F H Q)->c F H (wo b K F Q)):gZ c b (k+1) F H Q:=h _ id
end
variable{j:Nat}
section
variable{l:List α}{x:α}
def e7{y:α}(h:aB l i=F5 x):aB (app l [y]) i=F5 x:=by rw[ah] at h ⊢;rw[cQ,qJ (dT.mp h).1];exact h
def bj:aB (app l [x]) (aH l)=F5 x:=by rw[ah,cQ,cY,oX (au _),qT];rfl
def jO{y:α}:aa (app l [x]) y (aH l)=app l [y]:=by rw[dO,cQ,cQ,cY,Dl (h:=au _),qT];rfl
def cZ{y:α}(h:aB l i=F5 x):aB (aa l y i) i=F5 y:=by rw[ah] at h ⊢;rw[dO,vQ,aI rfl,aI (dT.mp h).1]
def eX{y:α}(h:aB l j=F5 x)(n:i≠j):aB (aa l y i) j=F5 x:=by rw[ah] at h ⊢;rw[dO,vQ,aD n];exact h
end
structure Cx where
 pl:Pl
 ks:List Nat
 kvs:List (Atom×V)
 st:Nat
 ne:Bool
 es:Nat
 live:List V
 fn:V
 args:List V
 cnt:V
 goals:List V
 ta:List V
 R:List bO
def kindS(pl:Pl)(k:Nat):List Nat:=if pl.void k=F6 then Aal else if pl.perm k=F6 then Aaj else Aad
structure Inf(X:Cx)(G:AH)(k i:Nat)(fl:List (Nat×V)):Prop where
 key:aR X.kvs (.int (k:Int))=F5 (.obj (i+10))
 at_:aB G i=F5 (.inst 7 fl)
 kind:er fl 6097038948=F5 (.str (kindS X.pl k))
 slot:X.pl.perm k=F6->er fl 6231453556=F5 (.int (X.pl.slot k:Nat))
 C3:er fl 410592219326053=F5 (.bool (X.pl.uns k))
 last:er fl 6721636927027383591276=F5 (.int (X.pl.last k))
structure Cx.Ok(X:Cx)(G:AH):Prop where
 inf:∀k∈X.ks,∃i fl,Inf X G k i fl
 ex:∀k∈X.ks,X.pl.void k=F6->X.pl.perm k=L0
 kl:X.ks.length<4000
 zR:X.R.length<=aJ
@[reducible] def hM(X:Cx)(G:AH)(code:List bO)(c:Cs):AH:=.inst 5 [(399558432417132,.obj 7),(6181118318,.obj 4),(5963211877,.obj 1),(6230992238,.obj 2),(1565236879724,.obj 3),(7431401238237797656773434007450233,.int (c.nt:Nat))]::.lst (code.map fz)::.set (bU c.seen)::.set (bU c.loc)::
 .inst 8 [(1552335400819,.obj 5),(390775274630003,.obj 9),(6758814687394858888822,.bool X.ne),(25755653471308708453,.int X.es),(1720886839222231419348338,.obj 6)]::.dict X.kvs X.st::.lst X.live::.inst 6 [(100897158637842290,X.fn),(5929854835,.tup X.args),(1543761914995,.obj 8),(1526583357044,X.cnt)]::.lst X.goals::.lst X.ta::G
structure Ck(X:Cx)(c:Cs):Prop where
 sn:c.seen.Nodup
 sk:∀x∈c.seen,x∈X.ks
 ln:c.loc.Nodup
 lk:∀x∈c.loc,x∈X.ks
variable{l:List Nat}
def ED{k:Nat}(h:l.Nodup):(U.add l k).Nodup:=by
 unfold U.add;split
 .exact h
 .rename_i n;exact fm.mpr ⟨h,bo.mpr ⟨dZ,dU⟩,λa ha b hb e=>n ((bB.mp hb)▸e▸ha)⟩
def EE{ks:List Nat}{k:Nat}(h:∀x∈l,x∈ks)(hk:k∈ks):∀x∈U.add l k,x∈ks:=by
 unfold U.add;split
 .exact h
 .exact λx m=>(cD.mp m).elim (h x) λm=>(bB.mp m)▸hk
structure St(X:Cx)(G:AH)(d:List bO)(c:Cs)(r:List bO):Prop where
 o:X.Ok G
 k:Ck X c
 e:d++r=X.R
variable{X:Cx}{G:AH}{d r:List bO}{c:Cs}
section
variable{k:Nat}(s:St X G d c r)
theorem Cx.Ok.zl(o:X.Ok G)(n:l.Nodup)(m:∀x∈l,x∈X.ks):(bU l).length<4000:=by unfold bU;rw[aQ];exact bp (mi n m) o.kl
include s
def St.zs:(bU c.seen).length<4000:=s.o.zl s.k.sn s.k.sk
def St.zl:(bU c.loc).length<4000:=s.o.zl s.k.ln s.k.lk
def St.dk(hk:k∈X.ks):St X G d (c.dk k) r:=⟨s.o,⟨ED s.k.sn,EE s.k.sk hk,s.k.ln,s.k.lk⟩,s.e⟩
def St.lU(hk:k∈X.ks):St X G d (c.lU k) r:=⟨s.o,⟨s.k.sn,s.k.sk,ED s.k.ln,EE s.k.lk hk⟩,s.e⟩
def St.cS:St X G d c.cS r:=⟨s.o,⟨s.k.sn,s.k.sk,s.k.ln,s.k.lk⟩,s.e⟩
def St.N1{f:Nat->Bool}:St X G d {c with loc:=c.loc.filter f} r:=⟨s.o,⟨s.k.sn,s.k.sk,DT _ s.k.ln,λx m=>s.k.lk x (gX.mp m).1⟩,s.e⟩
end
section
variable{a b m:List bO}
def St.a2(s:St X G d c (a++b++r)):St X G d c (a++(b++r)):=⟨s.o,s.k,dw a b r▸s.e⟩
def St.zM(s:St X G d c (a++(b++m)++r)):St X G d c (a++(b++(m++r))):=⟨s.o,s.k,dw b m r▸dw a (b++m) r▸s.e⟩
end
section
variable{k:Nat}
def in1(h:k∈l):(bU l).contains (k:Int)=F6:=wJ.trans (bE h)
def Ao(h:k∉l):(bU l).contains (k:Int)=L0:=wJ.trans (bC h)
def I8(h:k∉l):(!(bU l).contains (k:Int))=F6:=aF not (Ao h)
def I7(h:k∈l):(!(bU l).contains (k:Int))=L0:=aF not (in1 h)
end
section
variable(pr:a9 W){Q:V->AH->Prop}
include pr
def z9{b:Bool}{i:Int}(q:Q (encC b i) H):Fi W (n+1) 17 [aC (.c b i)] H Q:=by
 refine pr.fe PI rfl ?_;cases b<;>exact q
def I3(q:Q (bP (tP c.nt)) (hM X G d c.cS)):Fi W (n+1) 20 [.obj 0] (hM X G d c) Q:=by
 refine pr.fe PL rfl ?_;exact q
def cX{i:bO}(s:St X G d c (i::r))(q:∀{d},St X G d c r->Q .none (hM X G d c)):Fi W (n+1) 19 [.obj 0,fz i] (hM X G d c) Q:=by
 have q:=q (d:=d++[i]) ⟨s.o,s.k,(dw ..).trans s.e⟩;unfold hM at q;rw[b8] at q;refine pr.fe PK rfl ?_;exact⟨by rw[aQ];have z:=s.o.zR;rw[<-s.e,a8] at z;exact bw (tC (Nat.zero_lt_succ _)) z,q⟩
variable(s:St X G d c r)(hj:j∈X.ks)
include s hj
def yL(q:Q (.bool (X.pl.void j)) (hM X G d c)):Fi W (n+1) 21 [.obj 0,.int j] (hM X G d c) Q:=by
 obtain⟨i,fl,h⟩:=s.o.inf j hj;refine pr.fe PM rfl ?_;refine bJ h.key (iX h.at_ rfl h.kind ?_);rw[<-show eD (kindS X.pl j) Aal=X.pl.void j by
  unfold kindS;cases X.pl.void j<;>cases X.pl.perm j<;>rfl] at q
 exact q
theorem wz:eD (kindS X.pl j) Aaj=X.pl.perm j:=by
 have e:=s.o.ex j hj;unfold kindS;cases hv:X.pl.void j
 .cases X.pl.perm j<;>rfl
 .rw[e hv];rfl
def Jb(q:Q (.bool (X.pl.perm j)) (hM X G d c)):Fi W (n+1) 22 [.obj 0,.int j] (hM X G d c) Q:=by
 obtain⟨i,fl,h⟩:=s.o.inf j hj;refine pr.fe PN rfl ?_;refine bJ h.key (iX h.at_ rfl h.kind ?_);rw[<-wz pr s hj] at q;exact q
def jn(q:Q (bP (U.place X.pl j)) (hM X G d c)):Fi W (n+1) 23 [.obj 0,.int j] (hM X G d c) Q:=by
 obtain⟨i,fl,h⟩:=s.o.inf j hj;refine pr.fe PO rfl ?_;refine bJ h.key (iX h.at_ rfl h.kind ?_);unfold U.place at q;by_cases hp:X.pl.perm j=F6
 .rw[aI hp] at q;exact ae ((wz pr s hj).trans hp) (iX h.at_ rfl (h.slot hp) q)
 .rw[aD hp] at q;exact aZ ((wz pr s hj).trans (jy.mpr hp)) q
end
variable{l:List V}
def Cx.Ok.set(o:X.Ok G){l':List V}(h:aB G i=F5 (.lst l)):X.Ok (aa G (.lst l') i):=⟨λk m=>(o.inf k m).elim λj ζ'=>ζ'.elim λfl q=>⟨j,fl,q.key,eX q.at_ λe=>(by have q:=q.at_;rw[<-e,h] at q;cases q),q.kind,q.slot,q.C3,q.last⟩,o.ex,o.kl,o.zR⟩
def Cx.Ok.app(o:X.Ok G){x:Cell}:X.Ok (app G [x]):=⟨λk m=>(o.inf k m).elim λj ζ'=>ζ'.elim λfl q=>⟨j,fl,q.key,e7 q.at_,q.kind,q.slot,q.C3,q.last⟩,o.ex,o.kl,o.zR⟩
section
variable{Q:K1}
def jJ(hc:aB H i=F5 (.lst l))(q:Q (.int (l.length:Nat)) H):qC W .len (.obj i) H Q:=by
 show ob (ob (aB H i) L3 _) _ _;rw[hc];exact q
def fW(hc:aB H i=F5 (.lst l))(h:aB l j=F5 v)(q:Q v H):i8 W (.obj i) (.int j) H Q:=by
 show ob (aB H i) _ _;rw[hc];exact bJ h q
def pU{f:α->β}{l:List α}{x:α}(h:aB l j=F5 x):aB (l.map f) j=F5 (f x):=by rw[ah] at h ⊢;rw[gC,h];rfl
def H5(hc:aB H i=F5 (.lst l))(h:kW l=F5 v)(q:Q v H):i8 W (.obj i) (.int (-1)) H Q:=by
 show ob (aB H i) _ _;rw[hc];exact bJ h q
def bV(hc:aB H i=F5 (.lst l)):It .lst (.obj i) l H:=.lst (.cell (ah▸hc))
end
def de{enc:α->V}{x:Nat}{t:α}{ts:List α}{Q:K2}(c:C H)(h:∀K:BT,(∀{F H},fh C x b (ts.map enc) F H Q->K F H Q)->b (dm F x (enc t)) H (gQ K Q)):fh C x b ((t::ts).map enc) F H Q:=⟨c,h _ id⟩
def OF{l:List Nat}:(bU l).filter (· != (j:Int))=bU (l.filter (· != j)):=by
 unfold bU;rw[List.filter_map];congr 1
 exact List.filter_congr λx y=>oS.mpr (by rw[Function.comp,nP,nP];exact⟨λh e=>h (e▸rfl),λh e=>h (d6 e)⟩)
def gj:U.Pc->V
 | .tm t=>aC t| .rg p=>bP p
def qZ(X:Cx):U.Pc->Prop
 | .tm t=>aq t=L0/\∀y,t.has y->y∈X.ks| .rg p=>∃n,p=tP n
def Zq{b:Bool}{z:Int}:eD (uw (.c b z)) [116]=L0:=by cases b<;>rfl
variable{p:U.Place}{w:Wr}{x:Option V}{nv:Nat}{ps:List U.Pc}
section
variable(pr:a9 W){Q:K1}
include pr
def Zg(hw:kr X.pl j c=w)(s:St X G d c (w.1++r))(hj:j∈X.ks)(q:∀{d},St X G d w.2 r->Q .none (hM X G d w.2)):Fi W (n+2) 31 [.obj 0,.int j] (hM X G d c) Q:=by
 unfold kr uf at hw;refine pr.fe PV rfl ?_;by_cases h:j∈c.seen
 .rw[aI h] at hw;refine aZ (I7 h) ?_;by_cases h2:j∈c.loc
  .rw[aI h2] at hw;refine ae (in1 h2) (jn pr s hj ?_);by_cases hp:X.pl.perm j=F6
   .rw[aI hp] at hw;subst hw;exact cX pr (i:=.ir _) s λs=>Jb pr s hj (aZ (aF not hp) (q s))
   .rw[aD hp] at hw;subst hw;refine cX pr (i:=.ir _) (r:=r) ⟨s.o,s.k,s.e⟩ λs=>Jb pr s hj (ae (aF not (jy.mpr hp)) ?_);have z:=q s.N1;unfold hM at z;rw[<-OF] at z;exact z
  .rw[aD h2] at hw;subst hw;exact aZ (Ao h2) (jn pr s hj (cX pr (i:=.iJ _) s q))
 .rw[aD h] at hw;subst hw;refine ae (I8 h) ⟨s.zs,?_⟩;rw[q8];exact jn pr (s.dk hj) hj (cX pr (i:=.ky _) (s.dk hj) q)
def AS{a:Option V}{Q:K2}(s:St X G d c (iB nv++r))(q:∀{d},St X G d c r->aO W (n+2) (dp 2 rJ) [F5 (.obj 0),x,F5 (.int (0:Nat)),a] (hM X G d c) Q):aO W (n+2) (dp 1 rJ) [F5 (.obj 0),x,F5 (.int nv),a] (hM X G d c) Q:=by
 unfold iB at s;refine bz 1 ?_;by_cases h:nv=0
 .subst h;exact bH (q s)
 .rw[aD h] at s;exact ae (rG.trans (bE h)) (cX pr (i:=.jo nv) s λs=>bH (q s))
def XG{pc:U.Pc}{Q:K2}{u:Wr}(hu:eL X.pl pc c=u)(v:qZ X pc)(s:St X G d c (u.1++r))(q:∀{d},St X G d u.2 r->Q .aK [F5 (.obj 0),x,F5 (.int nv),F5 (gj pc)] (hM X G d u.2)):aO W (n+2) (dp 2 rJ) [F5 (.obj 0),x,F5 (.int nv),F5 (gj pc)] (hM X G d c) Q:=by
 cases pc with
 |rg p=>
  obtain⟨m,rfl⟩:=v;subst hu;exact cX pr (i:=.iJ (tP m)) s λs2=>q s2
 |tm t=>
  cases t with
  |s1=>exact nomatch v.1
  |s2=>exact nomatch v.1
  |c b' y=>subst hu;exact aZ (eN (t:=.c b' y)) (aZ (Zq (z:=y)) (z9 pr (cX pr (i:=.ku b' y) s λs2=>q s2)))|v j=>exact Zg pr hu s (v.2 j rfl) λs2=>q s2
def Y7{Q:K2}{all:List V}(hi:aB G i=F5 (.lst all)):∀{ps nv w d c} {a:Option V},dH X.pl ps nv c=w->St X G d c (w.1++r)->(∀pc∈ps,qZ X pc)->(∀{d a} {nv:Nat},St X G d w.2 (iB nv++r)->Q .aK [F5 (.obj 0),F5 (.obj (i+10)),F5 (.int nv),a] (hM X G d w.2))->
  fh (It .lst (.obj (i+10)) all) 3 (aO W (n+2) rJ) (ps.map gj) [F5 (.obj 0),F5 (.obj (i+10)),F5 (.int nv),a] (hM X G d c) Q:=by
 intro ps
 induction ps with
 |nil=>exact λhw s v q=>by subst hw;exact⟨bV hi,q s⟩|cons pc ps ih=>
  intro nv w d c a hw s v q;have v':=λt h=>v t (Dj _ h);have vp:=v pc (.head _)
  cases hv:lP X.pl pc with
  |true=>
   have hw2:dH X.pl ps (nv+1) c=w:=(aI hv).symm.trans hw;clear hw
   cases pc with
   |rg=>exact(az hv).elim|tm t=>
    cases t with
    |v j=>exact de (bV hi) λK k=>yL pr s (vp.2 j rfl) (ae hv (k (ih (nv:=nv+1) hw2 s v' q)))|_=>exact(az hv).elim
  |false=>
   have hw:(iB nv++((eL X.pl pc c).1++(dH X.pl ps 0 (eL X.pl pc c).2).1),(dH X.pl ps 0 (eL X.pl pc c).2).2)=w:=(aD (by rw[hv];exact az)).symm.trans hw
   subst hw;refine de (bV hi) λK k=>bz 1 ?_;have go:∀{d},St X G d c ((eL X.pl pc c).1++((dH X.pl ps 0 (eL X.pl pc c).2).1++r))->aO W (n+2) (dp 2 rJ) [F5 (.obj 0),F5 (.obj (i+10)),F5 (.int (0:Nat)),F5 (gj pc)] (hM X G d c) (gQ K Q):=λs1=>XG pr rfl vp s1 λs2=>k (ih (nv:=0) rfl s2 v' q)
   cases pc with
   |rg p=>
    obtain⟨m,rfl⟩:=vp;exact bH (AS pr s.zM λs1=>go s1)
   |tm t=>
    cases t with
    |v j=>exact yL pr s (vp.2 j rfl) (aZ hv (bH (AS pr s.zM λs1=>go s1)))|c b' y=>exact aZ (eN (t:=.c b' y)) (bH (AS pr s.zM λs1=>go s1))|s1=>exact nomatch vp.1
    |s2=>exact nomatch vp.1
def Kf(hi:aB G i=F5 (.lst (ps.map gj)))(hw:dH X.pl ps 0 c=w)(s:St X G d c (w.1++r))(v:∀pc∈ps,qZ X pc)(q:∀{d},St X G d w.2 r->Q .none (hM X G d w.2)):Fi W (n+3) 30 [.obj 0,.obj (i+10)] (hM X G d c) Q:=by
 refine pr.fe PU rfl ?_;refine⟨bV hi,Y7 pr (nv:=0) hi hw s v λ{d a nv} s=>?_⟩;unfold iB at s;by_cases n0:nv=0
 .rw[aI n0] at s;exact aZ (rG.trans (bC λz=>z n0)) (q s)
 .rw[aD n0] at s;exact ae (rG.trans (bE n0)) (cX pr (i:=.jo nv) s λs2=>q s2)
end
def Kg(G G':AH):Prop:=∀{i:Nat} {x:Cell},aB G i=F5 x->aB G' i=F5 x
variable{x:Cell}
def Kg.new:Kg G (app G [x]):=λh=>e7 h
def Bu(h:aB G i=F5 x):aH G≠i:=λe=>by
 rw[ah] at h;exact ed _ (bw (dT.mp h).1 (bX (cY.symm.trans e)))
def lastOf:U.Tm->U.Tm
 | .s1 _ x=>x| .s2 _ _ y=>y|t=>t
structure u9(lp:U.Pc)(t:U.Tm)(b:V):Prop where
 h:(lp=.tm (lastOf t)/\b=.none/\aq (lastOf t)=L0)\/∃n,lp=.rg (tP n)/\b=bP (tP n)
variable{lp:U.Pc}{t x:U.Tm}{be:V}{x7:Option V}
section
variable(pr:a9 W){Q:K1}
def p9(W:Wd)(X:Cx)(n:Nat)(x:U.Tm):Prop:=∀{p w G d c r} {Q:K1},kO X.pl x p c=w->St X G d c (w.1++r)->(∀{G' d},Kg G G'->St X G' d w.2 r->Q .none (hM X G' d w.2))->Fi W n 28 [.obj 0,aC x,bP p] (hM X G d c) Q
include pr
theorem EF{k:Nat}{xs:V}(hb:u9 lp t be)(hi:aB G i=F5 (.lst l))(z:l.length<aJ){Q:K2}(q:∀{x6:Option V},Q .aK [F5 (.obj 0),F5 xs,F5 be,F5 (.obj (i+10)),F5 (.int (k:Nat)),F5 (.int ((k:Nat)+1:Int)),x6,x7] (aa (hM X G d c) (.lst (l++[gj lp])) (i+10))):aO W (n+1) (dp 1 A0) [F5 (.obj 0),F5 xs,F5 be,F5 (.obj (i+10)),F5 (.int (k:Nat)),F5 (.int (k:Nat)),F5 (aC (lastOf t)),x7] (hM X G d c) Q:=by
 have e1:decide (((k:Nat):Int)=(k:Nat))=F6:=bE rfl;rcases hb.h with ⟨rfl,rfl,hs⟩|⟨m,rfl,rfl⟩
 .refine ae e1 ?_;exact fZ (aZ (fV.trans hs) (ae (iq (H:=hM X G d c) (i:=i+10) hi) (dK (H:=hM X G d c) (i:=i+10) hi z q)))
 .refine ae e1 ?_;exact ae (iq (H:=hM X G d c) (i:=i+10) hi) (dK (H:=hM X G d c) (i:=i+10) hi z q)
def XH{f:Nat}(hb:u9 lp (.s1 f x) be)(q:Q (.obj (aH G+10)) (hM X (app G [.lst [gj lp]]) d c)):Fi W (n+2) 29 [.obj 0,.tup [aC x],be] (hM X G d c) Q:=by
 refine pr.fe GQ rfl ?_;refine dN (lz rfl) (Ex.mk (v:=2) ?_);refine bz 1 (bH (EF pr (n:=n) (G:=app G [.lst []]) (i:=aH G) (k:=0) hb bj (lz rfl) λ{x6}=>?_));rw[show aa (hM X (app G [.lst []]) d c) (.lst ([]++[gj lp])) (aH G+10)=hM X (aa (app G [.lst []]) (.lst ([]++[gj lp])) (aH G)) d c from rfl,jO]
 exact q
def XI{f:Nat}{y:U.Tm}{w:List bO×U.Pc×Cs}(hb:u9 lp (.s2 f x y) be)(hw:eI X.pl (bG X.pl x) x c=w)(s:St X G d c (w.1++r))(hB:aq x=F6->p9 W X (n+1) x)(q:∀{G' d},Kg G G'->aB G' (aH G)=F5 (.lst [gj w.2.1,gj lp])->St X G' d w.2.2 r->Q (.obj (aH G+10)) (hM X G' d w.2.2)):Fi W (n+2) 29 [.obj 0,.tup [aC x,aC y],be] (hM X G d c) Q:=by
 refine pr.fe GQ rfl ?_;refine dN (lz rfl) (Ex.mk (v:=3) ?_);have fin:∀{G' d x6 x7},Kg G G'->aB G' (aH G)=F5 (.lst [gj w.2.1])->St X G' d w.2.2 r->gZ (bI W (n+1) HZ) (aO W (n+1) A0) 2 [F5 (.obj 0),F5 (.tup [aC x,aC y]),F5 be,F5 (.obj (aH G+10)),F5 (.int (1:Nat)),F5 (.int (1:Nat)),x6,x7] (hM X G' d w.2.2) (lQ (aO W (n+1) (.cons (.ret (.var 3)) .nil)) (gq Q)):=λ{G' d x6 x7} kg hi s=>by
  refine bz 1 (bH (EF pr (n:=n) (G:=G') (i:=aH G) (k:=1) hb hi (lz rfl) λ{x6}=>?_));exact q (G':=aa G' (.lst [gj w.2.1,gj lp]) (aH G)) (λh=>eX (kg h) (Bu h)) (cZ hi) ⟨s.o.set hi,s.k,s.e⟩
 cases hx:aq x with
 |false=>
  have hw2:([],U.Pc.tm x,c)=w:=(aD (by rw[hx];exact az)).symm.trans hw
  subst hw2;refine fZ (aZ (fV.trans hx) (ae (iq (H:=hM X (app G [.lst []]) d c) (i:=aH G+10) bj) (dK (H:=hM X (app G [.lst []]) d c) (i:=aH G+10) bj (lz rfl) ?_)));exact fin (G':=aa (app G [.lst []]) (.lst [aC x]) (aH G)) (λh=>eX (e7 h) (Bu h)) (cZ bj) ⟨s.o.app.set bj,s.k,s.e⟩
 |true=>
  have hw2:((kO X.pl x (tP c.nt) c.cS).1,U.Pc.rg (tP c.nt),(kO X.pl x (tP c.nt) c.cS).2)=w:=(aI hx).symm.trans hw;subst hw2;refine fZ (ae (fV.trans hx) (I3 pr (G:=app G [.lst []]) (hB hx (G:=app G [.lst []]) rfl ⟨s.o.app,s.cS.k,s.e⟩ λ{G' d} kg s=>?_)));have hi:=kg bj;refine ae (iq (H:=hM X G' d _) (i:=aH G+10) hi) (dK (H:=hM X G' d _) (i:=aH G+10) hi (lz rfl) ?_);exact fin (G':=aa G' (.lst [bP (tP c.nt)]) (aH G)) (λh=>eX (kg (e7 h)) (Bu h)) (cZ hi) ⟨s.o.set hi,s.k,s.e⟩
end
def mid(pl:Pl)(t:U.Tm)(lp:U.Pc)(c:Cs):U.Pr:=match t with
 | .s2 _ x _=>((eI pl (bG pl x) x c).1,[(eI pl (bG pl x) x c).2.1,lp],(eI pl (bG pl x) x c).2.2)|_=>([],[lp],c)
variable{pl:Pl}
def Jp(ht:aq t=F6):bG pl t c=((c5 pl (bG pl (lastOf t)) (lastOf t) c).1++(mid pl t (c5 pl (bG pl (lastOf t)) (lastOf t) c).2.1 (c5 pl (bG pl (lastOf t)) (lastOf t) c).2.2).1,(mid pl t (c5 pl (bG pl (lastOf t)) (lastOf t) c).2.1 (c5 pl (bG pl (lastOf t)) (lastOf t) c).2.2).2):=by
 cases t with
 |v=>exact(az ht).elim|c=>exact(az ht).elim|s1 f x=>exact iQ (fj _).symm rfl|s2 f x y=>rfl
def IK(h:aq x=L0):c5 pl (bG pl x) x c=([],.tm x,c):=aD (by rw[h];exact az)
def AR(t:U.Tm):Prop:=∀u∈b6 t,aq u=L0
variable{cc:Cs}{T ch x8:Option V}
section
variable(pr:a9 W){rg:U.Place}{Q:K1}
include pr
def J8{k:Nat}{be:Option V}{Q:K2}(hk:(k=0/\rg=p/\cc=c)\/(k=1/\rg=tP c.nt/\cc=c.cS))(ht:aq t=F6)(hi:aB G j=F5 (.lst (ps.map gj)))(hv:∀pc∈ps,qZ X pc)(s:St X G d c ((U.fin X.pl t rg ps cc).1++r))
  (q:∀{d},St X G d (U.fin X.pl t rg ps cc).2 r->Q .aK [F5 (.obj 0),T,F5 (bP p),ch,F5 (bP rg),F5 (.int ((k:Int)-1)),F5 (aC t),F5 (.obj (j+10)),F5 (bP rg)] (hM X G d (U.fin X.pl t rg ps cc).2)):aO W (n+3) (dp 2 wh) [F5 (.obj 0),T,F5 (bP p),ch,be,F5 (.int (k:Nat)),F5 (aC t),F5 (.obj (j+10)),x8] (hM X G d c) Q:=by
 have e0:decide (((U.fnOf t:Nat):Int)=0)=decide (U.fnOf t=0):=nS.mpr Int.natCast_eq_zero;have go:∀{d},St X G d cc ((U.fin X.pl t rg ps cc).1++r)->aO W (n+3) (dp 3 wh) [F5 (.obj 0),T,F5 (bP p),ch,be,F5 (.int (k:Nat)),F5 (aC t),F5 (.obj (j+10)),F5 (bP rg)] (hM X G d cc) Q:=λs=>by
  unfold U.fin uX at s;refine bz 1 (K3 ht ?_);by_cases h0:U.fnOf t=0
  .rw[aI h0] at s;exact ae (e0.trans (bE h0)) (cX pr (i:=.uY rg) s λs=>bH (Kf pr hi rfl s hv q))
  .rw[aD h0] at s;exact aZ (e0.trans (bC h0)) (K3 ht (cX pr (i:=.putStr _ rg) s λs=>bH (Kf pr hi rfl s hv q)))
 rcases hk with ⟨rfl,rfl,rfl⟩|⟨rfl,rfl,rfl⟩
 .exact bz 1 (bH (go s))
 .exact bz 1 (I3 pr (bH (go ⟨s.o,s.cS.k,s.e⟩)))
def B3{k:Nat}{Q:K2}(hb:u9 lp t be)(ht:aq t=F6)(hB:∀f x y,t=.s2 f x y->aq x=F6->p9 W X (n+2) x)(vt:∀u∈b6 t,∀y,u.has y->y∈X.ks)(hk:(k=0/\rg=p/\cc=(mid X.pl t lp c).2.2)\/(k=1/\rg=tP (mid X.pl t lp c).2.2.nt/\cc=(mid X.pl t lp c).2.2.cS))
  (s:St X G d c ((mid X.pl t lp c).1++((U.fin X.pl t rg (mid X.pl t lp c).2.1 cc).1++r))) (q:∀{G' d x7},Kg G G'->St X G' d (U.fin X.pl t rg (mid X.pl t lp c).2.1 cc).2 r->Q .aK [F5 (.obj 0),T,F5 (bP p),ch,F5 (bP rg),F5 (.int ((k:Int)-1)),F5 (aC t),x7,F5 (bP rg)] (hM X G' d (U.fin X.pl t rg (mid X.pl t lp c).2.1 cc).2)):aO W (n+3) (dp 1 wh) [F5 (.obj 0),T,F5 (bP p),ch,F5 be,F5 (.int (k:Nat)),F5 (aC t),x7,x8] (hM X G d c) Q:=by
 have vlp:∀x∈b6 t,x=lastOf t->qZ X lp:=λx m e=>hb.h.elim (λh=>h.1▸⟨h.2.2,e▸vt x m⟩) λ⟨n,h,_⟩=>h▸⟨n,rfl⟩
 cases t with
 |v=>exact nomatch ht
 |c=>exact nomatch ht
 |s1 f x=>exact bz 1 (XH pr hb (bH (J8 pr (G:=app G [.lst [gj lp]]) (j:=aH G) (ps:=[lp]) hk rfl bj (λpc m=>(bB.mp m).symm▸vlp x (.head _) rfl) ⟨s.o.app,s.k,s.e⟩ λs=>q Kg.new s)))|s2 f x y=>
  refine bz 1 (XI pr hb rfl s (λh=>hB f x y rfl h) λ{G' d} kg hi s=>bH (J8 pr (G:=G') (j:=aH G) (ps:=[(eI X.pl (bG X.pl x) x c).2.1,lp]) hk rfl hi (λpc m=>(bD.mp m).elim (λe=>e▸?_) λm=>(bB.mp m).symm▸vlp y (.tail _ (.head _)) rfl) s λs=>q kg s));show qZ X (eI X.pl (bG X.pl x) x c).2.1
  cases hx:aq x with
  |true=>rw[show(eI X.pl (bG X.pl x) x c).2.1=.rg (tP c.nt) by unfold eI;rw[aI hx]];exact⟨_,rfl⟩|false=>rw[show(eI X.pl (bG X.pl x) x c).2.1=.tm x by unfold eI;rw[aD (by rw[hx];exact az)]];exact⟨hx,vt x (.head _)⟩
end
variable{x0 x1 x2 x4 x5 x6:Option V}
section
variable(pr:a9 W){rg:U.Place}{Q:K1}
theorem z7(hi:aB H i=F5 (.lst l))(hl:kW l=F5 (aC t))(ht:aq t=F6)(q:Q (.bool (eD (uw (lastOf t)) [115])) H):bI W n HY [x0,x1,x2,F5 (.obj i),x4,x5,x6,x7,x8] H Q:=by
 refine H5 hi hl ?_
 cases t with
 |v=>exact(az ht).elim|c=>exact(az ht).elim|s1 f x=>exact fZ q|s2 f x y=>exact fZ q
theorem M7{Q:K2}(hi:aB H i=F5 (.lst l))(hl:kW l=F5 (aC t))(ht:aq t=F6)(z:l.length<aJ)(q:Q .aK [x0,x1,x2,F5 (.obj i),x4,x5,x6,x7,x8] (aa H (.lst (l++[aC (lastOf t)])) i)):aO W n G8 [x0,x1,x2,F5 (.obj i),x4,x5,x6,x7,x8] H Q:=by
 refine ae (iq hi) (H5 hi hl ?_)
 cases t with
 |v=>exact(az ht).elim|c=>exact(az ht).elim|s1 f x=>exact dK hi z q|s2 f x y=>exact dK hi z q
include pr
def Eo(ht:aq t=F6)(vt:∀u∈b6 t,∀y,u.has y->y∈X.ks)(hB:∀f x y,t=.s2 f x y->aq x=F6->p9 W X (n+2) x)(hl:aq (lastOf t)=F6->AR (lastOf t)/\∀u∈b6 (lastOf t),∀y,u.has y->y∈X.ks):p9 W X (n+4) t:=by
 intro p w G d c r Q hw s q;subst hw;refine pr.fe PT rfl ?_;unfold kO at s q;rw[Jp ht] at s q
 cases hy:aq (lastOf t) with
 |false=>
  rw[IK hy] at s q;refine dN (lz rfl) (Ex.mk (v:=1) (z7 (H:=hM X (app G [.lst [aC t]]) d c) (i:=aH G+10) bj rfl ht (aZ (fV.trans hy) ?_)));refine jJ (H:=hM X (app G [.lst [aC t]]) d c) (i:=aH G+10) bj (Ex.mk (v:=2) (fW (H:=hM X (app G [.lst [aC t]]) d c) (i:=aH G+10) (j:=0) bj rfl ?_));have s2:St X G d c ((mid X.pl t (.tm (lastOf t)) c).1++((U.fin X.pl t p (mid X.pl t (.tm (lastOf t)) c).2.1 (mid X.pl t (.tm (lastOf t)) c).2.2).1++r)):=s.a2;exact B3 pr (k:=0) (lp:=.tm (lastOf t)) (be:=.none) (G:=app G [.lst [aC t]]) ⟨.inl ⟨rfl,rfl,hy⟩⟩ ht hB vt (.inl ⟨rfl,rfl,rfl⟩) ⟨s2.o.app,s2.k,s2.e⟩ λ{G' d x7} kg s=>q (λh=>kg (e7 h)) s
 |true=>
  obtain⟨fl,vy⟩:=hl hy;generalize ey:lastOf t=y at*;have fy:aq (lastOf y)=L0:=by
   cases y with
   |v=>exact(az hy).elim|c=>exact(az hy).elim|s1 f x=>exact fl x (.head _)|s2 f x z=>exact fl z (.tail _ (.head _))
  have e:c5 X.pl (bG X.pl y) y c=((mid X.pl y (.tm (lastOf y)) c).1++(U.fin X.pl y (tP (mid X.pl y (.tm (lastOf y)) c).2.2.nt) (mid X.pl y (.tm (lastOf y)) c).2.1 (mid X.pl y (.tm (lastOf y)) c).2.2.cS).1,.rg (tP (mid X.pl y (.tm (lastOf y)) c).2.2.nt),(U.fin X.pl y (tP (mid X.pl y (.tm (lastOf y)) c).2.2.nt) (mid X.pl y (.tm (lastOf y)) c).2.1 (mid X.pl y (.tm (lastOf y)) c).2.2.cS).2):=by
   unfold c5;rw[aI hy,Jp hy,IK fy];rfl
  rw[e] at s q;have s2:St X G d c ((mid X.pl y (.tm (lastOf y)) c).1++((U.fin X.pl y (tP (mid X.pl y (.tm (lastOf y)) c).2.2.nt) (mid X.pl y (.tm (lastOf y)) c).2.1 (mid X.pl y (.tm (lastOf y)) c).2.2.cS).1++((mid X.pl t (.rg (tP (mid X.pl y (.tm (lastOf y)) c).2.2.nt)) (U.fin X.pl y (tP (mid X.pl y (.tm (lastOf y)) c).2.2.nt) (mid X.pl y (.tm (lastOf y)) c).2.1 (mid X.pl y (.tm (lastOf y)) c).2.2.cS).2).1++((U.fin X.pl t p (mid X.pl t (.rg (tP (mid X.pl y (.tm (lastOf y)) c).2.2.nt)) (U.fin X.pl y (tP (mid X.pl y (.tm (lastOf y)) c).2.2.nt) (mid X.pl y (.tm (lastOf y)) c).2.1 (mid X.pl y (.tm (lastOf y)) c).2.2.cS).2).2.1 (mid X.pl t (.rg (tP (mid X.pl y (.tm (lastOf y)) c).2.2.nt)) (U.fin X.pl y (tP (mid X.pl y (.tm (lastOf y)) c).2.2.nt) (mid X.pl y (.tm (lastOf y)) c).2.1 (mid X.pl y (.tm (lastOf y)) c).2.2.cS).2).2.2).1++r)))):=⟨s.o,s.k,by rw[<-s.e,dw,dw,dw]⟩
  clear s;refine dN (lz rfl) (Ex.mk (v:=2) (z7 (H:=hM X (app G [.lst [aC t]]) d c) (i:=aH G+10) bj rfl ht (ae (by rw[ey];exact fV.trans hy) (M7 (H:=hM X (app G [.lst [aC t]]) d c) (i:=aH G+10) bj rfl ht (lz rfl) ?_))))
  rw[ey,show aa (hM X (app G [.lst [aC t]]) d c) (.lst ([aC t]++[aC y])) (aH G+10)=hM X (aa (app G [.lst [aC t]]) (.lst [aC t,aC y]) (aH G)) d c from rfl,jO]
  refine z7 (H:=hM X (app G [.lst [aC t,aC y]]) d c) (i:=aH G+10) bj rfl hy (aZ (fV.trans fy) ?_);refine jJ (H:=hM X (app G [.lst [aC t,aC y]]) d c) (i:=aH G+10) bj (Ex.mk (v:=3) (fW (H:=hM X (app G [.lst [aC t,aC y]]) d c) (i:=aH G+10) (j:=1) bj rfl ?_));refine B3 pr (k:=1) (t:=y) (lp:=.tm (lastOf y)) (be:=.none) (G:=app G [.lst [aC t,aC y]]) ⟨.inl ⟨rfl,rfl,fy⟩⟩ hy (λf x z e h=>absurd (h.symm.trans (fl x (by rw[e];exact .head _))) ⋯) vy (.inr ⟨rfl,rfl,rfl⟩) ⟨s2.o.app,s2.k,s2.e⟩ λ{G' d x7} kg s=>?_
  refine fW (H:=hM X G' d _) (i:=aH G+10) (j:=0) (kg bj) rfl ?_;exact B3 pr (k:=0) (lp:=.rg (tP (mid X.pl y (.tm (lastOf y)) c).2.2.nt)) ⟨.inr ⟨_,rfl,rfl⟩⟩ ht hB vt (.inl ⟨rfl,rfl,rfl⟩) s λ{G2 d x7} kg2 s=>q (λh=>kg2 (kg (e7 h))) s
end
def T2(t:U.Tm):Prop:=∀u∈b6 t,aq u=F6->AR u
def BV(ht:aq t=F6):lastOf t∈b6 t:=by
 cases t with
 |v=>exact(az ht).elim|c=>exact(az ht).elim|s1 f x=>exact .head _|s2 f x y=>exact .tail _ (.head _)
def aN:Gl->V
 | .call f as=>.tup [.str Aaa,.int f,.tup (as.map aC)]| .bi f as=>.tup [.str Aac,.int f,.tup (as.map aC)]| .ao k=>.tup [.str [108,101,118,101,108],.int k]| .mk k=>.tup [.str [109,97,114,107],.int k]| .ct k=>.tup [.str [99,117,116,116,111],.int k]| .cut=>.tup [.str [99,117,116]]
variable{g:Int}
section
variable(pr:a9 W){Q:K1}
include pr
def M0(ht:aq t=F6)(vt:∀u∈b6 t,∀y,u.has y->y∈X.ks)(h:AR t):p9 W X (n+4) t:=
 Eo pr ht vt (λf x y e q=>absurd (q.symm.trans (h x (by rw[e];exact .head _))) ⋯) λq=>absurd (q.symm.trans (h _ (BV ht))) ⋯
def Eh(ht:aq t=F6)(vt:∀y,t.has y->y∈X.ks)(h:T2 t):p9 W X (n+6) t:=by
 have v1:∀u∈b6 t,∀y,u.has y->y∈X.ks:=λu m y q=>vt y (o4 m q);have v2:∀u∈b6 t,∀x∈b6 u,∀y,x.has y->y∈X.ks:=λu m x mx y q=>v1 u m y (o4 mx q);intro p w G d c r Q hw s q;exact Eo pr (n:=n+2) ht v1 (λf x y e q=>have m:x∈b6 t:=by rw[e];exact .head _
  M0 pr q (v2 x m) (h x m q)) (λq=>⟨h _ (BV ht) q,v2 _ (BV ht)⟩) hw s q
def VB(hw:n4 X.pl j p g c=w)(s:St X G d c (w.1++r))(hj:j∈X.ks)(q:∀{d},St X G d w.2 r->Q .none (hM X G d w.2)):Fi W (n+2) 42 [.obj 0,.int j,bP p,.int g] (hM X G d c) Q:=by
 obtain⟨i,fl,f⟩:=s.o.inf j hj;unfold n4 at hw;have kp:=wz pr s hj;have kv:eD (kindS X.pl j) Aal=X.pl.void j:=by
  unfold kindS;cases X.pl.void j<;>cases X.pl.perm j<;>rfl
 refine pr.fe PX rfl ?_;refine bJ f.key (iX f.at_ rfl f.kind ?_);by_cases hv:X.pl.void j=F6
 .rw[aI hv] at hw;subst hw;exact ae (kv.trans hv) (cX pr (i:=.lj p) s q)
 .rw[aD hv] at hw;refine aZ (kv.trans (jy.mpr hv)) ?_;by_cases h:j∈c.seen
  .rw[aI h] at hw;refine aZ (I7 h) (iX f.at_ rfl f.C3 ?_);unfold U.un at hw
   cases hu:X.pl.uns j with
   |false=>
    rw[hu,Bool.false_and,aD az] at hw;subst hw;exact jn pr s hj (cX pr (i:=.jN _ p) s q)
   |true=>
    rw[hu,Bool.true_and] at hw;by_cases hg:(0:Int)<=g
    .refine ae (bE hg) (iX f.at_ rfl f.last ?_);by_cases hl:X.pl.last j=g
     .rw[bE ⟨hg,hl⟩,aI rfl] at hw;subst hw;exact ae (bE hl) (jn pr s hj (cX pr (i:=.kn _ p) s q))
     .rw[bC λz=>hl z.2,aD az] at hw;subst hw;exact aZ (bC hl) (jn pr s hj (cX pr (i:=.jN _ p) s q))
    .rw[bC λz=>hg z.1,aD az] at hw;subst hw;exact aZ (bC hg) (jn pr s hj (cX pr (i:=.jN _ p) s q))
  .rw[aD h] at hw;refine ae (I8 h) ⟨s.zs,?_⟩;rw[q8];refine iX (H:=hM X G d (c.dk j)) f.at_ rfl f.kind ?_;by_cases hp:X.pl.perm j=F6
   .rw[aI hp] at hw;subst hw;refine ae (kp.trans hp) ⟨(s.dk hj).zl,?_⟩;rw[q8];exact jn pr ((s.dk hj).lU hj) hj (cX pr (i:=.kq _ p) ((s.dk hj).lU hj) q)
   .rw[aD hp] at hw;subst hw;exact aZ (kp.trans (jy.mpr hp)) (jn pr (s.dk hj) hj (cX pr (i:=.kq _ p) (s.dk hj) q))
end
def vf(X:Cx)(t:U.Tm):Prop:=(∀y,t.has y->y∈X.ks)/\(aq t=F6->T2 t)
def vJ(X:Cx):Gl->Prop
 | .call _ as=>∀t∈as,vf X t| .bi _ as=>∀t∈as,vf X t| .ao k=>k∈X.ks| .mk k=>k∈X.ks| .ct k=>k∈X.ks| .cut=>True
variable{ts:List U.Tm}{nm:List Nat}
section
variable(pr:a9 W){Q:K1}
include pr
def U9{Q:K2}:∀{ts nn w G d c} {x a b:Option V},ig X.pl g ts (nn+1) c=w->St X G d c (w.1++r)->(∀t∈ts,vf X t)->(∀{F G d},St X G d w.2 r->Q .aK F (hM X G d w.2))->dA 4 (aO W (n+6) HC) (ts.map aC) [F5 (.obj 0),x,F5 (.int g),F5 (.int nn),a,b] (hM X G d c) Q:=by
 intro ts
 induction ts with
 |nil=>exact λhw s v q=>by subst hw;exact q s|cons t ts ih=>
  intro nn w G d c x a b hw s v q;have vt:=v t (.head _);have v':=λt h=>v t (Dj _ h);subst hw
  cases t with
  |v j=>exact fL λK k=>VB pr (p:=aP (nn+1)) rfl s.a2 (vt.1 j rfl) λs=>k (ih (nn:=nn+1) rfl s v' q)|c b y=>exact fL λK k=>aZ (eN (t:=.c b y)) (aZ (fV (t:=.c b y)) (z9 pr (cX pr (i:=.lh b y (aP (nn+1))) s λs=>k (ih (nn:=nn+1) rfl s v' q))))|s1 f y=>exact fL λK k=>Eh pr (t:=.s1 f y) rfl vt.1 (vt.2 rfl) (p:=aP (nn+1)) rfl s.a2 λkg s=>k (ih (nn:=nn+1) rfl s v' q)|s2 f y z=>exact fL λK k=>Eh pr (t:=.s2 f y z) rfl vt.1 (vt.2 rfl) (p:=aP (nn+1)) rfl s.a2 λkg s=>k (ih (nn:=nn+1) rfl s v' q)
def IQ(hw:ig X.pl g ts 1 c=w)(s:St X G d c (w.1++r))(v:∀t∈ts,vf X t)(q:∀{G d},St X G d w.2 r->Q .none (hM X G d w.2)):Fi W (n+7) 41 [.obj 0,.tup (ts.map aC),.int g] (hM X G d c) Q:=by
 refine pr.fe PW rfl ?_;exact U9 pr (nn:=0) hw s v λs=>q s
def OA{ins:bO}(e:fz ins=v)(s:St X G d c (ins::r))(q:∀{d},St X G d c r->Q .none (hM X G d c)):Fi W (n+1) 19 [.obj 0,v] (hM X G d c) Q:=e▸cX pr s q
def CB{f:U.Place->bO}(hn:∀p,fz (f p)=.tup [.str nm,bP p])(hw:jM X.pl f j c=w)(s:St X G d c (w.1++r))(hj:j∈X.ks)(q:∀{d},St X G d w.2 r->Q .none (hM X G d w.2)):Fi W (n+2) 43 [.obj 0,.str nm,.int j] (hM X G d c) Q:=by
 unfold jM at hw;refine pr.fe PY rfl ?_;refine yL pr s hj ?_;by_cases hv:X.pl.void j=F6
 .rw[aI hv] at hw;subst hw;exact ae hv (q s)
 .rw[aD hv] at hw;subst hw;refine aZ (jy.mpr hv) ⟨s.zs,?_⟩;rw[q8];exact jn pr (s.dk hj) hj (OA pr (hn _) (s.dk hj) q)
def GY{gl:Gl}(hi:aB X.goals i=F5 (aN gl))(hw:gm X.pl gl i c=w)(s:St X G d c (w.1++r))(v:vJ X gl)(q:∀{G d},St X G d w.2 r->Q .none (hM X G d w.2)):Fi W (n+8) 44 [.obj 0,.int i] (hM X G d c) Q:=by
 refine pr.fe PZ rfl ?_;refine bJ hi ?_
 cases gl with
 |call f as=>exact IQ pr hw s v λs=>q s|bi f as=>
  subst hw;exact IQ pr rfl s.a2 v λs=>cX pr (i:=.jd f) s λs=>q s
 |ao k=>exact CB pr (λy=>rfl) hw s v λs=>q s|mk k=>exact CB pr (λy=>rfl) hw s v λs=>q s|ct k=>exact CB pr (λy=>rfl) hw s v λs=>q s|cut=>
  subst hw;exact cX pr (i:=.cut) s λs=>q s
def Qy(hw:mW X.pl t p c=w)(s:St X G d c (w.1++r))(hs:aq t=L0)(v:∀x,t.has x->x∈X.ks)(q:∀{d},St X G d w.2 r->Q .none (hM X G d w.2)):Fi W (n+5) 24 [.obj 0,aC t,bP p] (hM X G d c) Q:=by
 refine pr.fe PQ rfl ?_
 cases t with
 |s1=>cases hs|s2=>cases hs|c b y=>
  subst hw;exact aZ (eN (t:=.c b y)) (aZ (fV (t:=.c b y)) (z9 pr (cX pr (i:=.kU b y p) s λs=>q s)))
 |v j=>
  have hj:=v j rfl;unfold mW at hw
  dsimp only at hw
  refine yL pr s hj ?_;by_cases hv:X.pl.void j=F6
  .rw[aI hv] at hw;subst hw;exact ae hv (q s)
  .rw[aD hv] at hw;refine aZ (jy.mpr hv) ?_;by_cases h:j∈c.seen
   .rw[aI h] at hw;subst hw;exact ae (in1 h) (jn pr s hj (cX pr (i:=.jh _ p) s λs=>q s))
   .rw[aD h] at hw;subst hw;refine aZ (Ao h) ⟨s.zs,⟨s.zl,?_⟩⟩;rw[q8,q8];exact jn pr ((s.dk hj).lU hj) hj (cX pr (i:=.getVar _ p) ((s.dk hj).lU hj) λs=>q s)
def Q2{Q:K2}:∀{ts nn w d c} {x y z u v:Option V},iD X.pl ts (nn+1) c=w->St X G d c (w.1++r)->(∀t∈ts,aq t=L0/\∀x,t.has x->x∈X.ks)->(∀{d nn b},St X G d w.2 r->Q .aK [F5 (.obj 0),x,y,F5 (.int (nn:Nat)),b,u,v] (hM X G d w.2))->dA 4 (aO W (n+7) HD) (ts.map aC) [F5 (.obj 0),x,y,F5 (.int nn),z,u,v] (hM X G d c) Q:=by
 intro ts
 induction ts with
 |nil=>exact λhw s v q=>by subst hw;exact q s|cons t ts ih=>
  intro nn w d c x y z u v hw s h q;subst hw;obtain⟨h1,h2⟩:=h t (.head _);exact fL λK k=>Qy pr (p:=aP (nn+1)) rfl s.a2 h1 h2 λs=>k (ih (nn:=nn+1) rfl s (λt m=>h t (.tail _ m)) q)
end
variable{x y:Option V}{N:Nat}{args:List U.Tm}{goals:List Gl}
section
variable(pr:a9 W){Q:K1}{la:Nat->Nat}
include pr
def Zr{g:Gl}{z:Option V}(hi:aB X.goals i=F5 (aN g))(s:St X G d c ((if X.ne=F6 then[.hZ] else[])++[pD g]))(q:∀{d},St X G d c []->Q (.obj 1) (hM X G d c)):aO W (n+8) (dp 9 rK) [F5 (.obj 0),F5 (.obj 4),F5 (.obj 8),x,y,F5 (.int (i:Nat)),z] (hM X G d c) (gq Q):=by
 have fin:∀{d},St X G d c [pD g]->aO W (n+8) (dp 1 (dp 9 rK)) [F5 (.obj 0),F5 (.obj 4),F5 (.obj 8),x,y,F5 (.int (i:Nat)),z] (hM X G d c) (gq Q):=λs=>bJ hi (by
  cases g with
  |call f as=>exact bJ hi (cX pr (i:=.exec f) s q)|bi=>exact cX pr (i:=.proceed) s q|ao=>exact cX pr (i:=.proceed) s q|mk=>exact cX pr (i:=.proceed) s q|ct=>exact cX pr (i:=.proceed) s q|cut=>exact cX pr (i:=.proceed) s q)
 refine bz 1 ?_;by_cases h:X.ne=F6
 .rw[aI h] at s;exact ae h (cX pr (i:=.hZ) s λs=>bH (fin s))
 .rw[aD h] at s;exact aZ (jy.mpr h) (bH (fin s))
def Qd(q:∀{G d c},St X G d c []->Q (.obj 1) (hM X G d c)):∀{gs:List Gl} {i c d G} {l:Int},X.goals.drop i=gs.map aN->gs≠[]->l+1=((i+gs.length:Nat):Int)->(∀g∈gs,vJ X g)->(∀j,i<=j->j+1<i+gs.length->aB X.live j=F5 (.int (la j:Nat)))->St X G d c (iT X.pl la X.ne gs i c)->gZ (bI W (n+8) Ha) (aO W (n+8) HE) gs.length [F5 (.obj 0),F5 (.obj 4),F5 (.obj 8),x,y,F5 (.int l),F5 (.int (i:Nat))] (hM X G d c) (lQ (aO W (n+8) (dp 8 rK)) (gq Q)):=by
 intro gs
 induction gs with
 |nil=>exact λz h=>absurd rfl h|cons g gs ih=>
  intro i c d G l hg _ hl v hla s;have hi:aB X.goals i=F5 (aN g):=by
   have e:X.goals[i]?=(X.goals.drop i)[0]?:=by rw[List.getElem?_drop];rfl
   rw[ah,e,hg];rfl
  have hd:X.goals.drop (i+1)=gs.map aN:=by rw[<-List.drop_drop,hg];rfl
  have vg:=v g (.head _)
  cases gs with
  |nil=>
   obtain rfl:l=((i:Nat):Int):=by
    have hl:l+1=((i+1:Nat):Int):=hl;exact(DS l 1).symm.trans ((aF (· -1) hl).trans (DS (i:Int) 1))
   refine aZ (bC (Int.lt_irrefl _)) (bz 1 (GY pr hi rfl s vg λs=>bH (Zr pr hi s q)))
  |cons g2 gs=>
   have lt:((i:Nat):Int)<l:=by
    have:((i:Nat):Int)+1<l+1:=by rw[hl];exact gV.mpr (Nat.add_lt_add_left (Nat.succ_lt_succ (om _)) i)
    exact Int.lt_of_add_lt_add_right this
   refine l7 λK kk=>ae (bE lt) (GY pr hi rfl (r:=qw (la i) g++iT X.pl la X.ne (g2::gs) (i+1) (gm X.pl g i c).2) s vg λ{G d} s=>?_);have nx:∀{d},St X G d (gm X.pl g i c).2 (iT X.pl la X.ne (g2::gs) (i+1) (gm X.pl g i c).2)->K [F5 (.obj 0),F5 (.obj 4),F5 (.obj 8),x,y,F5 (.int l),F5 (.int ((i+1:Nat):Int))] (hM X G d (gm X.pl g i c).2) (lQ (aO W (n+8) (dp 8 rK)) (gq Q)):=λs=>kk (ih hd (qI _ _) (by rw[hl,dY,iy,bT]) (λg m=>v g (.tail _ m)) (λj h1 h2=>hla j (gE h1) (by rw[dY,<-bT,iy];exact h2)) s)
   have hL:=hla i (au _) (Nat.add_lt_add_left (Nat.succ_lt_succ (om _)) i);refine bJ hi ?_
   cases g with
   |call f as=>exact bJ hi (bJ hL (cX pr (i:=.call f (la i)) s λs=>nx s))|bi=>exact nx s|ao=>exact nx s|mk=>exact nx s|ct=>exact nx s|cut=>exact nx s
def NY(hR:X.R=hW X.pl N la X.ne X.es args goals)(ha:X.args=args.map aC)(hg:X.goals=goals.map aN)(hla:∀j,j+1<goals.length->aB X.live j=F5 (.int (la j:Nat)))(h1:goals≠[])(o:X.Ok G)(va:∀t∈args,aq t=L0/\∀x,t.has x->x∈X.ks)(v:∀g∈goals,vJ X g)(q:∀{G c},X.Ok G->Q (.obj 1) (hM X G X.R c)):Fi W (n+9) 45 [.obj 0] (hM X G [] ⟨[],[],N⟩) Q:=by
 refine pr.fe Pb rfl ?_;have s:St X G [] ⟨[],[],N⟩ (hW X.pl N la X.ne X.es args goals):=⟨o,⟨dU,(λy m=>memN m),dU,λy m=>memN m⟩,hR.symm⟩;have fin:∀{d a b},St X G d ⟨[],[],N⟩ ((iD X.pl args 1 ⟨[],[],N⟩).1++iT X.pl la X.ne goals 0 (iD X.pl args 1 ⟨[],[],N⟩).2)->aO W (n+8) (dp 3 rK) [F5 (.obj 0),F5 (.obj 4),F5 (.obj 8),a,b,L3,L3] (hM X G d ⟨[],[],N⟩) (gq Q):=λs=>by
  refine bz 2 ?_;show dA 4 _ X.args _ _ _;rw[ha];refine Q2 pr (n:=n+1) (nn:=0) rfl s va λs=>bH (Ex.mk (v:=goals.length) (Qd pr (λs=>(fj _).symm.trans s.e▸q s.o) (i:=0) hg h1 ?_ v (λj y h=>hla j (by rw[cW] at h;exact h)) s))
  rw[hg,aQ,cW];exact Int.sub_add_cancel _ _
 refine bz 3 ?_;unfold hW at s;by_cases h:X.ne=F6
 .rw[aI h] at s;exact ae h (cX pr (i:=.alloc X.es) s λs=>bH (fin s))
 .rw[aD h] at s;exact aZ (jy.mpr h) (bH (fin s))
end
section
variable{k:Int}{Q:K1}
def H4(hc:aB H a=F5 (.dict kvs st))(q:Q (.bool (aR kvs (.int k)).isSome) H):iM W .In (.int k) (.obj a) H Q:=by
 show ob (ob (aB H a) L3 _) _ _;rw[hc];exact q
def H7(hc:aB H a=F5 (.dict kvs st))(q:Q (.bool (!(aR kvs (.int k)).isSome)) H):iM W .NotIn (.int k) (.obj a) H Q:=by
 show ob (ob (ob (aB H a) L3 _) L3 _) _ _;rw[hc];exact q
def w3(hc:aB H a=F5 (.dict kvs st))(h:aR kvs (.int k)=F5 v)(q:Q v H):i8 W (.obj a) (.int k) H Q:=by
 show ob (aB H a) _ _;rw[hc];exact bJ h q
def pK{Q:K2}(hc:aB H a=F5 (.dict kvs st))(z:kvs.length<=aJ)(q:Q .aK F (aa H (.dict (bS kvs (.int k) v) (st+1)) a)):mM W (.obj a) (.int k) v F H Q:=by
 show ob (aB H a) _ _;rw[hc];exact⟨z,q⟩
def BU{P:Bool->Prop}(hc:aB H a=F5 (.lst l))(q:P (!fN l)):kJ (.obj a) H P:=by
 show ob (aB H a) _ _;rw[hc];exact q
def UY(hc:aB H a=F5 (.lst l))(h:kW l=F5 v)(q:Q v (aa H (.lst l.dropLast) a)):i5 W .pop (.obj a) Q [] H:=by
 show ob (aB H a) _ _;rw[hc];exact bJ h q
def BP{l:List Int}(hc:aB H a=F5 (.lst (l.map V.int)))(q:Q (.bool (!l.any (· == k))) H):iM W .NotIn (.int k) (.obj a) H Q:=by
 show ob (ob (ob (aB H a) L3 _) L3 _) _ _;rw[hc];exact⟨oo.ints (.cell (ah▸hc)),q⟩
end
section
variable{l:List α}{x y z:α}
def lr(h:aB l i=F5 x):aa l x i=l:=by
 rw[ah] at h;rw[dO];apply DZ
 intro j;rw[vQ];split
 .rename_i e;subst e;rw[aI (dT.mp h).1,h]
 .rfl
def gy:aa (aa l x i) y i=aa l y i:=by rw[dO,dO,dO,List.set_set]
end
def dQ(b:Bd):List (Atom×V):=b.map λp=>(.int (p.1:Int),aC p.2)
variable{b:Bd}
def OD:aR (dQ b) (.int (n:Int))=(b.at n).map aC:=by
 unfold dQ aR Bd.at
 induction b with
 |nil=>rfl|cons p b ih=>
  rw[cV,vO,vO];by_cases e:p.1=n
  .rw[bE (aF (λk:Nat=>Atom.int k) e:Atom.int (p.1:Int)=Atom.int (n:Int)),bE e];rfl
  .rw[bC (λq=>e (d6 (Atom.int.inj q)):¬Atom.int (p.1:Int)=Atom.int (n:Int)),bC e];exact ih
variable{u:U.Tm}{S:Sb}{d:Nat}
section
variable{Q:K1}(pr:a9 W)(hb:aB H a=F5 (.dict (dQ b) st))
theorem bk{k:Nat}{o:Option U.Tm}(h:b.at k=o):aR (dQ b) (.int (k:Int))=o.map aC:=OD.trans (aF _ h)
include hb
set_option tactic.hygienic true in
theorem aA4{Q:K2}(hw:U.Walk b t u)(q:Q .aK [F5 (.obj a),F5 (aC u)] H):Ex λk=>gZ (bI W n Hd) (aO W n HO) k [F5 (.obj a),F5 (aC t)] H Q:=by
 induction hw with
 |@stop t h=>
  refine Ex.mk (v:=1) (fZ ?_)
  cases hv:t.bf with
  |false=>exact aZ (eN.trans hv) q|true=>
   cases t with
   |v k=>exact H4 hb (aZ (by rw[bk (h k rfl)];rfl) q)|c=>cases hv|s1=>cases hv|s2=>cases hv
 |@step k t u h _ ih=>
  obtain⟨e⟩:=ih q;rename_i m;exact Ex.mk (v:=m+1) (l7 λK kk=>H4 hb (ae (by rw[bk h];rfl) (w3 hb (bk h) (kk e))))
include pr
def k7(hw:U.Walk b t u)(q:Q (aC u) H):Fi W (n+1) 68 [.obj a,aC t] H Q:=by
 refine pr.fe Pz rfl ?_;exact aA4 hb hw q
def yM(M:af b S):∀{t:U.Tm} {Q:K1},(t.app S).dep<=d->Q (aC (t.app S)) H->Fi W (d+2) 69 [.obj a,aC t] H Q:=by
 induction d with
 |zero=>
  intro t Q hd q;obtain⟨u,hw⟩:=M.walks t;rw[hw.sat M.sol] at hd q;refine pr.fe GS rfl (k7 pr hb hw ?_)
  cases u with
  |v n=>
   rw[show U.Tm.app S (.v n)=.v n from M.id n (hw.free n rfl)] at q
   exact q
  |c k z=>exact aZ (fV (t:=.c k z)) q|s1=>exact absurd hd (jW _)|s2=>exact absurd hd (jW _)
 |succ d ih=>
  intro t Q hd q;obtain⟨u,hw⟩:=M.walks t;rw[hw.sat M.sol] at hd q;refine pr.fe GS rfl (k7 pr hb hw ?_)
  cases u with
  |v n=>
   rw[show U.Tm.app S (.v n)=.v n from M.id n (hw.free n rfl)] at q
   exact q
  |c k z=>exact aZ (fV (t:=.c k z)) q|s1 f x=>exact⟨lz rfl,ih (iP hd) ⟨.val,q⟩⟩|s2 f x y=>
   have hd:max (x.app S).dep (y.app S).dep+1<=d+1:=hd;have hd:=iP hd;exact⟨lz rfl,ih (aA (jT _ _) hd) (ih (aA (jU _ _) hd) ⟨.val,q⟩)⟩
end
def aS(ns:List Nat):List V:=(bU ns).map V.int
def FY{ns:List Nat}{k:Nat}:((bU ns).any (· == (k:Int)))=decide (k∈ns):=by rw[<-wJ,List.contains_eq_any_beq];congr 1;funext x;exact oS.mpr (by rw[eB,eB];exact eq_comm)
theorem rR:∀{t:U.Tm} {tb:List Nat},tb.length<=(bh tb t).2.length
 | .v n,tb=>by
  rw[kY];split
  .exact au _
  .rw[a8];exact aW _ _
 | .c _ _,_=>au _| .s1 _ x,tb=>rR (t:=x)| .s2 _ x y,tb=>aA (rR (t:=x)) (rR (t:=y))
theorem xA:∀{ts:List U.Tm} {tb:List Nat},tb.length<=(eH tb ts).2.length
 | []=>au _|_::_=>aA rR xA
variable{K:Type}
section
variable{X:Type}[DecidableEq K]{l:List (K×X)}{k j:K}{v w:X}
def jI:aR ((k,v)::l) k=F5 v:=by unfold aR;rw[vO,bE rfl];rfl
def gu(h:j≠k):aR ((j,v)::l) k=aR l k:=by unfold aR;rw[vO,bC h]
def rQ(h:aR l k=L3):bS l k v=l++[(k,v)]:=by
 unfold bS;refine aD λq=>?_;obtain⟨p,hp,e⟩:=vM.mp q;exact absurd e (Dc.mp (D2.mp h) p hp)
end
def dE(key:α->K):Nat->List α->List (K×V)
 |_,[]=>[]|i,n::r=>(key n,.int (i:Int))::dE key (i+1) r
section
variable[DecidableEq α][DecidableEq K]{key:α->K}{n:α}{tb:List α}(inj:∀a b,key a=key b->a=b)
theorem pA:∀{tb:List α} {i:Nat},(dE key i tb).length=tb.length
 | []=>rfl|_::_=>aF (·+1) pA
theorem FW:∀{tb:List α} {i:Nat},dE key i (tb++[n])=dE key i tb++[(key n,.int ((i+tb.length:Nat):Int))]
 | [],_=>rfl|m::tb,i=>by show _::dE key (i+1) (tb++[n])=_::(dE key (i+1) tb++_);rw[FW,dY,vX]
include inj
theorem tg:∀{tb:List α} {i:Nat},n∉tb->aR (dE key i tb) (key n)=L3
 | [],_=>λy=>rfl|m::tb,i=>λh=>(gu λe=>h (by rw[inj _ _ e];exact .head _)).trans (tg λq=>h (.tail _ q))
theorem q7:∀{tb:List α} {i:Nat},n∈tb->aR (dE key i tb) (key n)=F5 (.int ((i+tb.idxOf n:Nat):Int))
 |m::tb,i,h=>by
  by_cases e:m=n
  .subst e;rw[Dg];exact jI
  .rw[List.idxOf_cons,show(m == n)=L0 from tV.mpr e,cond_false]
   exact(gu λq=>e (inj _ _ q)).trans ((q7 ((bD.mp h).resolve_left (kE e))).trans (by rw[vX]))
def AF(h:n∉tb):bS (dE key 0 tb) (key n) (.int (tb.length:Int))=dE key 0 (tb++[n]):=by rw[rQ (tg inj h),FW,cW]
end
def jH(n:Nat):Atom:=.int (n:Int)
def mX(a b:Nat)(h:jH a=jH b):a=b:=d6 (Atom.int.inj h)
variable{tb:List Nat}
def Gi(h:n∉tb):(tb++[n]).idxOf n=tb.length:=by rw[Df,aD h,Dg,cW]
section
variable{Q:K1}(pr:a9 W)
theorem UP(hc:aB H a=F5 (.dict kvs st))(z:kvs.length<=aJ)(q:Q (.int (kvs.length:Nat)) H):qC W .len (.obj a) H Q:=by
 show ob (ob (aB H a) L3 _) _ _;rw[hc];exact gx (qX.dict (ah▸hc) z) q
include pr
def Iq:∀{t:U.Tm} {H:AH} {tb:List Nat} {Q:K1},t.dep<=d->aB H a=F5 (.lst (aS tb))->(bh tb t).2.length<aJ->Q (.obj a) (aa H (.lst (aS (bh tb t).2)) a)->Fi W (d+1) 67 [aC t,.obj a] H Q:=by
 have leaf:∀{d t H tb} {Q:K1},aq t=L0->aB H a=F5 (.lst (aS tb))->(bh tb t).2.length<aJ->Q (.obj a) (aa H (.lst (aS (bh tb t).2)) a)->Fi W (d+1) 67 [aC t,.obj a] H Q:=λ{d t H tb Q} hs h z q=>by
  refine pr.fe Ac rfl ?_
  cases t with
  |s1=>cases hs|s2=>cases hs|c b y=>exact aZ (eN (t:=.c b y)) (aZ (fV (t:=.c b y)) (lr h▸q))|v k=>
   refine BP h ?_;rw[kY] at q z;by_cases m:k∈tb
   .rw[aI m,lr h] at q;exact aZ (by rw[FY,bE m];rfl) q
   .rw[aD m] at q z;refine ae (by rw[FY,bC m];rfl) (ae (iq h) (dK h ?_ ?_))
    .rw[aS,bU,aQ,aQ];rw[a8] at z;exact Dx z
    .rw[show aS (tb++[k])=aS tb++[.int k] by unfold aS bU;rw[b8,b8];rfl] at q
     exact q
 induction d with
 |zero=>
  intro t H tb Q hd h z q;exact leaf (by cases t<;>first|rfl|exact absurd hd (jW _)) h z q
 |succ d ih=>
  intro t H tb Q hd h z q
  cases t with
  |v=>exact leaf rfl h z q|c=>exact leaf rfl h z q|s1 f x=>
   refine pr.fe Ac rfl ?_;exact ih (iP hd) h z q
  |s2 f x y=>
   have hd:max x.dep y.dep+1<=d+1:=hd;have hd:=iP hd;refine pr.fe Ac rfl ?_;exact ih (aA (jT _ _) hd) h (bp rR z) (ih (aA (jU _ _) hd) (cZ h) z (gy.symm▸q))
def BZ:∀{t:U.Tm} {H:AH} {tb:List Nat} {st:Nat} {Q:K1},t.dep<=d->aB H a=F5 (.dict (dE jH 0 tb) st)->(bh tb t).2.length<=aJ->(∀{st'},Q (aC (bh tb t).1) (aa H (.dict (dE jH 0 (bh tb t).2) st') a))->Fi W (d+1) 65 [aC t,.obj a] H Q:=by
 have leaf:∀{d t H tb st} {Q:K1},aq t=L0->aB H a=F5 (.dict (dE jH 0 tb) st)->(bh tb t).2.length<=aJ->(∀{st'},Q (aC (bh tb t).1) (aa H (.dict (dE jH 0 (bh tb t).2) st') a))->Fi W (d+1) 65 [aC t,.obj a] H Q:=λ{d t H tb st Q} hs h z q=>by
  refine pr.fe Ab rfl ?_
  cases t with
  |s1=>cases hs|s2=>cases hs|c b y=>exact aZ (eN (t:=.c b y)) (aZ (fV (t:=.c b y)) (lr h▸q))|v k=>
   refine H7 h ?_;rw[kY] at q z;by_cases m:k∈tb
   .rw[aI m] at q;have q:=q (st':=st);rw[lr h] at q;exact aZ (by rw[show Atom.int k=jH k from rfl,q7 mX m];rfl) (w3 h (q7 mX m) (by rw[cW];exact q))
   .rw[aD m] at q z;have zl:(dE jH 0 tb).length<=aJ:=by rw[pA];exact aA (aW _ _) (a8▸z)
    refine ae (by rw[show Atom.int k=jH k from rfl,tg mX m];rfl) (UP h zl (pK h zl ?_))
    rw[pA,show Atom.int k=jH k from rfl,AF mX m]
    refine w3 (cZ h) (q7 mX (lE _ (.head _))) ?_;rw[cW,Gi m];exact q
 induction d with
 |zero=>
  intro t H tb st Q hd h z q;exact leaf (by cases t<;>first|rfl|exact absurd hd (jW _)) h z q
 |succ d ih=>
  intro t H tb st Q hd h z q
  cases t with
  |v=>exact leaf rfl h z q|c=>exact leaf rfl h z q|s1 f x=>
   refine pr.fe Ab rfl ⟨lz rfl,?_⟩;exact ih (iP hd) h z ⟨.val,q⟩
  |s2 f x y=>
   have hd:max x.dep y.dep+1<=d+1:=hd;have hd:=iP hd;refine pr.fe Ab rfl ⟨lz rfl,?_⟩;exact ih (aA (jT _ _) hd) h (aA rR z) (ih (aA (jU _ _) hd) (cZ h) z ⟨.val,gy.symm▸q⟩)
def U4:∀{ts:List U.Tm} {H:AH} {tb:List Nat} {st:Nat} {y:Option V} {Q:gW},(∀t∈ts,t.dep<=d)->aB H a=F5 (.dict (dE jH 0 tb) st)->(eH tb ts).2.length<=aJ->(∀{c},Q ((eH tb ts).1.map aC) (aa H c a))->qB (bI W (d+1) Hf) 2 [x,F5 (.obj a),y] (ts.map aC) H Q:=by
 intro ts
 induction ts with
 |nil=>
  intro H tb st y Q hd h z q;rw[<-lr h];exact q
 |cons t ts ih=>exact λhd h z q=>BZ pr (hd t (.head _)) h (aA xA z) (ih (λt m=>hd t (.tail _ m)) (cZ h) z (λ{c}=>by rw[gy];exact q))
def Ba{Q:K1}(hd:∀t∈ts,t.dep<=d)(hl:ts.length<=aJ)(hs:(bY ts).length<=aJ)(q:∀{c},Q (.lst ((eW ts).map aC)) (app H [c])):Fi W (d+2) 66 [.lst (ts.map aC)] H Q:=by
 refine pr.fe GR rfl ?_;refine kX ⟨by rw[aQ];exact hl,?_⟩
 refine U4 pr (tb:=[]) hd bj hs λ{c}=>⟨.val,?_⟩;rw[jO];exact q
end
variable{w:Nat}
section
variable{x:V}{r:List V}{Q:K1}
def uG(hc:aB H w=F5 (.lst l.reverse))(q:Q (.bool (!fN l)) H):vY W (.obj w) H Q:=by
 show ob (ob (aB H w) L3 _) _ _;rw[hc];show Q (.bool (!fN l.reverse)) H;rw[rW,List.isEmpty_reverse,<-rW];exact q
def CW(hc:aB H w=F5 (.lst l)):at_ L0 H (.obj w) (λy c=>lq .pop c)=F6:=by
 show ob (aB H w) L0 _=F6;rw[hc];rfl
def BR(hc:aB H w=F5 (.lst (x::l).reverse))(q:Q x (aa H (.lst l.reverse) w)):i5 W .pop (.obj w) Q [] H:=UY hc (by rw[w7,mF,List.getLast?_append];rfl) (by rw[mF,List.dropLast_concat];exact q)
def BJ(hc:aB H w=F5 (.lst l))(z:l.length+r.length<=aJ)(q:Q (.obj w) (aa H (.lst (l++r)) w)):sY .Add (.obj w) H (.lst r) Q:=by
 show ob (aB H w) _ _;rw[hc];exact⟨z,q⟩
variable{k:Nat}
def UJ(q:Q (.bool (decide (u=.v k))) H):iM W .Eq (aC u) (.tup [.str [118],.int k]) H Q:=by
 have e:∀{s i t},aC u=.tup (.str s::.int i::t)->decide (u=.v k)=iA s [118] i k t []->iM W .Eq (aC u) (.tup [.str [118],.int k]) H Q:=λe1 e2=>by
  rw[e2] at q;rw[e1];exact mn (nJ.flat (.inr rfl)) q
 cases u with
 |v m=>exact e rfl (by unfold iA;simp [Int.natCast_inj])|c d z=>exact e rfl (by unfold iA;rw[bC (λq=>U.Tm.noConfusion q)];cases d<;>rfl)|s1 f x=>exact e rfl (by unfold iA;rw[bC (λq=>U.Tm.noConfusion q)];rfl)|s2 f x y=>exact e rfl (by unfold iA;rw[bC (λq=>U.Tm.noConfusion q)];rfl)
def UK(q:Q (.bool (decide (u=.v k))) H):iM W .Eq (.tup [.str [118],.int k]) (aC u) H Q:=by
 have e:∀{s i t},aC u=.tup (.str s::.int i::t)->decide (u=.v k)=iA [118] s k i [] t->iM W .Eq (.tup [.str [118],.int k]) (aC u) H Q:=λe1 e2=>by
  rw[e2] at q;rw[e1];exact mn (nJ.flat (.inl rfl)) q
 cases u with
 |v m=>exact e rfl (by unfold iA;simp [Int.natCast_inj,eq_comm])|c d z=>exact e rfl (by unfold iA;rw[bC (λq=>U.Tm.noConfusion q)];cases d<;>rfl)|s1 f x=>exact e rfl (by unfold iA;rw[bC (λq=>U.Tm.noConfusion q)];rfl)|s2 f x y=>exact e rfl (by unfold iA;rw[bC (λq=>U.Tm.noConfusion q)];rfl)
def UX{c c':Bool}{z z':Int}(q:Q (.bool (!decide (c=c'/\z=z'))) H):iM W .NotEq (aC (.c c z)) (aC (.c c' z')) H Q:=by
 refine mn (kG.flat (.inl rfl)) ?_;rw[show iA (if c=F6 then[97] else[105]) (if c'=F6 then[97] else[105]) z z' [] []=decide (c=c'/\z=z') by
  unfold iA;by_cases e:z=z'
  .subst e;rw[bE rfl];cases c<;>cases c'<;>simp
  .rw[bC e,Bool.false_and,Bool.and_false,Bool.false_and];exact(bC λq=>e q.2).symm]
 exact q
end
def Tl(D:Nat):Nat->List Nat->Prop
 |m,[]=>m<=D+1|m,u::l=>u<=m/\Tl D (m+1) l
def Sk(D:Nat):List Nat->Prop
 | []=>True|t::l=>∃m,t<=m/\Tl D m l
variable{D:Nat}
theorem Tl.len:∀{l:List Nat} {m:Nat},Tl D m l->m+l.length<=D+1
 | [],_=>λh=>h|_::l,m=>λh=>by have:=Tl.len h.2;rw[dY,<-vX];exact this
theorem Sk.len:∀{l:List Nat},Sk D l->l.length<=D+2
 | [],_=>ba _|t::l,⟨m,_,h⟩=>cP (aA (cI _ _) (Tl.len h))
variable{x y:Nat}
section
variable{t:Nat}{l:List Nat}
def Sk.start(D:Nat):Sk D [D]:=⟨D,au _,cJ _⟩
def Sk.pop(h:Sk D (t::l)):Sk D l:=match l,h with
 | [],_=>cC|_::_,⟨m,_,h⟩=>⟨m+1,fE h.1,h.2⟩
def Sk.one(h:Sk D (t::l))(e:x<=t):Sk D (x::l):=h.elim λm ζ'=>ζ'.elim λa b=>⟨m,aA e a,b⟩
def Sk.two(h:Sk D (t::l))(ex:x<t)(ey:y<t):Sk D (y::x::l):=by
 obtain⟨m,a,b⟩:=h
 cases m with
 |zero=>exact absurd (bw ex a) (tF _)|succ m=>exact⟨m,qQ (bw ey a),qQ (bw ex a),b⟩
end
abbrev Qz(t:U.Tm):Prop:=aU 150000 t
def Ia(h:BQ Qz b):BQ (U.Lt (List.range 150001) 100) b:=λp hp=>⟨⟨λn q=>oe.mpr (kD ((h p hp).1.lo n q)),(h p hp).1.dp⟩,⟨λn q=>oe.mpr (kD ((h p hp).2.lo n q)),(h p hp).2.dp⟩⟩
section
variable(M:af b S)(h:BQ Qz b)
include M h
def CQ:b.length<=150001:=by
 have:=mi (r:=List.range 150001) M.nd λx hx=>by
  obtain⟨p,hp,rfl⟩:=dB.mp hx;exact(Ia h p hp).1.1 p.1 rfl
 rw[aQ,kB] at this;exact this
def Jz(ht:Qz t):(t.app S).dep+2<=aJ:=by
 have h2:=Be M (Ia h) t;rw[kB] at h2;exact aA (b5 h2 2) (aA (b5 (b5 ht.dp _) 2) (lz rfl))
end
def or3:∀a b c:Bool,((a||b)||c)=(b||(a||c)):=by decide
def Ky{s f:Nat}(h:a+s<=f+1)(p:1<=a):s<=f:=iP (aA (Nat.succ_le_of_lt (Nat.lt_add_of_pos_left p)) h)
def Kz{s f:Nat}(h:x+1+s<=f+1):x+s<=f:=iP (Nat.succ_add x s▸h)
def Zk{s f:Nat}(h:x+y+1+s<=f+1):y+(x+s)<=f:=by rw[<-bT,bW y x];exact Kz h
def K0(S:Sb)(l:List U.Tm):Nat:=(l.map λt=>(t.app S).a7).sum
def wG(S:Sb)(l:List U.Tm):List Nat:=l.map λt=>(t.app S).dep
def tL(S:Sb)(k:Nat)(l:List U.Tm):Bool:=l.any λt=>(t.app S).hasB k
section
variable(pr:a9 W){k:Nat}(M:af b S)(hb:aB H a=F5 (.dict (dQ b) st))(hk:b.at k=L3)(hD:D+2<=aJ)
include pr M hb hk hD
theorem aBA{Q:K2}:∀{f:Nat} {todo:List U.Tm} {x y:Option V},K0 S todo<=f->Sk D (wG S todo)->(tL S k todo=F6->∀{F c},Q (.ret (.bool F6)) F (app H [c]))->(tL S k todo=L0->∀{F c},Q .aK F (app H [c]))->
  gZ (bI W (n+1) He) (aO W (n+1) HP) (f+1) [F5 (.obj a),F5 (.int k),x,F5 (.obj (aH H)),y] (app H [.lst (todo.map aC).reverse]) Q:=by
 intro f
 induction f with
 |zero=>
  intro todo x y z d q1 q0
  cases todo with
  |nil=>exact uG (l:=[]) bj (q0 rfl)|cons t l=>exact absurd (aA (aA (U.Tm.uj (t.app S)) (aW _ _)) z) (jW 0)
 |succ f ih=>
  intro todo x y z d q1 q0
  cases todo with
  |nil=>exact uG (l:=[]) bj (q0 rfl)|cons t l=>
   obtain⟨u,hw⟩:=M.walks t;have eu:t.app S=u.app S:=hw.sat M.sol;have z:(t.app S).a7+K0 S l<=f+1:=z;have d:Sk D ((t.app S).dep::wG S l):=d;have ea:tL S k (t::l)=((u.app S).hasB k||tL S k l):=eu▸rfl;rw[ea] at q1 q0;rw[eu] at z d;refine l7 λK kk=>uG (l:=aC t::l.map aC) bj (ae (CW bj) (BR (l:=l.map aC) bj ?_));rw[jO];refine k7 pr (e7 hb) hw (UJ ?_);have len:∀{r:List U.Tm} {m:Nat},Sk D (wG S r)->r.length=(l.map aC).reverse.length+m->(l.map aC).reverse.length+m<=aJ:=λs e=>by
    rw[<-e]
    have:=s.len
    rw[wG,aQ] at this;exact aA this hD
   cases u with
   |v m=>
    have e:(U.Tm.v m).app S=.v m:=M.id m (hw.free m rfl);rw[e] at q1 q0;by_cases hm:m=k
    .subst hm;exact ae (bE rfl) (q1 (by show(m == m||_)=F6;rw[jb];rfl))
    .rw[show(U.Tm.v m).hasB k=L0 from tV.mpr hm] at q1 q0
     exact aZ (bC λq=>hm (U.Tm.v.inj q)) (kk (ih (Ky z (U.Tm.uj _)) d.pop q1 q0))
   |c b' y'=>exact aZ (fV (t:=.c b' y')) (kk (ih (Ky z (U.Tm.uj _)) d.pop q1 q0))|s1 g x=>
    have d:=d.one (x:=(x.app S).dep) (cJ _);refine gx (mL.tup .val) (BJ bj (len (r:=x::l) (m:=1) d (by rw[lD,aQ];rfl)) ?_)
    rw[jO,show(l.map aC).reverse++[aC x]=((x::l).map aC).reverse from(mF ..).symm]
    exact kk (ih (todo:=x::l) (Kz z) d q1 q0)
   |s2 g x y=>
    have d:=d.two (x:=(x.app S).dep) (y:=(y.app S).dep) (kD (jT _ _)) (kD (jU _ _));refine gx (mL.tup .val) (BJ bj (len (r:=y::x::l) (m:=2) d (by rw[lD,aQ];rfl)) ?_)
    rw[jO,show(l.map aC).reverse++[aC x,aC y]=((y::x::l).map aC).reverse by rw[cV,cV,mF,mF,dw];rfl]
    rw[show((U.Tm.s2 g x y).app S).hasB k=((x.app S).hasB k||(y.app S).hasB k) from rfl,or3] at q1 q0
    exact kk (ih (todo:=y::x::l) (Zk z) d q1 q0)
omit hD in
theorem aA9(hq:BQ Qz b)(ht:Qz t){Q:K1}(q:∀{c},Q (.bool ((t.app S).hasB k)) (app H [c])):Fi W (n+2) 70 [.obj a,.int k,aC t] H Q:=by
 have e:tL S k [t]=(t.app S).hasB k:=Bool.or_false _;refine pr.fe P9 rfl ?_;refine dN (lz rfl) (Ex.mk (aBA pr M hb hk (Jz M hq ht) (todo:=[t]) (f:=(t.app S).a7) (au _) (Sk.start _) (λh=>?_) λh=>?_))
 .rw[<-e,h] at q;exact q
 .rw[<-e,h] at q;exact q
end
def jf(p:U.Tm×U.Tm):V:=.tup [aC p.1,aC p.2]
def mH(H:AH)(a:Nat)(b:Bd)(st:Nat)(l:List (U.Tm×U.Tm))(g:AH):AH:=aa (app H (.lst (l.map jf).reverse::g)) (.dict (dQ b) st) a
variable{g:AH}{l:List (U.Tm×U.Tm)}
section
variable(ha:a<H.length)
include ha
def xD:aB (mH H a b st l g) a=F5 (.dict (dQ b) st):=by unfold mH;rw[ah,dO,cQ,List.getElem?_set_self (by rw[a8];exact bw ha (aW _ _))]
def Bh:aB (mH H a b st l g) (aH H)=F5 (.lst (l.map jf).reverse):=by unfold mH;rw[ah,dO,cQ,cY,List.getElem?_set_ne (ee ha),oX (au _),qT];rfl
def Ib{l':List (U.Tm×U.Tm)}:aa (mH H a b st l g) (.lst (l'.map jf).reverse) (aH H)=mH H a b st l' g:=by unfold mH;rw[dO,dO,dO,cQ,cQ,cY,List.set_comm _ _ (ee ha),Dl (h:=au _),qT];rfl
def VZ{c:Cell}:app (mH H a b st l g) [c]=mH H a b st l (g++[c]):=by unfold mH;rw[dO,dO,cQ,cQ,cQ,show H++.lst (l.map jf).reverse::(g++[c])=(H++.lst (l.map jf).reverse::g)++[c] by rw[dw];rfl];exact(List.set_append_left _ _ (by rw[a8];exact bw ha (aW _ _))).symm
omit ha in
theorem Va{b':Bd}{st':Nat}:aa (mH H a b st l g) (.dict (dQ b') st') a=mH H a b' st' l g:=gy
end
inductive Act where
 |skip|fail|bind (x:Nat) (r:U.Tm)|push (l:List (U.Tm×U.Tm))
def act:U.Tm->U.Tm->Act
 | .v x,r=>if r=.v x then .skip else .bind x r|r,.v x=>.bind x r| .c k z,.c k' z'=>if k=k'/\z=z' then .skip else .fail| .s1 f x,.s1 g y=>if f=g then .push [(x,y)] else .fail| .s2 f x x2,.s2 g y y2=>if f=g then .push [(x2,y2),(x,y)] else .fail|_,_=>.fail
def MQ(H:AH)(a:Nat)(b:Bd)(S:Sb)(st:Nat)(l:List (U.Tm×U.Tm))(g:AH)(K:BT)(Q:K2):Act->Prop
 | .skip=>∀{x y z},K [F5 (.obj a),x,y,F5 (.obj (aH H)),z] (mH H a b st l g) Q| .fail=>∀{F},Q (.ret (.bool L0)) F (mH H a b st l g)| .bind x r=>b.at x=L3/\Qz r/\((r.app S).hasB x=F6->∀{F g},Q (.ret (.bool L0)) F (mH H a b st l g))/\((r.app S).hasB x=L0->∀{y z v g},K [F5 (.obj a),y,z,F5 (.obj (aH H)),v] (mH H a (b++[(x,r)]) (st+1) l g) Q)| .push ps=>(ps++l).length<=aJ/\∀{x y z},K [F5 (.obj a),x,y,F5 (.obj (aH H)),z] (mH H a b st (ps++l) g) Q
variable{r:U.Tm}
def wI(h:b.at x=L3):bS (dQ b) (.int (x:Int)) (aC r)=dQ (b++[(x,r)]):=by
 rw[rQ (bk h)];unfold dQ;rw[b8];rfl
variable{p v:U.Tm}
section
variable(pr:a9 W){q:U.Tm}{K:BT}{Q:K2}{x' y' z':Option V}(ha:a<H.length)(M:af b S)(hq:BQ Qz b)
include pr ha M hq
def C4(m:MQ H a b S st l g K Q (if r=.v x then .skip else .bind x r)):aO W (n+2) (dp 4 rL) [F5 (.obj a),F5 (aC (.v x)),F5 (aC r),F5 (.obj (aH H)),z'] (mH H a b st l g) (gQ K Q):=by
 refine UK ?_;by_cases e:r=.v x
 .rw[aI e] at m;exact ae (bE e) m
 .rw[aD e] at m;obtain⟨m1,m2,m3,m4⟩:=m;refine aZ (bC e) (aA9 pr M (xD ha) m1 hq m2 λ{c}=>?_);rw[VZ ha];by_cases o:(r.app S).hasB x=F6
  .exact ae o (m3 o)
  .refine aZ (jy.mpr o) (pK (xD ha) (by rw[dQ,aQ];exact aA (CQ M hq) (lz rfl)) ?_)
   rw[wI m1,Va];exact m4 (jy.mpr o)
def Vh(w1:U.Walk b p u)(w2:U.Walk b q v)(t1:u.WT)(t2:v.WT)(m:MQ H a b S st l g K Q (act u v)):bI W (n+2) uA [F5 (.obj a),x',y',F5 (.obj (aH H)),z'] (mH H a b st ((p,q)::l) g) (wo (aO W (n+2) rL) K [F5 (.obj a),x',y',F5 (.obj (aH H)),z'] Q):=by
 have hw:=Bh (st:=st) (b:=b) (l:=(p,q)::l) (g:=g) ha;refine uG (l:=jf (p,q)::l.map jf) hw (bz 4 (ae (CW hw) (BR (x:=jf (p,q)) (l:=l.map jf) hw ?_)));rw[Ib ha];refine k7 pr (xD ha) w1 (k7 pr (xD ha) w2 (fZ ?_));have push:∀{ps:List (U.Tm×U.Tm)} {F:Fa} {r:List V} {Q':K1},(ps++l).length<=aJ->r.length=ps.length->(l.map jf).reverse++r=((ps++l).map jf).reverse->Q' (.obj (aH H)) (mH H a b st (ps++l) g)->sY .Add (.obj (aH H)) (mH H a b st l g) (.lst r) Q':=λ{ps F r Q'} z e1 e2 q'=>by
  refine BJ (Bh ha) (by rw[e1,lD,aQ,bW,<-a8];exact z) ?_
  rw[e2,Ib ha];exact q'
 cases hu:u.bf with
 |true=>
  cases u with
  |v x=>exact c7 (λo=>bH (C4 pr ha M hq m)) λo=>bH (C4 pr ha M hq m)|c=>cases hu|s1=>cases hu|s2=>cases hu
 |false=>
  cases hv:v.bf with
  |true=>
   cases v with
   |v x=>
    have e:act u (.v x)=.bind x u:=by cases u<;>first|rfl|cases hu
    rw[e] at m;refine fZ (ae (aF not (eN.trans hu)) (bH (C4 pr ha M hq ?_)));rw[aD λe=>by rw[e] at hu;cases hu]
    exact m
   |c=>cases hv|s1=>cases hv|s2=>cases hv
  |false=>
   refine aZ (eN.trans hv) (bH (fZ (aZ (eN.trans hu) ?_)))
   cases u with
   |v=>cases hu|c k z=>
    refine aZ (fV (t:=.c k z)) (aZ (fV (t:=.c k z)) ?_)
    cases v with
    |v=>cases hv|s1=>exact m|s2=>exact m|c k' z'=>
     refine aZ (fV (t:=.c k' z')) (UX ?_);have m:MQ H a b S st l g K Q (if k=k'/\z=z' then .skip else .fail):=m
     by_cases e:k=k'/\z=z'
     .rw[aI e] at m;exact aZ (aF not (bE e)) m
     .rw[aD e] at m;exact ae (aF not (bC e)) m
   |s1 f x=>
    cases v with
    |v=>cases hv|c k z=>exact aZ (fV (t:=.c k z)) m|s2 g' y y2=>exact aZ (bC λe=>by have h2:g'=0\/g'=33:=t2.1;rw[<-d6 e,t1.1] at h2;exact absurd h2 ⋯) m|s1 g' y=>
     have m:MQ H a b S st l g K Q (if f=g' then .push [(x,y)] else .fail):=m
     by_cases e:f=g'
     .rw[aI e] at m;exact ae (bE (aF _ e)) ⟨lz rfl,⟨.val,push (F:=[]) m.1 rfl (by rw[yo,cV,mF];rfl) m.2⟩⟩
     .rw[aD e] at m;exact aZ (bC λz=>e (d6 z)) m
   |s2 f x x2=>
    cases v with
    |v=>cases hv|c k z=>exact aZ (fV (t:=.c k z)) m|s1 g' y=>exact aZ (bC λe=>by have h1:f=0\/f=33:=t1.1;rw[d6 e,t2.1] at h1;exact absurd h1 ⋯) m|s2 g' y y2=>
     have m:MQ H a b S st l g K Q (if f=g' then .push [(x2,y2),(x,y)] else .fail):=m
     by_cases e:f=g'
     .rw[aI e] at m;exact ae (bE (aF _ e)) ⟨lz rfl,⟨.val,push (F:=[]) m.1 rfl (by rw[yo,yo,cV,cV,mF,mF,dw];rfl) m.2⟩⟩
     .rw[aD e] at m;exact aZ (bC λz=>e (d6 z)) m
end
def sF(S:Sb)(l:List (U.Tm×U.Tm)):Nat:=(l.map λp=>(p.1.app S).a7+(p.2.app S).a7).sum
def q4(σ:Sb)(l:List (U.Tm×U.Tm)):List Nat:=l.map λp=>(p.1.app σ).dep
def tx(b:Bd)(L:List Nat):Nat:=L.countP λx=>(b.at x).isNone
variable{L:List Nat}
def O7(hx:b.at x=L3)(hL:x∈L):tx (b++[(x,r)]) L<tx b L:=by
 refine FE (x:=x) (λy h=>?_) hL ?_ ?_
 .rw[nL hx] at h;by_cases e:y=x
  .rw[aI e] at h;exact(az h).elim
  .rw[aD e] at h;exact h
 .rw[hx];rfl
 .rw[nL hx,aI rfl];rfl
def aAu(M:af b S)(hx:b.at x=L3)(hr:∀m,r=.v m->b.at m=L3)(h:(r.app S).hasB x=F6)(e:r≠.v x)(σ:Sb)(hσ:U.Sat b σ):σ x≠r.app σ:=λq=>by
 rw[<-M.Bo hσ r] at q;refine Wi (Gb.mp h) (λq2=>e ?_) q
 cases r with
 |v m=>rw[vj,M.id m (hr m rfl)] at q2;exact q2|c=>cases q2|s1=>cases q2|s2=>cases q2
def Zl:x+y+0<x+1+(y+1):=by
 show x+y<x+1+y+1;rw[iy x 1];exact yy (dy _)
def Zm{x2 y2:Nat}:x2+y2+(x+y+0)<x+x2+1+(y+y2+1):=by
 show x2+y2+(x+y)<x+x2+1+(y+y2)+1;rw[bW (x2+y2),Nat.add_add_add_comm,iy (x+x2) 1];exact yy (dy _)
variable{b₀:Bd}{S₀ σ:Sb}
section
variable{s q:U.Tm}
def Nx(b₀:Bd)(S₀:Sb)(s t:U.Tm)(b:Bd)(S:Sb)(p q:U.Tm)(l:List (U.Tm×U.Tm)):Act->Prop
 | .skip=>da b₀ S₀ s t b S l| .fail=>fu b₀ s t| .bind x r=>b.at x=L3/\Qz r/\((r.app S).hasB x=F6->fu b₀ s t)/\((r.app S).hasB x=L0->da b₀ S₀ s t (b++[(x,r)]) (λn=>(S n).app (U.one x (r.app S))) l/\(∀σ,U.Sat (b++[(x,r)]) σ->U.Sat b σ)/\tx (b++[(x,r)]) (bY [s.app S₀,t.app S₀])<tx b (bY [s.app S₀,t.app S₀]))| .push ps=>da b₀ S₀ s t b S (ps++l)/\sF S (ps++l)<sF S ((p,q)::l)/\∀σ D,U.Sat b σ->Sk D (q4 σ ((p,q)::l))->Sk D (q4 σ (ps++l))
def Ef(mid:da b₀ S₀ s t b S ((p,q)::l))(hx:b.at x=L3)(hr:∀m,r=.v m->b.at m=L3)(e:r≠.v x)(qr:Qz r)(heq:∀σ,U.Sat b σ->(p.app σ=q.app σ↔σ x=r.app σ))(hin:∀n,n=x\/(r.app S).has n->(p.app S).has n\/(q.app S).has n)(hq:∀Q,jY Q->BQ Q b->Q p->Q q->Q (.v x)/\Q r)
  (hd:(p.app S=.v x/\r.app S=q.app S)\/((p.app S).bf=L0/\q.app S=.v x/\r.app S=p.app S)):Nx b₀ S₀ s t b S p q l (.bind x r):=
 ⟨hx,qr,λo=>mid.fails λσ h z=>aAu mid.av hx hr o e σ h ((heq σ h).mp z),λo=>
  have nh:¬(r.app S).has x:=λz=>az (o.symm.trans (Gb.mpr z))
  ⟨mid.bound heq hx hr nh hin hq hd,λσ h=>(((mid.av.bind hx nh hr).2 σ).mp h).1,O7 hx (pM.mpr (.inr ((mid.ins _ (.head _) x (hin x (.inl rfl))).elim (λz=>⟨_,.head _,z⟩) λz=>⟨_,.tail _ (.head _),z⟩)))⟩⟩
def zP(h:t.bf=L0):(t.app σ).bf=L0:=by cases t<;>first|rfl|exact absurd h.symm az
section
variable(mid:da b₀ S₀ s t b S ((p,q)::l))(w1:U.Walk b p u)(w2:U.Walk b q v)
include mid w1 w2
def mP(h:∀σ,u.app σ≠v.app σ):fu b₀ s t:=mid.fails λσ hs e=>h σ (by rw[<-w1.sat hs,<-w2.sat hs];exact e)
def EO(h:∀σ,u.app σ=v.app σ):da b₀ S₀ s t b S l:=mid.skip λσ hs=>by rw[w1.sat hs,w2.sat hs,h]
def EN{ps:List (U.Tm×U.Tm)}(nu:u.bf=L0)(nv:v.bf=L0)(h1:∀σ,u.app σ=v.app σ↔∀r∈ps,r.1.app σ=r.2.app σ)(h2:∀r∈ps,∀n,((r.1.app S).has n->(u.app S).has n)/\((r.2.app S).has n->(v.app S).has n))(h3:∀Q,jY Q->Q u->Q v->∀r∈ps,Q r.1/\Q r.2)(h4:sF S ps<(u.app S).a7+(v.app S).a7)(h5:∀σ D,Sk D ((u.app σ).dep::q4 σ l)->Sk D (q4 σ (ps++l))):Nx b₀ S₀ s t b S p q l (.push ps):=
 have ep:=w1.sat mid.av.sol;have eq:=w2.sat mid.av.sol
 ⟨mid.parts (λσ h=>by rw[w1.sat h,w2.sat h];exact h1 σ) (λr m n h=>by rw[ep,eq];exact h.imp (h2 r m n).1 (h2 r m n).2) (λQ hs hb z1 z2=>h3 Q hs (w1.dW hb z1) (w2.dW hb z2)) (ep▸zP nu) (eq▸zP nv),by
   unfold sF at h4 ⊢;rw[b8,List.sum_append,cV,yt,ep,eq];exact Nat.add_lt_add_right h4 _,λσ D hs k=>h5 σ D (by rw[<-w1.sat hs];exact k)⟩
omit w2 in
theorem zN(hu:u.bf=L0)(w2:U.Walk b q (.v x))(qu:Qz u):Nx b₀ S₀ s t b S p q l (.bind x u):=
 have ep:=w1.sat mid.av.sol;have eq:q.app S=.v x:=w2.var mid.av
 Ef mid (w2.free x rfl) (λm e=>absurd (e▸hu:U.Tm.bf (.v m)=L0) Bool.noConfusion) (λe=>absurd (e▸hu:U.Tm.bf (.v x)=L0) Bool.noConfusion) qu (λσ h=>by rw[w1.sat h,w2.sat h];exact eq_comm) (λn h=>h.elim (λh=>.inr (by rw[eq,h];exact rfl)) λh=>.inl (ep▸h)) (λQ hs hb z1 z2=>⟨w2.dW hb z2,w1.dW hb z1⟩) (.inr ⟨ep▸zP hu,eq,ep.symm⟩)
end
def MB(mid:da b₀ S₀ s t b S ((p,q)::l))(w1:U.Walk b p u)(w2:U.Walk b q v)(qu:Qz u)(qv:Qz v):Nx b₀ S₀ s t b S p q l (act u v):=by
 cases u with
 |v x=>
  show Nx b₀ S₀ s t b S p q l (if v=.v x then .skip else .bind x v)
  have ep:p.app S=.v x:=w1.var mid.av;by_cases e:v=.v x
  .rw[aI e];exact EO mid w1 w2 λσ=>by rw[e]
  .rw[aD e];exact Ef mid (w1.free x rfl) w2.free e qv (λσ h=>by rw[w1.sat h,w2.sat h];exact Iff.rfl) (λn h=>h.elim (λh=>.inl (by rw[ep,h];exact rfl)) λh=>.inr (w2.sat mid.av.sol▸h)) (λQ hs hb z1 z2=>⟨w1.dW hb z1,w2.dW hb z2⟩) (.inl ⟨ep,(w2.sat mid.av.sol).symm⟩)
 |c k z=>
  cases v with
  |v x=>exact zN mid w1 rfl w2 qu|s1=>exact mP mid w1 w2 nofun|s2=>exact mP mid w1 w2 nofun
  |c k' z'=>
   show Nx b₀ S₀ s t b S p q l (if k=k'/\z=z' then .skip else .fail)
   by_cases e:k=k'/\z=z'
   .rw[aI e];exact EO mid w1 w2 λσ=>by rw[e.1,e.2]
   .rw[aD e];exact mP mid w1 w2 λσ h=>e (by injection h with h1 h2;exact⟨h1,h2⟩)
 |s1 f x=>
  cases v with
  |v x=>exact zN mid w1 rfl w2 qu|c=>exact mP mid w1 w2 nofun|s2=>exact mP mid w1 w2 nofun
  |s1 g y=>
   show Nx b₀ S₀ s t b S p q l (if f=g then .push [(x,y)] else .fail)
   by_cases e:f=g
   .subst e;rw[aI rfl];refine EN mid w1 w2 rfl rfl (λσ=>⟨λh r m=>?_,λh=>by rw[ES,ES,show x.app σ=y.app σ from h _ (.head _)]⟩) (λr m n=>?_) (λQ hs z1 z2 r m=>?_) (Zl (x:=(x.app S).a7) (y:=(y.app S).a7)) λσ D k=>k.one (cJ _)
    .cases bB.mp m;injection h
    .cases bB.mp m;exact⟨id,id⟩
    .cases bB.mp m;exact⟨hs.s1 f x z1,hs.s1 f y z2⟩
   .rw[aD e];exact mP mid w1 w2 λσ h=>e (by injection h)
 |s2 f x x2=>
  cases v with
  |v x=>exact zN mid w1 rfl w2 qu|c=>exact mP mid w1 w2 nofun|s1=>exact mP mid w1 w2 nofun
  |s2 g y y2=>
   show Nx b₀ S₀ s t b S p q l (if f=g then .push [(x2,y2),(x,y)] else .fail)
   by_cases e:f=g
   .subst e;rw[aI rfl];refine EN mid w1 w2 rfl rfl (λσ=>⟨λh r m=>?_,λh=>by rw[EU,EU,show x.app σ=y.app σ from h (x,y) (.tail _ (.head _)),show x2.app σ=y2.app σ from h (x2,y2) (.head _)]⟩) (λr m n=>?_) (λQ hs z1 z2 r m=>?_) (Zm (x:=(x.app S).a7) (y:=(y.app S).a7)) λσ D k=>k.two (kD (jT _ _)) (kD (jU _ _))
    .injection h with _ h1 h2;rcases bD.mp m with e|m
     .rw[e];exact h2
     .rw[bB.mp m];exact h1
    .rcases bD.mp m with e|m
     .rw[e];exact⟨.inr,.inr⟩
     .rw[bB.mp m];exact⟨.inl,.inl⟩
    .rcases bD.mp m with e|m
     .rw[e];exact⟨(hs.s2 f x x2 z1).2,(hs.s2 f y y2 z2).2⟩
     .rw[bB.mp m];exact⟨(hs.s2 f x x2 z1).1,(hs.s2 f y y2 z2).1⟩
   .rw[aD e];exact mP mid w1 w2 λσ h=>e (by injection h)
end
section
variable(pr:a9 W){s:U.Tm}(ha:a<H.length)(hq:BQ Qz b₀)(qs:Qz s)(qt:Qz t)
include pr ha hq qs qt
def Vg{Q:K2}(q1:∀{b S F st g},U.Met b₀ S₀ s t b S->BQ Qz b->Q .aK F (mH H a b st [] g))(q0:fu b₀ s t->∀{F b st l g},Q (.ret (.bool L0)) F (mH H a b st l g)):∀(nf sz:Nat) {b S todo},tx b (bY [s.app S₀,t.app S₀])=nf->sF S todo=sz->da b₀ S₀ s t b S todo->(∀σ,U.Sat b σ->Sk ((s.app σ).dep) (q4 σ todo))->
  Ex λk=>∀{x y z st g},gZ (bI W (n+2) uA) (aO W (n+2) rL) k [F5 (.obj a),x,y,F5 (.obj (aH H)),z] (mH H a b st todo g) Q:=by
 intro nf
 induction nf using Nat.strongRecOn with
 |ind nf IH=>
 intro sz
 induction sz using Nat.strongRecOn with
 |ind sz ih=>
 intro b S todo e1 e2 mid sk;obtain⟨bq,tq⟩:=mid.dW Qz (Gr _) hq qs qt
 cases todo with
 |nil=>exact Ex.mk (v:=1) λ{x y z st g}=>uG (l:=[]) (Bh ha) (q1 mid.done bq)|cons pq l=>
  obtain⟨p,q⟩:=pq;obtain⟨u,w1⟩:=mid.av.walks p;obtain⟨v,w2⟩:=mid.av.walks q;obtain⟨qp,qq⟩:=tq _ (.head _);have qu:=w1.dW bq qp;have qv:=w2.dW bq qq;have nx:=MB mid w1 w2 qu qv;have one:∀{k} (m:∀{st g} {K:BT},(∀{F H},gZ (bI W (n+2) uA) (aO W (n+2) rL) k F H Q->K F H Q)->MQ H a b S st l g K Q (act u v)),Ex λk=>∀{x y z st g},gZ (bI W (n+2) uA) (aO W (n+2) rL) k [F5 (.obj a),x,y,F5 (.obj (aH H)),z] (mH H a b st ((p,q)::l) g) Q:=λ{k} m=>Ex.mk (v:=k+1) λ{x y z st g}=>l7 λK kk=>Vh pr ha mid.av bq w1 w2 qu.wt qv.wt (m kk);have sz_l:sF S l<sz:=by rw[<-e2];exact Nat.lt_add_of_pos_left (bw (U.Tm.uj _) (aW _ _))
  generalize act u v=A at nx one
  cases A with
  |skip=>
   obtain⟨h⟩:=ih _ sz_l e1 rfl nx λσ h=>(sk σ h).pop;exact one λkk=>kk h
  |fail=>exact one (k:=0) λj=>λ{F}=>q0 nx|bind x r=>
   obtain⟨h1,h2,h3,h4⟩:=nx
   cases o:(r.app S).hasB x with
   |true=>exact one (k:=0) λj=>⟨h1,h2,λo=>q0 (h3 o),λz=>(by rw[o] at z;cases z)⟩|false=>
    obtain⟨m,h5,h6⟩:=h4 o;obtain⟨h⟩:=IH _ (e1▸h6) _ rfl rfl m λσ h=>(sk σ (h5 σ h)).pop;exact one λkk=>⟨h1,h2,λz=>(by rw[o] at z;cases z),λj=>kk h⟩
  |push ps=>
   obtain⟨m,h5,h6⟩:=nx;have sk':=λσ h=>h6 σ _ h (sk σ h);obtain⟨h⟩:=ih _ (e2▸h5) e1 rfl m sk';refine one λkk=>⟨?_,kk h⟩
   have:=(sk' S mid.av.sol).len
   rw[q4,aQ] at this;exact aA this (Jz mid.av bq qs)
def Ii(M:af b₀ S₀)(hb:aB H a=F5 (.dict (dQ b₀) st)){Q:K1}(q1:∀{b S st g},U.Met b₀ S₀ s t b S->BQ Qz b->Q (.bool F6) (aa (app H g) (.dict (dQ b) st) a))(q0:fu b₀ s t->∀{b st g},Q (.bool L0) (aa (app H g) (.dict (dQ b) st) a)):Fi W (n+3) 71 [.obj a,aC s,aC t] H Q:=by
 refine pr.fe QA rfl ?_;have e:app H [.lst [jf (s,t)]]=mH H a b₀ st [(s,t)] []:=(lr (e7 hb)).symm;refine dN (lz rfl) ?_;rw[show app H [Cell.lst [.tup [aC s,aC t]]]=mH H a b₀ st [(s,t)] [] from e]
 obtain⟨h⟩:=Vg (n:=n) pr ha hq qs qt (Q:=lQ (aO W (n+2) (.cons (.ret (.const (.bool F6))) .nil)) (gq Q)) (λm q=>q1 m q) (λu=>q0 u) _ _ rfl rfl (.start M s t) λσ y=>Sk.start _;exact⟨h⟩
end
def dD:U.Ev->V
 |(0,f,ts)=>.tup [.str Aaa,.int f,.lst (ts.map aC)]|(1,f,ts)=>.tup [.str Aac,.int f,.lst (ts.map aC)]|(2,_,ts)=>.tup [.str [99,117,116,116,111],.lst (ts.map aC)]|_=>.tup [.str [99,117,116]]
def eC(l:List Nat):List V:=l.map λ(k:Nat)=>V.int (k:Int)
def IF:∀{tb:List Nat},tb.Nodup->(bh tb t).2.Nodup:=by
 induction t with
 |v n=>
  intro tb h;rw[kY];by_cases m:n∈tb
  .rw[aI m];exact h
  .rw[aD m];exact fm.mpr ⟨h,bo.mpr ⟨dZ,dU⟩,λa ha b hb e=>m ((bB.mp hb)▸e▸ha)⟩
 |c=>exact λh=>h|s1 f x ih=>exact ih|s2 f x y i1 i2=>exact λh=>i2 (i1 h)
def BY:∀{tb:List Nat},tb.Nodup->(eH tb ts).2.Nodup:=by
 induction ts with
 |nil=>exact λh=>h|cons t ts ih=>exact λh=>ih (IF h)
section
variable(M:af b S)(h:BQ Qz b)(ht:∀t∈ts,Qz t)
include M h ht
def J1(hx:x∈bY (ts.map (U.Tm.app S))):x<=150000:=xM M (N:=λn=>n<=150000) (λp hp=>⟨(h p hp).1.lo,(h p hp).2.lo⟩) (λt m=>(ht t m).lo) hx
def CS:(bY (ts.map (U.Tm.app S))).length<=150001:=by
 have:=mi (r:=List.range 150001) (BY (ts:=ts.map (U.Tm.app S)) dU) λx hx=>oe.mpr (kD (J1 M h ht hx))
 rw[kB] at this;exact this
def J0(f:Nat×Nat)(evs:List U.Ev)(picks:List Nat):BQ Qz (U.event b S f ts evs picks).1:=(AL M h (λy=>.c) λy m=>.v (J1 M h ht m)).1
end
def Oj{k:Nat}:Int.fmod (m:Int) (k:Int)=((m % k:Nat):Int):=by rw[Int.fmod_eq_emod_of_nonneg _ (fD k)];rfl
def fw{l r s:List α}:app (app l r) s=app l (r++s):=by rw[cQ,cQ,cQ,dw]
def Bx{f:α->β}{l:List α}:fN (l.map f)=fN l:=by cases l<;>rfl
variable{src:V}{evs:List U.Ev}{picks:List Nat}
section
variable(pr:a9 W){e:Nat}{Q:K1}
theorem BO{l:List V}(hc:aB H w=F5 (.lst l))(q:Q (.bool (!fN l)) H):vY W (.obj w) H Q:=by
 show ob (ob (aB H w) L3 _) _ _;rw[hc];exact q
theorem BN{x y:Int}{k:Nat}(e1:x=m)(e2:y=k)(h:0<k)(q:Q (.int ((m % k:Nat):Int)) H):Seq (Prim W (.bin .Mod) [.int x,.int y] H) Q:=by
 rw[e1,e2];exact fP (tI.int (gV.mpr h)) (by rw[Oj];exact q)
include pr
def C6(M:af b S)(hb:aB H a=F5 (.dict (dQ b) st))(hy:∀{t},ob (aB (dm F x (aC t)) y) L3 id=F5 (.obj a))(hx:∀{t},ob (aB (dm F x (aC t)) x) L3 id=F5 (aC t))(hd:∀t∈ts,(t.app S).dep<=d)(z:ts.length<=aJ)(hs:src=.tup (ts.map aC)\/∃i,src=.obj i/\aB H i=F5 (.lst (ts.map aC)))(q:Q (.lst ((ts.map (U.Tm.app S)).map aC)) H):BD (bI W (d+2) (.call 69 (.cons (.var y) (.cons (.var x) .nil)))) x F Q src H:=by
 have z':(ts.map aC).length<=aJ:=by rw[aQ];exact z
 rcases hs with rfl|⟨i,rfl,hi⟩
 .refine⟨z',?_⟩
  have:∀{ts:List U.Tm} {Q:gW},(∀t∈ts,(t.app S).dep<=d)->Q ((ts.map (U.Tm.app S)).map aC) H->qB (bI W (d+2) (.call 69 (.cons (.var y) (.cons (.var x) .nil)))) x F (ts.map aC) H Q:=λ{ts}=>by
   induction ts with
   |nil=>exact λo q=>q|cons t ts ih=>exact λhd q=>bJ hy (bJ hx (yM pr hb M (hd t (.head _)) (ih (λt m=>hd t (.tail _ m)) q)))
  exact this hd ⟨.val,q⟩
 .refine⟨bV hi,z',?_⟩
  have:∀{C:AH->Prop} {ts:List U.Tm} {Q:gW},C H->(∀t∈ts,(t.app S).dep<=d)->Q ((ts.map (U.Tm.app S)).map aC) H->qA C (bI W (d+2) (.call 69 (.cons (.var y) (.cons (.var x) .nil)))) x F (ts.map aC) H Q:=λ{C ts}=>by
   induction ts with
   |nil=>exact λc o q=>⟨c,q⟩|cons t ts ih=>exact λc hd q=>⟨c,bJ hy (bJ hx (yM pr hb M (hd t (.head _)) (ih c (λt m=>hd t (.tail _ m)) q)))⟩
  exact this (bV hi) hd ⟨.val,q⟩
def V0{c:Nat}{f:Option V->Fa}(hset:∀{t o},dm (f o) x (aC t)=f (F5 (aC t)))(hx:∀{o},ob (aB (f o) x) L3 id=o)(hy:∀{o},ob (aB (f o) y) L3 id=F5 (.obj c)){Q:K2}:∀{ts:List U.Tm} {H:AH} {tb:List Nat} {o},(∀t∈ts,t.dep<=d)->aB H c=F5 (.lst (aS tb))->(eH tb ts).2.length<aJ->(∀{o},Q .aK (f o) (aa H (.lst (aS (eH tb ts).2)) c))->dA x (aO W (d+1) (.cons (.expr (.call 67 (.cons (.var x) (.cons (.var y) .nil)))) .nil)) (ts.map aC) (f o) H Q:=by
 intro ts
 induction ts with
 |nil=>exact λ{H tb o} j h j q=>lr h▸q|cons t ts ih=>
  intro H tb o hd h z q;refine fL λK k=>?_;rw[hset];exact bJ hx (bJ hy (Iq pr (hd t (.head _)) h (bp xA z) (k (ih (λt m=>hd t (.tail _ m)) (cZ h) z (λ{o}=>by rw[gy];exact q)))))
def tr(M:af b S)(hq:BQ Qz b){f:Nat×Nat}(hE:∀ts,dD (f.1,f.2,ts)=.tup [.str nm,.int f.2,.lst (ts.map aC)])(hb:aB H a=F5 (.dict (dQ b) st))(he:aB H e=F5 (.lst (evs.map dD)))(hs:src=.tup (ts.map aC)\/∃i,src=.obj i/\aB H i=F5 (.lst (ts.map aC)))
  (ht:∀t∈ts,Qz t) (sh:eM S ts) (hl:ts.length<=1000) (hp:0<picks.length) (hv:evs.length<1000)
  (q:∀{st g},Q .none (aa (aa (app H g) (.lst ((U.event b S f ts evs picks).2.map dD)) e) (.dict (dQ (U.event b S f ts evs picks).1) st) a)):
  Fi W (n+153) 72 [.obj a,.str nm,.int f.2,src,.obj e,.lst (eC picks)] H Q:=by
 have hae:e≠a:=λq=>by rw[q,hb] at he;cases he
 have zl:ts.length<=aJ:=aA hl (lz rfl);have hdep:∀t∈ts.map (U.Tm.app S),t.dep<=n+150:=λt m=>by
  obtain⟨u,hu,rfl⟩:=dB.mp m;exact aA (sh u hu) (cI _ _)
 have hnl:=CS M hq ht;have hne:e≠aH H:=λq=>by rw[ah] at he;exact absurd (dT.mp he).1 (gF.mpr (by rw[q,cY];exact au _))
 refine pr.fe QB rfl ?_;refine C6 pr M hb (d:=n+150) rfl rfl (λt m=>aA (sh t m) (cI _ _)) zl hs (dN (lz rfl) ?_);refine V0 pr (d:=n+151) (c:=aH H) (tb:=[]) (f:=λo=>[F5 (.obj a),F5 (.str nm),F5 (.int f.2),F5 src,F5 (.obj e),F5 (.lst (eC picks)),L3,F5 (.lst ((ts.map (U.Tm.app S)).map aC)),F5 (.obj (aH H)),o,L3]) rfl rfl rfl (λt m=>fE (hdep t m)) bj (bp hnl (lz rfl)) λ{o}=>?_;rw[jO];refine ae (iq (e7 he)) (Ba pr (d:=n+150) hdep (by rw[aQ];exact zl) (aA hnl (lz rfl)) λ{cc}=>dK (e7 (e7 he)) (by rw[aQ];exact jV hv (lz rfl)) ?_)
 rw[show evs.map dD++[V.tup [.str nm,.int f.2,.lst ((eW (ts.map (U.Tm.app S))).map aC)]]=((U.event b S f ts evs picks).2).map dD by rw[<-hE];exact(b8 (f:=dD) (l₁:=evs) (l₂:=[(f.1,f.2,eW (ts.map (U.Tm.app S)))])).symm]
 have he3:=cZ (y:=.lst ((U.event b S f ts evs picks).2.map dD)) (e7 (y:=cc) (e7 (y:=.lst (aS (bY (ts.map (U.Tm.app S))))) he));have hn3:=eX (y:=.lst ((U.event b S f ts evs picks).2.map dD)) (e7 (y:=cc) (bj (l:=H) (x:=.lst (aS (bY (ts.map (U.Tm.app S))))))) hne;have hb3:=eX (y:=.lst ((U.event b S f ts evs picks).2.map dD)) (e7 (y:=cc) (e7 (y:=.lst (aS (bY (ts.map (U.Tm.app S))))) hb)) hae;have hlen:((U.event b S f ts evs picks).2.map dD).length=evs.length+1:=by rw[aQ];exact a8
 have hpl:(eC picks).length=picks.length:=aQ _;rw[fw] at he3 hn3 hb3 ⊢;refine jJ he3 (BN (aF _ hlen) (aF _ hpl) hp ?_);have hj:(evs.length+1) % picks.length<picks.length:=tE _ hp;refine bJ (show aB (eC picks) _=F5 (.int (((picks[(evs.length+1) % picks.length]?).getD 0:Nat):Int)) by unfold eC;rw[ah,gC,bu hj];rfl) (BO hn3 ?_)
 have done:jm (bY (ts.map (U.Tm.app S))) (evs.length+1) picks=L3->Q .none (aa (app H ([.lst (aS (bY (ts.map (U.Tm.app S))))]++[cc])) (.lst ((U.event b S f ts evs picks).2.map dD)) e):=λh=>by
  have q:=q (st:=st) (g:=[.lst (aS (bY (ts.map (U.Tm.app S))))]++[cc]);rw[show(U.event b S f ts evs picks).1=b from aF (zW b (evs.length+1)) h,lr hb3] at q
  exact q
 unfold jm at done;generalize hpk:(picks[(evs.length+1) % picks.length]?).getD 0=pk at*;have en:fN (aS (bY (ts.map (U.Tm.app S))))=fN (bY (ts.map (U.Tm.app S))):=by unfold aS bU;rw[Bx,Bx]
 by_cases h0:bY (ts.map (U.Tm.app S))=[]
 .exact aZ (by rw[en,h0];rfl) (done (aD λq=>q.1 h0))
 .have hpos:0<(bY (ts.map (U.Tm.app S))).length:=yq.mpr h0;refine ae (by rw[en,rW];exact aF not (jy.mpr λq=>h0 (Dh.mp q))) ?_
  by_cases hp0:pk=0
  .exact aZ (rG.trans (bC λq=>q hp0)) (done (aD λq=>fq q.2 hp0))
  .have hx:=bu (tE pk hpos);have q:=q (st:=st+1) (g:=[.lst (aS (bY (ts.map (U.Tm.app S))))]++[cc]);rw[show(U.event b S f ts evs picks).1=b++[(_,_)] from aF (zW b (evs.length+1)) (show jm (bY (ts.map (U.Tm.app S))) (evs.length+1) picks=F5 _ by unfold jm;rw[hpk];exact(aI ⟨h0,vW hp0⟩).trans hx),<-wI (xK M (d8 hx))] at q
   refine ae (rG.trans (bE hp0)) (jJ he3 (jJ hn3 (BN rfl (k:=(bY (ts.map (U.Tm.app S))).length) (by unfold aS bU;rw[aQ,aQ]) hpos ?_)))
   rw[hlen];refine(fW hn3 (v:=.int ((bY (ts.map (U.Tm.app S)))[pk % (bY (ts.map (U.Tm.app S))).length]'(tE pk hpos):Nat)) (by unfold aS bU;rw[ah,gC,gC,hx];rfl) (pK hb3 (by rw[dQ,aQ];exact aA (CQ M hq) (lz rfl)) ?_))
   exact q
end
def N7{l r l':List α}{x:α}(h:l.drop a=x::r):aB l a=F5 x/\a<l.length/\(l++l').drop (a+1)=r++l':=by
 have hl:a<l.length:=Dw λq=>by rw[DX q] at h;cases h
 rw[List.drop_eq_getElem_cons hl] at h;cases h;exact⟨by rw[ah,bu hl],hl,List.drop_append_of_le_length hl⟩
section
variable{l r:List α}{k:Nat}{x y:α}
def dP(h:aB l i=F5 x):aB (app l r) i=F5 x:=by rw[ah] at h ⊢;rw[cQ,qJ (dT.mp h).1];exact h
def eA:aB (app l r) (aH l+k)=aB r k:=by rw[ah,ah,cQ,cY,oX (aW _ _),qP]
def MU(h:i<l.length):aa (app l r) y i=app (aa l y i) r:=by rw[dO,dO,cQ,cQ,List.set_append_left _ _ h]
def qi:aa (app l r) y (aH l+k)=app l (aa r y k):=by rw[dO,dO,cQ,cQ,cY,Dl _ _ (aW _ _),qP]
def Uu:aH (aa l x i)=aH l:=by rw[cY,cY,dO,List.length_set]
def len_app:aH (app l r)=aH l+aH r:=by rw[cY,cY,cY,cQ,a8]
def fO(h:aB l i=F5 x):i<l.length:=by rw[ah] at h;exact(dT.mp h).1
def mf:jj m=(List.range' 0 m).map λi:Nat=>V.int (i:Int):=by rw[Bs];unfold jL;rw[List.range_eq_range']
def te(h:l.drop a=x::r):aB l a=F5 x/\l.drop (a+1)=r:=by obtain⟨h1,_,h2⟩:=N7 (l':=[]) h;exact⟨h1,fj l▸fj r▸h2⟩
end
structure Px where
 s0:Cell
 s1:Cell
 s2:Cell
 s3:Cell
 s4:Cell
 fn:V
 cnt:V
 args:List U.Tm
 goals:List Gl
 call:List U.Tm
@[reducible] def hA(X:Px)(r:AH):AH:=X.s0::X.s1::X.s2::X.s3::X.s4::.inst 6 [(100897158637842290,X.fn),(5929854835,.tup (X.args.map aC)),(1543761914995,.obj 6),(1526583357044,X.cnt)]::.lst (X.goals.map aN)::.lst (X.call.map aC)::r
@[reducible] def hR(X:Px)(b:Bd)(st:Nat)(evs:List U.Ev)(ks:List U.Tm)(g:AH):AH:=hA X (.dict (dQ b) st::.lst (evs.map dD)::.lst (ks.map aC)::g)
def CY(w:List Nat):V:=.tup [.obj 9,.obj 10,.str w]
def All(X:Px)(σ:Sb):Prop:=X.args.map (U.Tm.app σ)=X.call.map (U.Tm.app σ)
def zip_map:∀{us:List U.Tm},ts.length=us.length->((∀p∈ts.zip us,p.1.app σ=p.2.app σ)↔ts.map (U.Tm.app σ)=us.map (U.Tm.app σ)):=by
 induction ts with
 |nil=>exact λ{us} h=>by cases us with|nil=>exact⟨λy=>rfl,λy y m=>memN m⟩|cons u us=>exact nomatch h
 |cons t ts ih=>
  intro us h
  cases us with
  |nil=>exact nomatch h
  |cons u us=>
   rw[Dm,List.forall_mem_cons,ih (qU h),cV,cV,List.cons.injEq]
variable{ks:List U.Tm}{R:U.Tm->Prop}{l:List V}
section
variable(pr:a9 W){X:Px}
theorem Qn:8<(hR X b st evs ks g).length:=bw (by decide:8<11) (cI 11 g.length)
include pr
def XY(hS_:jY R)(qa:∀t∈X.args,Qz t/\R t)(qc:∀t∈X.call,Qz t/\R t){P:V}{Q:K2}:∀{ps i b S st g o},(X.args.zip X.call).drop i=ps->af b S->BQ Qz b->BQ R b->(∀σ,(U.Sat b σ/\∀p∈ps,p.1.app σ=p.2.app σ)↔All X σ)->
  (∀{b S st g o},af b S->BQ Qz b->BQ R b->(∀σ,U.Sat b σ↔All X σ)->Q .aK [F5 (.obj 8),F5 (.obj 5),F5 (.obj 7),F5 P,F5 (.obj 9),F5 (.obj 10),o,L3] (hR X b st evs ks g))->
  ((∀σ,¬All X σ)->∀{F b st g},Q (.ret (CY Aae)) F (hR X b st evs ks g))->
  dA 6 (aO W (n+4) HQ) ((List.range' i ps.length).map λi:Nat=>V.int (i:Int)) [F5 (.obj 8),F5 (.obj 5),F5 (.obj 7),F5 P,F5 (.obj 9),F5 (.obj 10),o,L3] (hR X b st evs ks g) Q:=by
 intro ps
 induction ps with
 |nil=>exact λ{i b S st g o} y M hq hr h q1 y=>q1 M hq hr λσ=>⟨λs=>(h σ).mp ⟨s,λy m=>memN m⟩,λs=>((h σ).mpr s).1⟩|cons p ps ih=>
  intro i b S st g o hd M hq hr h q1 q0;obtain⟨d1,d2⟩:=te hd;rw[ah] at d1;obtain⟨d3,d4⟩:=List.getElem?_zip_eq_some.mp d1;refine fL λK k=>?_;refine bJ (pU (ah▸d3)) (bJ (pU (ah▸d4)) ?_);have ra:=qa _ (d8 d3);have rc:=qc _ (d8 d4);refine Ii pr Qn hq ra.1 rc.1 M rfl (λ{b' S' st' g'} m hq'=>?_) λu {b' st' g'}=>q0 λσ a=>?_
  .exact k (ih (g:=app g g') d2 m.av hq' (m.dW R hS_ hr ra.2 rc.2) (λσ=>.trans (by rw[m.sat,and_assoc,List.forall_mem_cons]) (h σ)) q1 q0)
  .have z:=(h σ).mpr a;exact u σ z.1 (z.2 p (.head _))
theorem H6{Q:K1}(hc:aB H i=F5 (.lst l))(q:Q (.obj (aH H)) (app H [.lst l])):Seq (Prim W (.f1 .list) [.obj i] H) Q:=by rw[cY,cQ] at q;exact gx (mL.lst (.cell (ah▸hc)) .cell) q
omit pr in
def yf(g:Gl):Prop:=(∀t∈jg g,Qz t)/\(jg g).length<=100/\∀k,g=.ao k\/g=.mk k->k<=150000
omit pr in
theorem UE{p:PS}{g:Gl}{S2:Sb}(h:(jg g).length<=100):(p.to g picks S2).ks.length<=p.ks.length+100/\(p.to g picks S2).evs.length<=p.evs.length+1:=by
 cases g with
 |call f as=>exact⟨aA (bX a8) (dC h _),bX a8⟩|bi f as=>exact⟨aA (bX a8) (dC h _),bX a8⟩|ao k=>exact⟨aW _ _,cJ _⟩|mk k=>exact⟨aW _ _,cJ _⟩|ct k=>exact⟨aW _ _,bX a8⟩|cut=>exact⟨aW _ _,bX a8⟩
def II{Q:K1}(hi:aB H i=F5 (.lst [aC t]))(hd:t.dep<=d)(hs:(bY [t]).length<=aJ)(q:∀{c},Q (.lst ((eW [t]).map aC)) (app H [c])):Fi W (d+2) 66 [.obj i] H Q:=by
 refine pr.fe GR rfl ?_;refine kX ⟨bV (e7 hi),lz rfl,bV (e7 hi),BZ pr (tb:=[]) hd bj hs λ{st'}=>?_⟩;rw[jO];exact⟨bV (e7 hi),.val,q⟩
def XX(hp:0<picks.length){Q:K2}{q:PS}:∀{gs p st g o},l9 picks gs p q->af p.b p.S->BQ Qz p.b->(∀g∈gs,yf g)->p.ks.length+100*gs.length<=1000->p.evs.length+gs.length<1000->
  (∀{o st g},af q.b q.S->BQ Qz q.b->Q .aK [F5 (.obj 8),x1,x2,F5 (.lst (eC picks)),F5 (.obj 9),F5 (.obj 10),x6,o] (hR X q.b st q.evs q.ks g))->
  fh (It .lst (.obj 6) (X.goals.map aN)) 7 (aO W (n+154) A4) (gs.map aN) [F5 (.obj 8),x1,x2,F5 (.lst (eC picks)),F5 (.obj 9),F5 (.obj 10),x6,o] (hR X p.b st p.evs p.ks g) Q:=by
 intro gs
 induction gs with
 |nil=>
  intro p st g o C M hq _ _ _ k;cases C;exact⟨bV rfl,k M hq⟩
 |cons a gs ih=>
  intro p st g o C M hq hg z1 z2 k;obtain⟨sh,gn,S2,M2,C⟩:=C;have ha:=hg _ (.head _);have zl:=UE (p:=p) (S2:=S2) (picks:=picks) ha.2.1;have z3:(p.to a picks S2).ks.length+100*gs.length<=1000:=aA (b5 zl.1 _) (aA (bX (by rw[dY,y5,bT,bW 100])) z1)
  have z4:(p.to a picks S2).evs.length+gs.length<1000:=bp (b5 zl.2 _) (bp (bX (iy _ _ _)) z2);have ze:p.evs.length<1000:=bp (aW _ _) z2;have go:∀{st g o} {K:BT},(∀{F H},fh (It .lst (.obj 6) (X.goals.map aN)) 7 (aO W (n+154) A4) (gs.map aN) F H Q->K F H Q)->BQ Qz (p.to a picks S2).b->K [F5 (.obj 8),x1,x2,F5 (.lst (eC picks)),F5 (.obj 9),F5 (.obj 10),x6,o] (hR X (p.to a picks S2).b st (p.to a picks S2).evs (p.to a picks S2).ks g) Q:=λkk hb=>kk (ih (p:=p.to a picks S2) C M2 hb (λg m=>hg g (.tail _ m)) z3 z4 k);have zb:(dQ p.b).length<=aJ:=by rw[dQ,aQ];exact aA (CQ M hq) (lz rfl)
  cases a with
  |call f as=>
   refine de (bV rfl) λK kk=>gx (mL.tup .val) ⟨by rw[aQ,aQ];exact aA (aA (bX a8.symm) (aA (aW _ _) z3)) (lz rfl),?_⟩
   rw[<-b8];exact tr (a:=8) (e:=9) (f:=(0,f)) (nm:=Aaa) pr M hq (λy=>rfl) (src:=.tup (as.map aC)) rfl rfl (.inl rfl) ha.1 sh (aA ha.2.1 ⋯) hp ze λ{st2 g2}=>go (g:=app g g2) kk (J0 M hq ha.1 (0,f) p.evs picks)
  |bi f as=>
   refine de (bV rfl) λK kk=>gx (mL.tup .val) ⟨by rw[aQ,aQ];exact aA (aA (bX a8.symm) (aA (aW _ _) z3)) (lz rfl),?_⟩
   rw[<-b8];exact tr (a:=8) (e:=9) (f:=(1,f)) (nm:=Aac) pr M hq (λy=>rfl) (src:=.tup (as.map aC)) rfl rfl (.inl rfl) ha.1 sh (aA ha.2.1 ⋯) hp ze λ{st2 g2}=>go (g:=app g g2) kk (J0 M hq ha.1 (1,f) p.evs picks)
  |ao k=>
   have hb:BQ Qz (p.b++[(k,.c L0 U.e6)]):=λx m=>(cD.mp m).elim (hq x) λm=>(bB.mp m).symm▸⟨.v (ha.2.2 k (.inl rfl)),.c⟩;refine de (bV rfl) λK kk=>?_;have z:=go (st:=st+1) (g:=g) (o:=F5 (aN (.ao k))) kk hb;unfold PS.to jr hR at z;rw[<-wI gn] at z;have t:mM W (.obj 8) (.int (k:Int)) (aC (.c L0 U.e6)) [F5 (.obj 8),x1,x2,F5 (.lst (eC picks)),F5 (.obj 9),F5 (.obj 10),x6,F5 (aN (.ao k))] (hR X p.b st p.evs p.ks g) (gQ K Q):=pK (a:=8) rfl zb z;exact t
  |mk k=>
   have hb:BQ Qz (p.b++[(k,.c L0 (5000+(p.evs.length:Int)))]):=λx m=>(cD.mp m).elim (hq x) λm=>(bB.mp m).symm▸⟨.v (ha.2.2 k (.inr rfl)),.c⟩;refine de (bV rfl) λK kk=>?_;have z:=go (st:=st+1) (g:=g) (o:=F5 (aN (.mk k))) kk hb;unfold PS.to jr hR at z;rw[<-wI gn] at z;rw[<-show(p.evs.map dD).length=p.evs.length from aQ _] at z
   have t:mM W (.obj 8) (.int (k:Int)) (aC (.c L0 (5000+((p.evs.map dD).length:Int)))) [F5 (.obj 8),x1,x2,F5 (.lst (eC picks)),F5 (.obj 9),F5 (.obj 10),x6,F5 (aN (.mk k))] (hR X p.b st p.evs p.ks g) (gQ K Q):=pK (a:=8) rfl zb z;exact t
  |ct k=>
   refine de (bV rfl) λK kk=>?_;have hd:((U.Tm.v k).app p.S).dep<=n+152:=aA (sh _ (.head _)) (aA (by decide:150<=152) (cI _ _))
   have hx:Qz (.v k):=ha.1 _ (.head _);have hn:(bY [(U.Tm.v k).app p.S]).length<=aJ:=aA (CS M hq (ts:=[.v k]) λt m=>bB.mp m▸hx) (lz rfl);refine yM pr (a:=8) (H:=hR X p.b st p.evs p.ks g) (b:=p.b) (st:=st) rfl M (d:=n+152) (t:=.v k) hd ?_;refine dN (lz rfl) (II pr (d:=n+152) (t:=(U.Tm.v k).app p.S) (H:=app (hR X p.b st p.evs p.ks g) [.lst [aC ((U.Tm.v k).app p.S)]]) (i:=aH (hR X p.b st p.evs p.ks g)) bj hd hn λ{c}=>?_);have z:=go (st:=st) (g:=app (app g [.lst [aC ((U.Tm.v k).app p.S)]]) [c]) (o:=F5 (aN (.ct k))) kk hq;unfold PS.to jr hR at z;rw[b8] at z;exact dK (W:=W) (i:=9) (H:=app (app (hR X p.b st p.evs p.ks g) [.lst [aC ((U.Tm.v k).app p.S)]]) [c]) (l:=p.evs.map dD) rfl (by rw[aQ];exact jV ze (lz rfl)) z
  |cut=>
   refine de (bV rfl) λK kk=>?_;have z:=go (st:=st) (g:=g) (o:=F5 (aN .cut)) kk hq;unfold PS.to jr hR at z;rw[b8] at z;exact dK (W:=W) (i:=9) (H:=hR X p.b st p.evs p.ks g) (l:=p.evs.map dD) rfl (by rw[aQ];exact jV ze (lz rfl)) z
def XW{Q:K1}(hS_:jY R)(qa:∀t∈X.args,Qz t/\R t)(qc:∀t∈X.call,Qz t/\R t)(qg:∀g∈X.goals,yf g)(hl:X.args.length=X.call.length)(hl3:X.call.length<=100)(wY:X.goals.length<=5)(hp:0<picks.length)
  (qf:(∀σ,¬All X σ)->∀{b st g},Q (CY Aae) (hR X b st [] X.call g))
  (qd:∀{b S},af b S->BQ R b->(∀σ,U.Sat b σ↔All X σ)->∃q,l9 picks X.goals ⟨b,S,X.call,[]⟩ q/\∀{st g},af q.b q.S->BQ Qz q.b->Q (CY Aah) (hR X q.b st q.evs q.ks g)):
  Fi W (n+155) 73 [.obj 8,.obj 5,.obj 7,.lst (eC picks)] (hA X [.dict [] 0]) Q:=by
 have ez:(X.args.zip X.call).length=X.call.length:=by rw[List.length_zip,hl,y0]
 refine pr.fe QC rfl ?_;refine dN (lz rfl) (H6 pr (i:=7) rfl ⟨by rw[aQ];exact aA hl3 (lz rfl),?_⟩)
 rw[aQ,<-ez,mf];refine XY pr (n:=n+150) (evs:=[]) (b:=[]) hS_ qa qc List.drop_zero .nil (λp hp=>memN hp) (λp hp=>memN hp) (λσ=>.trans ⟨λh=>h.2,λh=>⟨(λy y e=>ai e),h⟩⟩ (zip_map hl)) (λ{b S st g o} M hq hr sat=>?_) λno=>qf no;obtain⟨q,C,k⟩:=qd M hr sat;refine⟨bV rfl,XX pr hp (p:=⟨b,S,X.call,[]⟩) C M hq qg ?_ (bp (bX (cW _)) (bp wY ⋯)) λM4 hq4=>k M4 hq4⟩
 exact aA (eb hl3 (dc 100 wY)) ⋯
end
def occs(t:U.Tm):List Nat:=U.Tm.rec (motive:=λy=>List Nat) (λn=>[n]) (λy y=>[]) (λy y ih=>ih) (λy y y a b=>a++b) t
def CD:(occs t).length<=t.a7:=by
 induction t with
 |v n=>exact au _|c k z=>exact ba _|s1 f x ih=>exact fE ih|s2 f x y i1 i2=>exact fE (aA (bX a8) (eb i1 i2))
def ja(tb:List Nat)(k:Nat):List Nat:=if k∈tb then tb else tb++[k]
def U1:(bh tb t).2=(occs t).foldl ja tb:=by
 induction t generalizing tb with
 |v n=>show(bh tb (.v n)).2=ja tb n;rw[kY];unfold ja;split<;>rfl|c k z=>rfl|s1 f x ih=>exact ih|s2 f x y i1 i2=>exact i2.trans ((aF (λtb=>(occs y).foldl ja tb) i1).trans List.foldl_append.symm)
def Wh{k:Nat}:dj k t=(occs t).count k:=by
 induction t with
 |v n=>
  show(if n=k then 1 else 0)=List.count k [n]
  rw[List.count_singleton];by_cases e:n=k
  .rw[aI e,aI (eB.mpr e)]
  .rw[aD e,aD λq=>e (eB.mp q)]
 |c=>rfl|s1 f x ih=>exact ih|s2 f x y i1 i2=>exact(congr (aF _ i1) i2).trans List.count_append.symm
section
variable{r:List V}{x:V}{Q:K1}
def J2(hc:aB H w=F5 (.lst l)):at_ L0 H (.obj w) (λy c=>jF L0 c λy=>F6)=F6:=by
 show ob (aB H w) L0 _=F6;rw[hc];rfl
def UL(hc:aB H w=F5 (.lst l))(z:l.length+r.length<=aJ)(q:Q .none (aa H (.lst (l++r.reverse)) w)):vF W (.obj w) (.tup r) H Q:=by
 show ob (aB H w) _ _;rw[hc];exact⟨z,q⟩
def Ub{P:Bool->Prop}(hc:aB H w=F5 (.lst (x::l).reverse))(q:P F6):kJ (.obj w) H P:=BU hc (by rw[rW,List.isEmpty_reverse];exact q)
def UZ(q:Q (.obj (aH H)) (app H [.lst l.reverse])):Seq (Prim W .listRev [.lst l] H) Q:=by rw[cY,cQ] at q;exact Yu (tJ.lst .val .cell) q
end
@[reducible] def vn(x w:Nat)(A:aL):aL:=.cons (.asg x (.bm .pop (.var w) .nil)) (.cons (.ite (.op (.cmp .Eq) (.cons (.op .sub (.cons (.var x) (.cons (.const (.int 0)) .nil))) (.cons (.const (.str [118])) .nil))) A
 (.cons (.ite (.op (.cmp .Eq) (.cons (.op .sub (.cons (.var x) (.cons (.const (.int 0)) .nil))) (.cons (.const (.str [115])) .nil))) (.cons (.expr (.jD (.var w) (.op .sub (.cons (.var x) (.cons (.const (.int 2)) .nil))))) .nil) .nil) .nil)) .nil)
variable{l:List U.Tm}
section
variable{B:Nat}{σ:Type}{I:List Nat->σ->Prop}{hp:σ->List U.Tm->AH}{f:Option V->Fa}{A:aL}{Q:K2} (hset:∀{o v},dm (f o) x v=f (F5 v)) (hx:∀{o},ob (aB (f o) x) L3 id=o) (hw:∀{o},ob (aB (f o) w) L3 id=F5 (.obj d)) (hd:∀{s l},aB (hp s l) d=F5 (.lst (l.map aC).reverse)) (hs:∀{s l l'},aa (hp s l) (.lst (l'.map aC).reverse) d=hp s l') (step:∀{os s k l} {K:K2},I os s->os.length<B->(∀{s'},I (os++[k]) s'->K .aK (f (F5 (aC (.v k)))) (hp s' l))->aO W n A (f (F5 (aC (.v k)))) (hp s l) K)
include hd hs
theorem Kq{l':List U.Tm}{s:σ}{K:K1}(e:l'=ts++l)(z:l'.length<=aJ)(q:K .none (hp s l')):vF W (.obj d) (.tup (ts.map aC)) (hp s l) K:=by
 subst e;refine UL hd (by rw[lD,aQ,aQ,bW,<-a8];exact z) ?_
 rw[<-List.reverse_append,<-b8,hs];exact q
include hset hx hw
theorem xx{s:σ}{K:BT}(q:aO W n (dp 1 (vn x w A)) (f (F5 (aC t))) (hp s l) (gQ K Q)):bI W n (.var w) (f o) (hp s (t::l)) (wo (aO W n (vn x w A)) K (f o) Q):=by
 refine bJ hw (Ub (l:=l.map aC) hd (bJ hw (ae (CW hd) (BR (l:=l.map aC) hd ?_))));rw[hs];show aO W n _ (dm (f o) x (aC t)) _ _;rw[hset];exact q
include step
def Kr:∀{l:List U.Tm} {fuel:Nat} {os:List Nat} {s:σ} {o:Option V},I os s->os.length+(occs t).length<=B->l.length+t.a7<=aJ->(∀{s o},I (os++occs t) s->gZ (bI W n (.var w)) (aO W n (vn x w A)) fuel (f o) (hp s l) Q)->gZ (bI W n (.var w)) (aO W n (vn x w A)) (fuel+t.a7) (f o) (hp s (t::l)) Q:=by
 induction t with
 |v k=>exact λ{l fuel os s o} i hB z q=>l7 (k:=fuel) λK kk=>xx (hp:=hp) (s:=s) hset hx hw hd hs (bJ hx (step i hB λi=>kk (q i)))|c b z=>exact λ{l fuel os s o} i hB j q=>l7 (k:=fuel) λK kk=>xx (hp:=hp) (s:=s) hset hx hw hd hs (bJ hx (aZ (eN (t:=.c b z)) (bJ hx (aZ (fV (t:=.c b z)) (kk (q (by rw[show occs (.c b z)=[] from rfl,fj];exact i)))))))|s1 g y ih=>exact λ{l fuel os s o} i hB z q=>l7 (k:=fuel+y.a7) λK kk=>xx (hp:=hp) (s:=s) hset hx hw hd hs (bJ hx (bJ hx (bJ hw (ae (J2 hd) (bJ hx (Kq (hp:=hp) (s:=s) hd hs (ts:=[y]) (l:=l) (l':=y::l) rfl (aA (dC (cP (ba _)) _) z) (kk (ih i hB (aA (cJ _) z) q))))))))|s2 g y y2 i1 i2=>
  intro l fuel os s o i hB z q;have e:fuel+(y.a7+y2.a7+1)=fuel+y2.a7+y.a7+1:=by rw[bW y.a7,<-bT,<-bT]
  have hB:os.length+(occs y++occs y2).length<=B:=hB;rw[a8,<-bT] at hB;have z1:l.length+1+y.a7<=aJ:=aA (by rw[bT,bW 1,<-bT,<-bT];exact cP (bT ..▸aW _ _)) (show l.length+(y.a7+y2.a7+1)<=aJ from z)
  show gZ _ _ (fuel+(y.a7+y2.a7+1)) _ _ _;rw[e];exact l7 λK kk=>xx (hp:=hp) (s:=s) hset hx hw hd hs (bJ hx (bJ hx (bJ hw (ae (J2 hd) (bJ hx (Kq (hp:=hp) (s:=s) hd hs (ts:=[y,y2]) (l:=l) (l':=y::y2::l) rfl (aA (dC y.uj _) z1) (kk (i1 (l:=y2::l) i (aA (aW _ _) hB) z1 λi=>i2 i (by rw[a8];exact hB) (aA (dC (aA (cI _ _) (cJ _)) _) z) λi=>q (by rw[dw] at i;exact i)))))))))
end
section
variable{l r:List α}{x y:α}
def gb:aB (app l (x::r)) (aH l)=F5 x:=eA (k:=0)
def qh:aa (app l (x::r)) y (aH l)=app l (y::r):=qi (k:=0)
end
def gN(f:Nat->V)(tb:List Nat):List (Atom×V):=tb.map λ(n:Nat)=>(Atom.int (n:Int),f n)
def q6{f:Nat->V}:(aR (gN f tb) (.int (n:Int))).isSome=decide (n∈tb):=by
 induction tb with
 |nil=>rfl|cons m tb ih=>
  by_cases e:m=n
  .subst e;exact(aF Option.isSome jI).trans (bE (.head _)).symm
  .refine(aF Option.isSome (gu λq=>e (mX _ _ q))).trans (ih.trans (nS.mpr ⟨.tail _,λh=>?_⟩))
   cases h with
   |head=>exact absurd rfl e|tail _ h=>exact h
def pB:List Nat->List (Atom×V):=gN λy=>.bool F6
def ME{os:List Nat}:(os.foldl ja []).length<=os.length:=by
 suffices h:∀{tb:List Nat},(os.foldl ja tb).length<=tb.length+os.length from aA h (bX (cW _))
 induction os with
 |nil=>exact au _|cons k os ih=>
  refine λ{tb}=>aA ih (aA (b5 (?_:(ja tb k).length<=tb.length+1) _) (bX ((bT ..).trans (aF _ (bW ..)))));unfold ja;split
  .exact cJ _
  .exact bX a8
section
variable(pr:a9 W){Q:K1}(ht:t.a7<aJ)
include pr ht
def aAy(q:∀{c c'},Q (.obj (aH H+1)) (app H [c,.lst (aS (bh [] t).2),c'])):Fi W (n+2) 14 [aC t] H Q:=by
 have zo:=aA (CD (t:=t)) (d9 ht);refine pr.fe PF rfl ?_;refine mw (lz rfl) ?_;refine pr.fe PG rfl ?_;refine kX (dN (lz rfl) (UZ ?_));rw[fw,fw,len_app,len_app];refine Ex.mk (v:=1+t.a7) (Kr (σ:=List Nat×Nat) (B:=t.a7) (d:=aH H+2) (I:=λos s=>s.1=os.foldl ja []) (hp:=λs l=>app H [.dict (pB s.1) s.2,.lst (aS s.1),.lst (l.map aC).reverse]) (s:=([],0)) (os:=[]) (f:=λo=>[F5 (.lst [aC t]),F5 (.obj (aH H)),F5 (.obj (aH H+1)),F5 (.obj (aH H+2)),o]) (l:=[]) (o:=L3)
  rfl rfl rfl eA qi (λ{os s k l K} i hB q=>?_) rfl (by rw[nF,cW];exact CD) (by rw[nF,cW];exact d9 ht) λ{s o} i=>BU eA ?_)
 .have hl:=bp (i▸ME) (jV hB ht);obtain⟨tb,st⟩:=s;refine H7 gb ?_;have e:(os++[k]).foldl ja []=ja tb k:=by rw[List.foldl_append,<-i];rfl
  by_cases m:k∈tb
  .exact aZ (by unfold pB;rw[q6,bE m];rfl) (q (s':=(tb,st)) (by rw[e];exact(aI m).symm))
  .refine ae (by unfold pB;rw[q6,bC m];rfl) (pK gb (by unfold pB gN;rw[aQ];exact d9 hl) ?_)
   rw[qh];refine ae (iq (eA (k:=1))) (dK (eA (k:=1)) (by unfold aS bU;rw[aQ,aQ];exact hl) ?_)
   rw[qi (k:=1),rQ (Option.not_isSome_iff_eq_none.mp (by unfold pB;rw[q6,bC m];nofun))]
   have q:=q (s':=(tb++[k],st+1)) (by rw[e];exact(aD m).symm)
   unfold pB gN aS bU at q;rw[b8,b8,b8] at q;exact q
 .have i:s.1=(occs t).foldl ja []:=i;have q:=q (c:=.dict (pB s.1) s.2) (c':=.lst (([]:List U.Tm).map aC).reverse);rw[U1,<-i] at q;exact q
end
def uQ(n:Nat):Option V:=if n=0 then L3 else F5 (.int (n:Int))
def WZ:(uQ n).getD (.int 0)=.int (n:Int):=by
 unfold uQ;split
 .rename_i e;rw[e];rfl
 .rfl
section
variable{X:Type}[DecidableEq K]{l:List (K×X)}{k j:K}{v:X}
def Ve:aR (l.map λp=>if p.1=k then(p.1,v) else p) j=if j=k then(aR l k).map λy=>v else aR l j:=by
 induction l with
 |nil=>by_cases e:j=k;exact(aI e).symm;exact(aD e).symm|cons p l ih=>
  obtain⟨i,x⟩:=p;rw[cV];by_cases e:i=k
  .subst e;rw[aI rfl];by_cases q:j=i
   .subst q;rw[jI,jI,aI rfl];rfl
   .rw[gu λe=>q e.symm,gu λe=>q e.symm,ih,aD q,aD q]
  .rw[aD (show ¬(i,x).1=k from e),gu e]
   by_cases q:i=j
   .subst q;rw[jI,jI,aD e]
   .rw[gu q,gu q,ih]
def rP:aR (bS l k v) j=if j=k then F5 v else aR l j:=by
 cases h:aR l k with
 |none=>
  rw[rQ h,show aR (l++[(k,v)]) j=(aR l j).or (aR [(k,v)] j) by unfold aR;rw[List.find?_append];cases l.find? λp=>decide (p.1=j)<;>rfl]
  by_cases e:j=k
  .rw[aI e,e,h,jI];rfl
  .rw[aD e,gu λq=>e q.symm];exact Option.or_none
 |some x=>
  have a:(l.any λp=>decide (p.1=k))=F6:=Bool.not_eq_false _▸λq=>by
   rw[show aR l k=L3 by unfold aR;rw[Dc.mpr (List.any_eq_false.mp q)];rfl] at h
   exact ai h
  exact((aF (aR · j) (aI a)).trans Ve).trans (by rw[h];rfl)
def nj:(bS l k v).length<=l.length+1:=by
 unfold bS;split
 .rw[aQ];exact cJ _
 .rw[a8];exact au _
end
variable{v:V}
section
variable{k:Int}{Q:K1}
def J3(hc:aB H a=F5 (.dict kvs st)):at_ L0 H (.obj a) (λy c=>lq .ew c)=F6:=by
 show ob (aB H a) L0 _=F6;rw[hc];rfl
def UM(hc:aB H a=F5 (.dict kvs st))(q:Q ((aR kvs (.int k)).getD v) H):i5 W .ew (.obj a) Q [.int k,v] H:=by
 show ob (aB H a) _ _;rw[hc];exact q
end
structure Ct(os:List Nat)(s:List (Atom×V)×Nat):Prop where
 at_:∀k:Nat,aR s.1 (.int (k:Int))=uQ (os.count k)
 len:s.1.length<=os.length
def Ct.put{os:List Nat}{k:Nat}(c:Ct os (kvs,st)):Ct (os++[k]) (bS kvs (.int (k:Int)) (.int (((os.count k:Nat):Int)+1)),st+1):=⟨λj=>by
 rw[rP,List.count_append];by_cases e:j=k
 .subst e;rw[aI rfl,List.count_singleton_self];rfl
 .rw[aD λ(q:Atom.int (j:Int)=.int (k:Int))=>e (mX _ _ q),List.count_singleton,aD λq=>e (eB.mp q).symm];exact c.at_ j,aA nj (aA (cP c.len) (by rw[a8];exact au _))⟩
section
variable(pr:a9 W){Q:K1}(ht:t.a7<aJ)
include pr ht
def Wg(q:∀{kvs st c},(∀k:Nat,aR kvs (.int (k:Int))=uQ (dj k t))->Q (.obj (aH H)) (app H [.dict kvs st,c])):Fi W (n+1) 16 [aC t] H Q:=by
 refine pr.fe PH rfl ?_;refine kX (dN (lz rfl) ?_);rw[fw,len_app];refine Ex.mk (v:=1+t.a7) (Kr (σ:=List (Atom×V)×Nat) (B:=t.a7) (d:=aH H+1) (I:=Ct) (hp:=λs l=>app H [.dict s.1 s.2,.lst (l.map aC).reverse]) (s:=([],0)) (os:=[]) (f:=λo=>[F5 (aC t),F5 (.obj (aH H)),F5 (.obj (aH H+1)),o]) (l:=[]) (o:=L3)
  rfl rfl rfl eA qi (λ{os s k l K} i hB q=>?_) ⟨λy=>rfl,au _⟩ (by rw[nF,cW];exact CD) (by rw[nF,cW];exact d9 ht) λ{s o} i=>BU eA (q λk=>by rw[Wh];exact i.at_ k))
 obtain⟨kvs,st⟩:=s;refine ae (J3 gb) (UM gb ?_);rw[i.at_ k,WZ];refine pK gb (aA i.len (d9 (jV hB ht))) ?_;rw[qh];exact q i.put
end
section
variable(r:Nat->Nat)
mutual
noncomputable def mv:V->V
 | .none=>.none| .bool b=>.bool b| .int i=>.int i| .str s=>.str s| .tup l=>.tup (eT l)| .lst l=>.lst (eT l)| .obj i=>.obj (r i)
noncomputable def eT:List V->List V
 | []=>[]|x::l=>mv x::eT l
end
@[reducible] def ik(l:List (K×V)):List (K×V):=l.map λp=>(p.1,mv r p.2)
def mc(c:Cell):Cell:=Cell.casesOn (motive:=λy=>Cell) c (λl=>.lst (eT r l)) (λl st=>.dict (ik r l) st) (λl st=>.aX (ik r l) st) .set (λc l=>.inst c (ik r l))
theorem pR:∀{l:List V},(eT r l).length=l.length
 | []=>rfl|_::l=>aF Nat.succ (pR (l:=l))
theorem Br:∀{l:List Atom},eT r (l.map cN)=l.map cN
 | []=>rfl| .int _::l=>aF (List.cons _) (Br (l:=l))| .str _::l=>aF (List.cons _) (Br (l:=l))
end
variable{r:Nat->Nat}{μ μ1:Mu}{p:lb×Option lb}{c:Cell}
section
variable{h:Heap}(hr:∀j,μ1.l[j]?=μ.l[r j]?)(hf:∀{a},a∈foot μ1↔a∈foot μ)
include hr hf
mutual
theorem k6:∀(v:V) {x:G7},VR μ1 h v x↔VR μ h (mv r v) x
 | .none=>.rfl| .bool _=>.rfl| .int _=>.rfl| .str _=>.rfl| .tup l=>⟨λζ=>ζ.casesOn λe nf y z q=>⟨e,λm=>nf (hf.mpr m),y,(pR r).symm▸z,(m7 l).mp q⟩,λζ=>ζ.casesOn λe nf y z q=>⟨e,λm=>nf (hf.mp m),y,pR r▸z,(m7 l).mpr q⟩⟩| .lst l=>⟨λζ=>ζ.casesOn λe nf y z q=>⟨e,λm=>nf (hf.mpr m),y,(pR r).symm▸z,(m7 l).mp q⟩,λζ=>ζ.casesOn λe nf y z q=>⟨e,λm=>nf (hf.mp m),y,pR r▸z,(m7 l).mpr q⟩⟩| .obj i=>⟨λζ=>ζ.casesOn λζ'=>ζ'.casesOn λa b=>⟨⟨hr i▸a,b⟩⟩,λζ=>ζ.casesOn λζ'=>ζ'.casesOn λa b=>⟨⟨(hr i).trans a,b⟩⟩⟩
theorem m7:∀(l:List V) {xs:List G7},aM μ1 h l xs↔aM μ h (eT r l) xs
 | []=>.rfl|x::l=>⟨λζ=>ζ.casesOn λe p q=>⟨e,(k6 x).mp p,(m7 l).mp q⟩,λζ=>ζ.casesOn λe p q=>⟨e,(k6 x).mpr p,(m7 l).mpr q⟩⟩
end
def Jl{l:List (Atom×V)}{cv:List (Atom×G7)}:PR μ1 h l cv↔PR μ h (ik r l) cv:=by
 induction l generalizing cv with
 |nil=>exact⟨λq=>by cases q;exact .nil,λq=>by cases q;exact .nil⟩|cons p l ih=>exact⟨λq=>by cases q with|cons a b=>exact .cons ((k6 hr hf _).mp a) (ih.mp b),λq=>by cases q with|cons a b=>exact .cons ((k6 hr hf _).mpr a) (ih.mpr b)⟩
def LI{l:List (List Atom×V)}{cv:List (List Atom×lb×G7)}:TR μ1 h l cv↔TR μ h (ik r l) cv:=by
 induction l generalizing cv with
 |nil=>exact⟨λq=>by cases q;exact .nil,λq=>by cases q;exact .nil⟩|cons p l ih=>
  have e:mv r (.tup (p.1.map cN))=.tup (p.1.map cN):=aF V.tup (Br r);exact⟨λq=>by cases q with|cons a k b=>exact .cons ((k6 hr hf _).mp a) (e▸(k6 hr hf _).mp k) (ih.mp b),λq=>by cases q with|cons a k b=>exact .cons ((k6 hr hf _).mpr a) ((k6 hr hf _).mpr (e.symm▸k)) (ih.mpr b)⟩
def GK{P:Params}{l:List (Nat×V)}{es:List DictEntry}:FR P μ1 h l es↔FR P μ h (ik r l) es:=by
 induction l generalizing es with
 |nil=>exact⟨λq=>by cases q;exact .nil,λq=>by cases q;exact .nil⟩|cons p l ih=>
  obtain⟨k,v⟩:=p;exact⟨λq=>by cases q with|cons o a b=>exact .cons o ((k6 hr hf _).mp a) (ih.mp b),λq=>by
   generalize e:ik r ((k,v)::l)=l' at q
   cases q with
   |nil=>cases e|cons o a b=>
    injection e with e1 e2;injection e1 with e3 e4;subst e3 e4 e2;exact .cons o ((k6 hr hf _).mpr a) (ih.mpr b)⟩
def FF:CR W μ1 h p c↔CR W μ h p (mc r c):=by
 cases c with
 |lst l=>exact⟨λζ=>ζ.casesOn λe z x q=>⟨e,(pR r).symm▸z,x,(m7 hr hf l).mp q⟩,λζ=>ζ.casesOn λe z x q=>⟨e,pR r▸z,x,(m7 hr hf l).mpr q⟩⟩|dict l st=>exact⟨λζ=>ζ.casesOn λe d q=>⟨e,d,(Jl hr hf).mp q⟩,λζ=>ζ.casesOn λe d q=>⟨e,d,(Jl hr hf).mpr q⟩⟩|aX l st=>exact⟨λζ=>ζ.casesOn λe d q=>⟨e,d,(LI hr hf).mp q⟩,λζ=>ζ.casesOn λe d q=>⟨e,d,(LI hr hf).mpr q⟩⟩|set q=>exact .rfl|inst c l=>
  have e:(ik r l).map (·.1)=l.map (·.1):=gD;exact⟨λζ=>ζ.casesOn λq hc hd i f nd=>⟨q,hc,hd,i,(GK hr hf).mp f,e.symm▸nd⟩,λζ=>ζ.casesOn λq hc hd i f nd=>⟨q,hc,hd,i,(GK hr hf).mpr f,e▸nd⟩⟩
end
section
variable(σ:List Nat)(m:Nat)
def rn(j:Nat):Nat:=(σ[j]?).getD (m+(j-σ.length))
def nr(i:Nat):Nat:=if i∈σ then σ.idxOf i else i-m+σ.length
def DP(i:Nat):Prop:=i∈σ\/m<=i
variable{σ m}
def oL(h:σ[j]?=F5 i):rn σ m j=i:=by unfold rn;rw[h];rfl
def xn:rn σ m (σ.length+j)=m+j:=by unfold rn;rw[qK (aW _ _),qP];rfl
variable(hs:∀i∈σ,i<m)
include hs
theorem KI(h:DP σ m i):rn σ m (nr σ m i)=i:=by
 unfold nr;by_cases hi:i∈σ
 .rw[aI hi];exact oL ((bu (kA.mpr hi)).trans (aF F5 (oY _)))
 .rw[aD hi,bW,xn];exact Nat.add_sub_cancel' (h.resolve_left hi)
def B8(nd:σ.Nodup):nr σ m (rn σ m j)=j/\DP σ m (rn σ m j):=by
 unfold nr;rcases Nat.lt_or_ge j σ.length with h|h
 .rw[oL (bu h),aI (jR h)];exact⟨(Dd (kA.mpr (jR h)) nd).mp ((bu (kA.mpr (jR h))).trans ((aF F5 (oY _)).trans (bu h).symm)),.inl (jR h)⟩
 .obtain⟨k,rfl⟩:=yx h;rw[xn,aD λq=>ed _ (bp (aW m k) (hs _ q)),qP,bW];exact⟨rfl,.inr (aW _ _)⟩
end
structure Bg(σ:List Nat)(H H1 H':AH):Prop where
 len:H'.length+σ.length=H.length+H1.length
 gP:∀{j:Nat} {c:Cell},H1[j]?=F5 c->H'[rn σ H.length j]?=F5 (mc (rn σ H.length) c)
 out:∀{i:Nat} {c:Cell},i∉σ->H[i]?=F5 c->H'[i]?=F5 c
def vq(σ:List Nat)(H H1:AH)(i:Nat):Cell:=if i∈σ\/H.length<=i then mc (rn σ H.length) ((H1[nr σ H.length i]?).getD (.set [])) else(H[i]?).getD (.set [])
def ql(σ:List Nat)(H H1:AH):AH:=(List.range (H.length+(H1.length-σ.length))).map (vq σ H H1)
variable{σ:List Nat}{H1:AH}
def Ed:(ql σ H H1)[i]?=if i<H.length+(H1.length-σ.length) then F5 (vq σ H H1 i) else L3:=by
 unfold ql;by_cases h:i<H.length+(H1.length-σ.length)
 .rw[gC,De h,aI h];rfl
 .rw[aD h];exact qK (by rw[aQ,kB];exact nI h)
def Mv(hs:∀i∈σ,i<H.length)(nd:σ.Nodup)(hl:σ.length<=H1.length)(h:H1[j]?=F5 c):(ql σ H H1)[rn σ H.length j]?=F5 (mc (rn σ H.length) c):=by
 obtain⟨e,i⟩:=B8 hs nd (j:=j);have hj:=(dT.mp h).1;rw[Ed,aI,vq,aI (show _\/_ from i),e,h]
 .rfl
 .rcases Nat.lt_or_ge j σ.length with q|q
  .rw[oL (bu q)];exact bw (hs _ (jR q)) (aW _ _)
  .obtain⟨k,rfl⟩:=yx q;rw[xn];exact Nat.add_lt_add_left (Nat.lt_sub_of_add_lt (bW ..▸hj)) _
def Ee(hs:∀i∈σ,i<H.length)(nd:σ.Nodup)(hl:σ.length<=H1.length):Bg σ H H1 (ql σ H H1):=⟨by
 unfold ql;rw[aQ,kB,bT,y9 hl],Mv hs nd hl,λ{i c} n h=>by
 have hi:=(dT.mp h).1;rw[Ed,aI (bw hi (aW _ _)),vq,aD λq=>q.elim n (Nat.not_le_of_lt hi),h];rfl⟩
def ji(l:List (lb×Option lb))(i:Nat):lb×Option lb:=(l[i]?).getD (0,L3)
def CF(σ:List Nat)(l:List (lb×Option lb)):List (lb×Option lb):=((List.range l.length).filter λi=>decide (i∉σ)).map (ji l)
variable{l:List (lb×Option lb)}
section
variable{new:List (lb×Option lb)}(hs:∀i∈σ,i<l.length)
theorem Al(h:l[i]?=F5 p):ji l i=p:=by unfold ji;rw[h];rfl
include hs
def zv(nd:σ.Nodup):(σ.map (ji l)++CF σ l).Perm l:=by
 have p:(σ++(List.range l.length).filter λi=>decide (i∉σ)).Perm (List.range l.length):=(List.perm_ext_iff_of_nodup (fm.mpr ⟨nd,DT _ List.nodup_range,λa ha b hb e=>(show b∉σ from dG (gX.mp hb).2) (e▸ha)⟩) List.nodup_range).mpr λa=>
  ⟨λh=>(cD.mp h).elim (λh=>oe.mpr (hs a h)) λh=>(gX.mp h).1,λh=>cD.mpr ((oT (a∈σ)).imp id λq=>gX.mpr ⟨h,bE q⟩)⟩
 have e:(List.range l.length).map (ji l)=l:=DZ λi=>by
  rw[gC];by_cases h:i<l.length
  .rw[De h,bu h];exact aF F5 (Al (bu h))
  .rw[qK (by rw[kB];exact nI h),qK (nI h)]
   rfl
 have p:=p.map (ji l);rw[e,b8] at p;exact p
def v5:(σ.map (ji l)++new)[j]?=(l++new)[rn σ l.length j]?:=by
 rcases Nat.lt_or_ge j σ.length with h|h
 .have hi:=hs _ (jR h);rw[oL (bu h),qJ (by rw[aQ];exact h),qJ hi,gC,bu h,bu hi]
  exact aF F5 (Al (bu hi))
 .obtain⟨k,rfl⟩:=yx h;rw[xn,oX (by rw[aQ];exact h),oX (aW _ _),aQ,qP,qP]
end
def wU{g:List lb}{c u new:List (lb×Option lb)}{st st':Nat->Nat}(p:(c++u).Perm l):(foot ⟨g++u.flatMap adr,c++new,st⟩).Perm (foot ⟨g,l++new,st'⟩):=by
 show((g++u.flatMap adr)++(c++new).flatMap adr).Perm (g++(l++new).flatMap adr);rw[dw,vP,vP,<-dw (u.flatMap adr)];have p:=p.flatMap_right adr;rw[vP] at p;exact((List.perm_append_comm.trans p).append_right _).append_left _
def Kl:stampOf (mc r c)=stampOf c:=by cases c<;>rfl
variable{H1':AH}
section
variable{h:Heap}(nd:σ.Nodup)(hl:H1.length=σ.length)(hc:∀{j i:Nat},σ[j]?=F5 i->∃c,H1[j]?=F5 c/\H[i]?=F5 (mc (rn σ H.length) c))
def n9(σ:List Nat)(μ:Mu):Mu:=⟨μ.g++(CF σ μ.l).flatMap adr,σ.map (ji μ.l)++[],λj=>μ.st (rn σ μ.l.length j)⟩
def n7(σ:List Nat)(μ μ1:Mu)(new:List (lb×Option lb)):Mu:=⟨μ.g,μ.l++new,λi=>if i∈σ\/μ.l.length<=i then μ1.st (nr σ μ.l.length i) else μ.st i⟩
include hc in
theorem Aa:∀i∈σ,i<H.length:=λi hi=>by
 obtain⟨j,hj⟩:=jS.mp hi;obtain⟨c,_,h⟩:=hc hj;exact(dT.mp h).1
include nd hl hc
def O4(N:aY W μ H h):aY W (n9 σ μ) H1 h:=by
 have hs:∀i∈σ,i<μ.l.length:=λi m=>N.len▸Aa hc i m;have fp:(foot (n9 σ μ)).Perm (foot ⟨μ.g,μ.l++[],μ.st⟩):=wU (zv hs nd);rw[fj] at fp;have hr:∀j,(n9 σ μ).l[j]?=μ.l[rn σ μ.l.length j]?:=λj=>(v5 hs (new:=[])).trans (by rw[fj])
 refine⟨N.base,λa m=>N.fresh a (fp.mem_iff.mp m),fp.nodup_iff.mpr N.apart,λa m=>N.alive a (fp.mem_iff.mp (iO _ m)),?_,λ{j c} e=>?_⟩
 .show(σ.map _++[]).length=_;rw[fj,aQ,hl]
 .have hj:j<σ.length:=hl▸(dT.mp e).1;obtain⟨c',e',hi⟩:=hc (bu hj);cases e.symm.trans e';rw[<-N.len] at hi;obtain⟨hp,cr,st⟩:=N.cq hi;have ej:=oL (m:=μ.l.length) (bu hj);exact⟨(hr j).trans (ej.symm▸hp),(FF hr fp.mem_iff).mpr cr,λk q=>(aF μ.st ej).trans (st k (Kl.trans q))⟩
theorem O5{s s':R5}(N:aY W μ H s.heap)(S:bR W (n9 σ μ) s H1' μ1 s'){new:List (lb×Option lb)}(en:σ.map (ji μ.l)++new=μ1.l)(hl':σ.length<=H1'.length):bR W μ s (ql σ H H1') (n7 σ μ μ1 new) s'/\(∀j,μ1.l[j]?=(n7 σ μ μ1 new).l[rn σ H.length j]?)/\∀{a},a∈foot μ1↔a∈foot (n7 σ μ μ1 new):=by
 have hsH:=Aa hc;have hs:∀i∈σ,i<μ.l.length:=λi m=>N.len▸hsH i m;have cp:=zv hs nd;have fp:(foot (n9 σ μ)).Perm (foot ⟨μ.g,μ.l++[],μ.st⟩):=wU cp;rw[fj] at fp;have fp':(foot μ1).Perm (foot (n7 σ μ μ1 new)):=by
  have e:foot μ1=foot ⟨μ.g++(CF σ μ.l).flatMap adr,σ.map (ji μ.l)++new,μ1.st⟩:=by unfold foot;rw[S.E.gs,en];rfl
  rw[e];exact wU cp
 have hr':∀j,μ1.l[j]?=(n7 σ μ μ1 new).l[rn σ H.length j]?:=λj=>by rw[<-en,<-N.len];exact v5 hs
 have bg:=Ee (H:=H) (H1:=H1') hsH nd hl';have gh:∀{i p},i∉σ->μ.l[i]?=F5 p->∀a∈adr p,a∈(n9 σ μ).g:=λ{i p} n hp a ha=>lE _ (mE.mpr ⟨p,dB.mpr ⟨i,gX.mpr ⟨oe.mpr (dT.mp hp).1,bE n⟩,Al hp⟩,ha⟩);have E:Ext μ s.heap (n7 σ μ μ1 new) s'.heap:=⟨qO _ _,rfl,λa ha=>(S.E.new a (fp'.mem_iff.mpr ha)).imp fp.mem_iff.mp id,λb o e n1 n2=>S.E.keep b o e (λm=>n1 (fp.mem_iff.mp m)) n2,λb o e=>((S.E.live b o e).casesOn λζ'=>ζ'.casesOn λx y=>⟨⟨x,λm=>y (fp.mem_iff.mpr m)⟩⟩),λi p hp=>by
   by_cases hi:i∈σ
   .have ej:=KI hs (m:=μ.l.length) (.inl hi)
    have:=S.E.fU (nr σ μ.l.length i) p ((v5 hs (new:=[])).trans (by rw[fj,ej];exact hp))
    rw[show(n9 σ μ).st (nr σ μ.l.length i)=μ.st i from aF μ.st ej] at this
    rw[show(n7 σ μ μ1 new).st i=μ1.st (nr σ μ.l.length i) from aI (.inl hi)]
    exact this
   .rw[show(n7 σ μ μ1 new).st i=μ.st i from aD λq=>q.elim hi (Nat.not_le_of_lt (dT.mp hp).1)]
    exact⟨au _,λu o e=>S.E.gk _ (gh hi hp _ (.head _)) o e⟩,λa m o e=>S.E.gk a (iO _ m) o e⟩
 refine⟨⟨S.g,S.o,E,S.N.base,λa m=>S.N.fresh a (fp'.mem_iff.mpr m),fp'.nodup_iff.mp S.N.apart,λa m=>S.N.jE a (S.E.gs▸iO _ m),?_,λ{i c} e=>?_⟩,hr',fp'.mem_iff⟩
 .have h1:=bg.len;have h2:=S.N.len;rw[<-en,a8,aQ] at h2;show(μ.l++new).length=_;rw[a8,N.len];exact Ds (m:=σ.length) (by rw[h1,<-h2,bT,bW new.length])
 .by_cases hi:i∈σ\/H.length<=i
  .have ej:=KI hsH (m:=H.length) hi;have hlt:nr σ H.length i<H1'.length:=by
    have h3:=(dT.mp e).1;have h4:=bg.len;unfold nr;split
    .rename_i q;exact bw (kA.mpr q) hl'
    .rename_i q;have:=hi.resolve_left q;exact Nat.lt_of_add_lt_add_left (n:=H.length) (by rw[<-bT,Nat.add_sub_cancel' this,<-h4];exact Nat.add_lt_add_right h3 _)
   have h5:=bu hlt;have h6:=bg.gP h5;rw[ej,e] at h6;cases h6;obtain⟨hp,cr,st⟩:=S.N.cq h5;refine⟨ej▸(hr' _).symm.trans hp,(FF hr' fp'.mem_iff).mp cr,λk q=>?_⟩;rw[<-N.len] at hi;exact(aI hi).trans (N.len.symm▸st k (Kl.symm.trans q))
  .have hm:i<H.length:=Dw λq=>hi (.inr q);have e':=bg.out (λq=>hi (.inl q)) (bu hm);cases e.symm.trans e';exact(N.cq (bu hm)).kp (E.kp .none) (λp hp a ha o q=>S.E.gk a (gh (λz=>hi (.inl z)) hp a ha) o q) (aD (N.len.symm▸hi))
def frame{f:Nat}{Q:K1}(q:Fi W n f vs H1 λv H1'=>∀{H'},Bg σ H H1' H'->Q (mv (rn σ H.length) v) H'):Fi W n f (eT (rn σ H.length) vs) H Q:=by
 rw[rC] at q ⊢;intro a ha A s μ cvs R ok hv k;have hsH:=Aa hc;have hs:∀i∈σ,i<μ.l.length:=λi m=>ok.N.len▸hsH i m;have fp:(foot (n9 σ μ)).Perm (foot ⟨μ.g,μ.l++[],μ.st⟩):=wU (zv hs nd);rw[fj] at fp;refine q ha ⟨ok.wk,ok.rm,O4 nd hl hc ok.N⟩ ((m7 (λj=>(v5 hs (new:=[])).trans (by rw[fj,ok.N.len])) fp.mem_iff _).mpr hv) λ{v H1'} qv {cv s' μ1} S hvr=>?_
 obtain⟨new,en⟩:=S.E.pre;have en:σ.map (ji μ.l)++new=μ1.l:=by rw[<-en];show _=(σ.map (ji μ.l)++[])++new;rw[fj]
 have hl':σ.length<=H1'.length:=by rw[<-S.N.len,<-en,a8,aQ];exact aW _ _
 obtain⟨S',hr',hf'⟩:=O5 nd hl hc ok.N S en hl';exact k (qv (Ee hsH nd hl')) S' ((k6 hr' hf' v).mp hvr)
end
structure In where
 kd:List Nat
 sl:Nat
 first:List Nat
 uns:Bool
 last:Int
 cnt:Nat
 fc:Nat
 lc:Nat
def eV(k:Nat)(i:In):List (Nat×V):=[(24535410,.int (k:Int)),(6097038948,.str i.kd),(6231453556,.int (i.sl:Int)),(1539367400308,.str i.first),(410592219326053,.bool i.uns),(6721636927027383591276,.int i.last),(1526583357044,.int (i.cnt:Int)),(433293403150942252400209515,.int (i.fc:Int)),(1720739053318992903368299,.int (i.lc:Int))]
def bA(A:Nat->Nat):List Nat->List (Atom×V):=gN λk=>.obj (A k+5)
structure Sv(K:List Nat)(I:Nat->In)(A:Nat->Nat)(r:AH):Prop where
 at_:∀{k},k∈K->aB r (A k)=F5 (.inst 7 (eV k (I k)))
 inj:∀{j k},j∈K->k∈K->A j=A k->j=k
 nd:K.Nodup
 lt:∀{k},k∈K->k<60
 mem:∀{k},k∈K↔(I k).cnt≠0
def WL(c:Cell):Bool:=t8 F6 c λy y=>L0
def oW(r r':AH):Prop:=∀{i x},aB r i=F5 x->WL x=F6->aB r' i=F5 x
variable{r:AH}
def oW.trans{r' r'':AH}(a:oW r r')(b:oW r' r''):oW r r'':=λh n=>b (a h n) n
def up(f:Nat->α)(k:Nat)(x:α):Nat->α:=λj=>if j=k then x else f j
section
variable{f:Nat->α}{k:Nat}{x:α}
def up_eq:up f k x k=x:=aI rfl
def jt(h:j≠k):up f k x j=f j:=aD h
end
variable{K:List Nat}{I:Nat->In}{A:Nat->Nat}{x:In}
section
variable{k:Nat}(s:Sv K I A r)
theorem nU(h:k∈K):aR (bA A K) (.int (k:Int))=F5 (.obj (A k+5)):=by
 induction K with
 |nil=>cases h|cons m l ih=>
  by_cases e:m=k
  .subst e;exact jI
  .exact(gu λq=>e (mX _ _ q)).trans (ih ((bD.mp h).resolve_left λq=>e q.symm))
theorem OC(h:k∉K):bS (bA A K) (.int (k:Int)) (.obj (a+5))=bA (up A k a) (K++[k]):=by
 unfold bA;rw[rQ (Option.not_isSome_iff_eq_none.mp (by rw[q6,bC h];nofun))]
 unfold gN;rw[b8];exact congr (aF _ (ix λj m=>aF (λn=>(Atom.int (j:Int),V.obj (n+5))) (jt λe:j=k=>h (e▸m)).symm)) (aF (λn=>[(Atom.int (k:Int),V.obj (n+5))]) up_eq.symm)
include s
def Sv.len:K.length<=60:=by
 have:=mi (r:=List.range 60) s.nd λx hx=>oe.mpr (s.lt hx)
 rw[kB] at this;exact this
def Sv.set(hk:k∈K)(hc:x.cnt≠0):Sv K (up I k x) A (aa r (.inst 7 (eV k x)) (A k)) where
 at_:=λ{j} hj=>by
  by_cases e:j=k
  .subst e;rw[up_eq];exact cZ (s.at_ hj)
  .rw[jt e];exact eX (s.at_ hj) λq=>e (s.inj hj hk q.symm)
 inj:=s.inj
 nd:=s.nd
 lt:=s.lt
 mem:=λ{j}=>by
  by_cases e:j=k
  .subst e;rw[up_eq];exact⟨λy=>hc,λy=>hk⟩
  .rw[jt e];exact s.mem
omit s in
theorem UA{fl:List (Nat×V)}(h:aB r i=F5 (.inst 7 fl)):oW r (aa r c i):=λ{j x} hx n=>eX hx λe=>by
 subst e;rw[h] at hx;cases hx;cases n
def Sv.new(hk:k∉K)(h60:k<60)(hc:x.cnt≠0):Sv (K++[k]) (up I k x) (up A k (aH r)) (app r [.inst 7 (eV k x)]) where
 at_:=λ{j} hj=>by
  by_cases e:j=k
  .subst e;rw[up_eq,up_eq];exact bj
  .rw[jt e,jt e];exact e7 (s.at_ ((cD.mp hj).resolve_right λq=>e (bB.mp q)))
 inj:=λ{i j} hi hj=>by
  have lt:∀{i},i∈K->A i≠aH r:=λm q=>by
   exact ed _ (bw (fO (s.at_ m)) (by rw[q,cY];exact au _))
  by_cases e:i=k
  .by_cases e':j=k
   .exact λy=>e.trans e'.symm
   .rw[e,up_eq,jt e'];exact λq=>absurd q.symm (lt ((cD.mp hj).resolve_right λq=>e' (bB.mp q)))
  .have hi:=(cD.mp hi).resolve_right λq=>e (bB.mp q);by_cases e':j=k
   .rw[e',up_eq,jt e];exact λq=>absurd q (lt hi)
   .rw[jt e,jt e'];exact s.inj hi ((cD.mp hj).resolve_right λq=>e' (bB.mp q))
 nd:=fm.mpr ⟨s.nd,bo.mpr ⟨dZ,dU⟩,λa ha b hb e=>hk ((bB.mp hb)▸e▸ha)⟩
 lt:=λhj=>(cD.mp hj).elim s.lt λq=>(bB.mp q)▸h60
 mem:=λ{j}=>by
  by_cases e:j=k
  .subst e;rw[up_eq];exact⟨λy=>hc,λy=>lE _ (.head _)⟩
  .rw[jt e];exact⟨λm=>s.mem.mp ((cD.mp m).resolve_right λq=>e (bB.mp q)),λm=>iO _ (s.mem.mpr m)⟩
end
section
variable{c:Nat}{fl:List (Nat×V)}
def gv{Q:K2}(hc:aB H i=F5 (.inst c fl))(h:gK c a=L0)(z:Nat.ble (aH fl) 800=F6)(q:Q .aK F (aa H (.inst c (rE fl a v)) i)):qb a (.obj i) v F H Q:=by
 show ob (aB H i) _ _;rw[hc];show Sel (gK c a) _ (Sel _ _ _);rw[h,z];exact q
def Mf(hc:aB H i=F5 (.inst c fl))(h:gK c a=L0):atC H a (.obj i)=er fl a:=by
 show ob (aB H i) _ _=_;rw[hc];show Bool.rec (motive:=λy=>Option V) _ _ (gK c a)=_;rw[h]
def UH{u:V}{e:ET}{Q:K2}(h:atC H a u=o)(q:ob o False λv=>e F H (Hj a op u v F Q)):BC a op e F Q u H:=by
 unfold BC;rw[h];exact q
end
def Fi.mono{f:Nat}{Q Q':K1}(q:Fi W n f vs H Q)(k:∀v H,Q v H->Q' v H):Fi W n f vs H Q':=by rw[rC];exact AP q k
def Ms(hi:i<H.length)(b:Bg [i] H [c] H'):H'=aa H (mc (rn [i] H.length) c) i:=DZ λj=>by
 rw[dO];by_cases e:i=j
 .subst e;rw[List.getElem?_set_self hi];exact b.gP (j:=0) rfl
 .rw[List.getElem?_set_ne e];by_cases l:j<H.length
  .rw[bu l];exact b.out (λm=>e (bB.mp m).symm) (bu l)
  .rw[qK (nI l),qK (aA (bX (Ds b.len)) (nI l))]
def GN{f:Nat}{Q:K1}(hc:aB H i=F5 (mc (rn [i] H.length) c))(q:Fi W n f vs [c] λv H1=>Ex λc'=>aw (H1=[c']) (Q (mv (rn [i] H.length) v) (aa H (mc (rn [i] H.length) c') i))):Fi W n f (eT (rn [i] H.length) vs) H Q:=
 frame (σ:=[i]) (bo.mpr ⟨dZ,dU⟩) (H1:=[c]) rfl (λ{j k} e=>by
  cases j with
  |zero=>cases e;exact⟨c,rfl,ah▸hc⟩|succ j=>cases e) (q.mono λv H1 x {H'} b=>by
  obtain⟨⟨rfl,x⟩⟩:=x;rw[Ms (fO hc) b];exact x)
@[reducible] def hD(B0 B1 B2:Cell)(kvs:List (Atom×V))(st:Nat)(r:AH):AH:=B0::B1::B2::.inst 9 [(1552335400819,.obj 4)]::.dict kvs st::r
structure Me where
 k:Nat
 first:List Nat
 goal:Int
 chunk:Nat
 c:Nat
def fM(x:In)(m:Me):In:=if x.cnt=0 then⟨Aad,0,m.first,L0,m.goal,m.c,m.chunk,m.chunk⟩ else {x with cnt:=x.cnt+m.c,last:=m.goal,lc:=m.chunk}
def stI(I:Nat->In)(m:Me):Nat->In:=up I m.k (fM (I m.k) m)
variable{m:Me}
def Vl(h:m.c≠0):(fM x m).cnt≠0:=by
 unfold fM;split
 .exact h
 .exact λe=>h (Dt e)
variable{B0 B1 B2:Cell}
section
variable(pr:a9 W){Q:K1}
theorem Ij(hk:aR kvs (.int (m.k:Int))=F5 (.obj (a+5)))(h:aB r a=F5 (.inst 7 (eV m.k x)))(q:Q .none (hD B0 B1 B2 kvs st (aa r (.inst 7 (eV m.k {x with cnt:=x.cnt+m.c,last:=m.goal,lc:=m.chunk})) a))):
  aO W n (dp 1 HF) [F5 (.obj 3),F5 (.int (m.k:Int)),x2,F5 (.int m.goal),F5 (.int (m.chunk:Int)),F5 (.int (m.c:Int)),x6] (hD B0 B1 B2 kvs st r) (gq Q):=by
 have h5:aB (hD B0 B1 B2 kvs st r) (a+5)=_:=h;refine bJ hk ?_;refine UH (Mf h5 rfl) (gv h5 rfl rfl (gv (cZ h5) rfl rfl ?_));rw[gy];refine gv (cZ h5) rfl rfl ?_;rw[gy];exact q
include pr
def aA1{k:Nat}{first:List Nat}(h:aB H i=F5 (.inst 7 []))(q:Q .none (aa H (.inst 7 (eV k ⟨Aad,0,first,L0,-1,0,0,0⟩)) i)):Fi W (n+1) 50 [.obj i,.int (k:Int),.str first] H Q:=by
 refine GN (i:=i) (c:=.inst 7 []) (vs:=[.obj 0,.int (k:Int),.str first]) h ?_
 refine pr.fe Pj rfl ?_;exact⟨rfl,q⟩
def uK(s:Sv K I A r)(h60:m.k<60)(hc:m.c≠0)
  (q:∀{K' A' r' st'},Sv K' (stI I m) A' r'->oW r r'->Q .none (hD B0 B1 B2 (bA A' K') st' r')):
  Fi W (n+2) 59 [.obj 3,.int (m.k:Int),.str m.first,.int m.goal,.int (m.chunk:Int),.int (m.c:Int)] (hD B0 B1 B2 (bA A K) st r) Q:=by
 refine pr.fe Pp rfl ?_;refine bz 1 ?_;have qc:=Vl (x:=I m.k) hc;by_cases hk:m.k∈K
 .have h:=s.at_ hk;have S:=s.set hk qc;have e:fM (I m.k) m={I m.k with cnt:=(I m.k).cnt+m.c,last:=m.goal,lc:=m.chunk}:=aD (s.mem.mp hk);have q:=q (st':=st) S (UA h);rw[e] at q;exact aZ (by unfold bA;rw[q6,bE hk];rfl) (bH (Ij (nU hk) h q))
 .have ck:(I m.k).cnt=0:=sa λe=>hk (s.mem.mpr e);have S:=s.new hk h60 qc;have e:bS (bA A K) (.int (m.k:Int)) (.obj (aH (hD B0 B1 B2 (bA A K) st r)))=bA (up A m.k (aH r)) (K++[m.k]):=OC hk;have g:aR (bA (up A m.k (aH r)) (K++[m.k])) (.int (m.k:Int))=F5 (.obj (aH r+5)):=(nU (lE _ (.head _))).trans (by rw[up_eq])
  have em:fM (I m.k) m=⟨Aad,0,m.first,L0,m.goal,m.c,m.chunk,m.chunk⟩:=aI ck
  refine ae (by unfold bA;rw[q6,bC hk];rfl) (aA1 pr (i:=aH (hD B0 B1 B2 (bA A K) st r)) bj ?_)
  rw[jO];refine⟨rfl,⟨by unfold bA gN;rw[aQ];exact aA s.len (lz rfl),?_⟩⟩
  rw[e];refine bJ g (gv (c:=7) (fl:=eV m.k ⟨Aad,0,m.first,L0,-1,0,0,0⟩) (show aB (app r _) (aH r)=_ from bj) rfl rfl (bH (Ij (r:=aa (app r [.inst 7 (eV m.k ⟨Aad,0,m.first,L0,-1,0,0,0⟩)]) (.inst 7 (eV m.k ⟨Aad,0,m.first,L0,-1,0,m.chunk,0⟩)) (aH r)) (x:=⟨Aad,0,m.first,L0,-1,0,m.chunk,0⟩) g (cZ bj) ?_)))
  rw[gy,jO];rw[em] at S;have z:=q (K':=K++[m.k]) (A':=up A m.k (aH r)) (r':=app r [.inst 7 (eV m.k ⟨Aad,0,m.first,L0,m.goal,m.c,m.chunk,m.chunk⟩)]) (st':=st+1) (by unfold stI;rw[em];exact S) λh y=>e7 h
  rw[show(0:Nat)+m.c=m.c from cW _]
  exact z
end
def Sv.app(s:Sv K I A r):Sv K I A (app r g):=⟨λh=>dP (s.at_ h),s.inj,s.nd,s.lt,s.mem⟩
def tj(pl:List Nat)(goal:Int)(chunk:Nat)(t:U.Tm):List Me:=match t with
 | .v k=>[⟨k,pl++[95,97,114,103],goal,chunk,1⟩]|t=>(bh [] t).2.map λk=>⟨k,pl++Aai,goal,chunk,dj k t⟩
def dI(pl:List Nat)(goal:Int)(chunk:Nat)(ts:List U.Tm):List Me:=ts.flatMap (tj pl goal chunk)
section
variable(pr:a9 W){chunk:Nat}{goal:Int}{pl:List Nat}
include pr
def V1{st0:Nat}{all:List V}(ct:∀k:Nat,aR kvs (.int (k:Int))=uQ (dj k t))(hpl:pl.length<=100){Q:K2}:∀{ks:List Nat} {K I A st r o},Sv K I A r->aB r d=F5 (.dict kvs st0)->aB r w=F5 (.lst all)->(∀k∈ks,k<60/\dj k t≠0)->
  (∀{K' A' r' st' o},Sv K' ((ks.map λk=>(⟨k,pl++Aai,goal,chunk,dj k t⟩:Me)).foldl stI I) A' r'->oW r r'->Q .aK [F5 (.obj 3),x1,F5 (.str pl),F5 (.int goal),F5 (.int (chunk:Int)),x5,F5 (.obj (d+5)),o] (hD B0 B1 B2 (bA A' K') st' r'))->
  fh (It .lst (.obj (w+5)) all) 7 (aO W (n+2) HG) (ks.map λ(k:Nat)=>V.int (k:Int)) [F5 (.obj 3),x1,F5 (.str pl),F5 (.int goal),F5 (.int (chunk:Int)),x5,F5 (.obj (d+5)),o] (hD B0 B1 B2 (bA A K) st r) Q:=by
 intro ks
 induction ks with
 |nil=>exact λ{K I A st r o} s hd hw y q=>⟨bV (i:=w+5) hw,q s λh y=>h⟩|cons k ks ih=>
  intro K I A st r o s hd hw hk q;obtain⟨h60,ho⟩:=hk _ (.head _);refine de (bV (i:=w+5) hw) λX kx=>?_;refine fP (mJ.str (aA (b5 hpl _) (lz rfl))) (w3 (a:=d+5) hd ((ct k).trans (aD ho)) ?_);refine uK pr (m:=⟨k,pl++Aai,goal,chunk,dj k t⟩) s h60 ho λ{K' A' r' st'} S kp=>kx ?_;exact ih S (kp hd rfl) (kp hw rfl) (λj m=>hk j (.tail _ m)) λ{K' A' r' st' o} S' kp'=>q S' (kp.trans kp')
def aAA(s:Sv K I A r)(hpl:pl.length<=100)(ht:(∀k,t.has k->k<60)/\t.a7<aJ){Q:K2}
  (q:∀{K' A' r' st' x6 x7},Sv K' ((tj pl goal chunk t).foldl stI I) A' r'->Q .aK [F5 (.obj 3),x1,F5 (.str pl),F5 (.int goal),F5 (.int (chunk:Int)),F5 (aC t),x6,x7] (hD B0 B1 B2 (bA A' K') st' r')):
  aO W (n+3) wi [F5 (.obj 3),x1,F5 (.str pl),F5 (.int goal),F5 (.int (chunk:Int)),F5 (aC t),x6,x7] (hD B0 B1 B2 (bA A K) st r) Q:=by
 have oc:∀{k},dj k t≠0↔t.has k:=⟨λh=>sa λz=>h (JN z),λh e=>by have:=pV h;rw[e] at this;exact jW _ this⟩
 have other:t.bf=L0->(∀{K' A' r' st' x6 x7},Sv K' (((bh [] t).2.map λk=>(⟨k,pl++Aai,goal,chunk,dj k t⟩:Me)).foldl stI I) A' r'->Q .aK [F5 (.obj 3),x1,F5 (.str pl),F5 (.int goal),F5 (.int (chunk:Int)),F5 (aC t),x6,x7] (hD B0 B1 B2 (bA A' K') st' r'))->aO W (n+3) wi [F5 (.obj 3),x1,F5 (.str pl),F5 (.int goal),F5 (.int (chunk:Int)),F5 (aC t),x6,x7] (hD B0 B1 B2 (bA A K) st r) Q:=λh q=>by
  refine fZ (aZ (eN.trans h) ?_);refine Wg pr ht.2 λ{kvs st0 c} ct=>?_;refine aAy pr ht.2 λ{c c'}=>?_;rw[fw];have nm:∀{k},k∈(bh [] t).2->t.has k:=λh=>(pN.mp h).resolve_left λh=>memN h;have e:aS (bh [] t).2=(bh [] t).2.map λ(k:Nat)=>V.int (k:Int):=by unfold aS bU;rw[gD];rfl
  rw[e,len_app];exact⟨bV (eA (k:=3)),V1 pr (d:=aH r) (w:=aH r+3) (st0:=st0) ct hpl s.app gb eA (λk m=>⟨ht.1 k (nm m),oc.mpr (nm m)⟩) λ{K' A' r' st' o} S kp=>q S⟩
 cases t with
 |v k=>exact fP (mJ.str (aA (b5 hpl _) (lz rfl))) (uK pr (m:=⟨k,pl++[95,97,114,103],goal,chunk,1⟩) s (ht.1 k rfl) Nat.one_ne_zero λ{K' A' r' st'} S kp=>q S)|c=>exact other rfl q|s1=>exact other rfl q|s2=>exact other rfl q
def aAB(hpl:pl.length<=100){Q:K2}:∀{ts:List U.Tm} {K I A st r x5 x6 x7},Sv K I A r->(∀t∈ts,(∀k,t.has k->k<60)/\t.a7<aJ)->
  (∀{K' A' r' st' F},Sv K' ((dI pl goal chunk ts).foldl stI I) A' r'->Q .aK F (hD B0 B1 B2 (bA A' K') st' r'))->
  dA 5 (aO W (n+3) wi) (ts.map aC) [F5 (.obj 3),x1,F5 (.str pl),F5 (.int goal),F5 (.int (chunk:Int)),x5,x6,x7] (hD B0 B1 B2 (bA A K) st r) Q:=by
 intro ts
 induction ts with
 |nil=>exact λ{K I A st r x5 x6 x7} s y q=>q s|cons t ts ih=>exact λ{K I A st r x5 x6 x7} s ht q=>fL λX kx=>aAA pr s hpl (ht _ (.head _)) λ{K' A' r' st' x6 x7} S=>kx (ih S (λt m=>ht t (.tail _ m)) λ{K' A' r' st' F} S'=>q (by unfold dI;rw[List.flatMap_cons,List.foldl_append];exact S'))
def LB(s:Sv K I A r)(hpl:pl.length<=100)(ht:∀t∈ts,(∀k,t.has k->k<60)/\t.a7<aJ){Q:K1}
  (q:∀{K' A' r' st'},Sv K' ((dI pl goal chunk ts).foldl stI I) A' r'->Q .none (hD B0 B1 B2 (bA A' K') st' r')):
  Fi W (n+4) 60 [.obj 3,.tup (ts.map aC),.str pl,.int goal,.int (chunk:Int)] (hD B0 B1 B2 (bA A K) st r) Q:=by
 refine pr.fe Pq rfl ?_;exact aAB pr hpl s ht λ{K' A' r' st' F} S=>q S
end
def kdOf(x:In):List Nat:=if x.cnt=1 then Aal else if x.fc<x.lc then Aaj else Aad
def wq(x:In):In:={x with kd:=kdOf x}
def lu(K:List Nat):List Nat:=(pf (bU K)).map Int.toNat
def xv:bU (lu K)=pf (bU K):=by
 unfold lu bU;rw[gD]
 conv=>rhs;rw[<-List.map_id (pf _)]
 refine ix λx hx=>?_;obtain⟨y,_,e⟩:=dB.mp (show x∈K.map λn:Nat=>(n:Int) from List.mem_mergeSort.mp hx)
 rw[<-e];rfl
def FZ{k:Nat}{l:List Nat}:(k:Int)∈bU l↔k∈l:=⟨λh=>let ⟨_,hy,e⟩:=dB.mp h;d6 e▸hy,λh=>dB.mpr ⟨k,h,rfl⟩⟩
def Cn{k:Nat}:k∈lu K↔k∈K:=by rw[<-FZ,xv,<-FZ (l:=K)];exact List.mem_mergeSort
def ZJ(h:K.Nodup):(lu K).Nodup:=by
 have h2:(bU (lu K)).Nodup:=by
  rw[xv];exact(List.mergeSort_perm (bU K) _).nodup_iff.mpr (List.Pairwise.map _ (λa b hab e=>hab (d6 e)) h)
 exact List.Pairwise.of_map _ (λa b hab e=>hab (by rw[e])) h2
def Kk:(lu K).length=K.length:=by
 have h1:(bU (lu K)).length=(bU K).length:=by rw[xv];exact List.length_mergeSort _
 unfold bU at h1;rw[aQ,aQ] at h1;exact h1
variable{l:List V}
section
variable{Q:K1}
def Ua{z:Int}(hc:aB H i=F5 (.lst l))(e:z=(j:Nat))(h:aB l j=F5 v)(q:Q v H):i8 W (.obj i) (.int z) H Q:=by rw[e];exact fW hc h q
def YT(hc:aB H w=F5 (.lst l)):at_ L0 H (.obj w) (λy c=>lq .insert c)=F6:=by
 show ob (aB H w) L0 _=F6;rw[hc];rfl
def UN(hc:aB H i=F5 (.lst l))(e:j<=l.length)(z:l.length<aJ)(q:Q .none (aa H (.lst (l.take j++v::l.drop j)) i)):i5 W .insert (.obj i) Q [.int (j:Nat),v] H:=by
 show ob (aB H i) _ _;rw[hc];rw[dO] at q;exact(⟨b9.insert (W:=W) (H:=H) (i:=i) (l:=l) (v:=v) (j:=j) (ah▸hc) e z,q⟩:Seq (b9 W .insert [.obj i,.int (j:Nat),v] H) Q)
def T4(pr:a9 W){k:Nat}(h:aB H i=F5 (.inst 7 (eV k x)))(q:Q (.str (kdOf x)) H):Fi W (n+1) 61 [.obj i] H Q:=by
 refine GN (i:=i) (c:=.inst 7 (eV k x)) (vs:=[.obj 0]) h ?_;have q':∀{s},kdOf x=s->Ex λc'=>aw ([Cell.inst 7 (eV k x)]=[c']) (Q (.str s) (aa H (mc (rn [i] H.length) c') i)):=λe=>⟨rfl,by rw[lr (x:=mc _ (.inst 7 _)) h,<-e];exact q⟩
 unfold kdOf at q';refine pr.fe Pt rfl ?_;by_cases h1:x.cnt=1
 .rw[aI h1] at q';exact ae (bE (aF Nat.cast h1)) (q' rfl)
 .rw[aD h1] at q';refine aZ (bC λe=>h1 (d6 e)) ?_;by_cases h2:x.fc<x.lc
  .rw[aI h2] at q';exact ae (bE (gV.mpr h2)) (q' rfl)
  .rw[aD h2] at q';exact aZ (bC λe=>h2 (gV.mp e)) (q' rfl)
end
section
variable(pr:a9 W){J:Nat->In}
theorem Hu{a b:Nat->In}(h:∀k,J k=if k∈K/\k∉([]:List Nat) then a k else b k):J=λk=>if k∈K then a k else b k:=funext λk=>by
 rw[h k];by_cases m:k∈K
 .rw[aI ⟨m,dZ⟩,aI m]
 .rw[aD λz=>m z.1,aD m]
theorem Ay:It (.dict st) (.obj 4) (K.map λ(k:Nat)=>V.int (k:Int)) (hD B0 B1 B2 (bA A K) st r):=by
 have:It (.dict st) (.obj 4) ((bA A K).map λp=>cN p.1) (hD B0 B1 B2 (bA A K) st r):=.dict rfl
 unfold bA gN at this;rw[gD] at this;exact this
include pr
def T6{f:Option V->Fa}(hset:∀{o v},dm (f o) 9 v=f (F5 v))(h9:∀{o},ob (aB (f o) 9) L3 id=o)(h8:∀{o},ob (aB (f o) 8) L3 id=F5 (.obj 4)){Q:K2}:∀{ks:List Nat} {J:Nat->In} {r:AH} {o:Option V},ks.Nodup->(∀k∈ks,k∈K)->Sv K J A r->(∀k,J k=if k∈K/\k∉ks then wq (I k) else I k)->(∀{r' o},Sv K (λk=>if k∈K then wq (I k) else I k) A r'->Q .aK (f o) (hD B0 B1 B2 (bA A K) st r'))->
  fh (It (.dict st) (.obj 4) (K.map λ(k:Nat)=>V.int (k:Int))) 9 (aO W (n+1) HK) (ks.map λ(k:Nat)=>V.int (k:Int)) (f o) (hD B0 B1 B2 (bA A K) st r) Q:=by
 intro ks
 induction ks with
 |nil=>exact λ{J r o} u u s h q=>⟨Ay,q (by rw[Hu h] at s;exact s)⟩|cons k ks ih=>
  intro J r o nd hk s h q;obtain⟨n1,n2⟩:=bo.mp nd;have kK:=hk k (.head _);have hi:=s.at_ kK;have eJ:J k=I k:=(h k).trans (aD λz=>z.2 (.head _));refine de Ay λX kx=>?_;rw[hset];refine bJ h8 (bJ h9 (bJ (nU kK) (T4 pr (i:=A k+5) hi (bJ h8 (bJ h9 (bJ (nU kK) (gv (i:=A k+5) hi rfl rfl ?_)))))));have S:=s.set kK (x:=wq (J k)) (s.mem.mp kK);refine kx (ih n2 (λj m=>hk j (.tail _ m)) S (λj=>?_) q);by_cases e:j=k
  .rw[e,up_eq,aI ⟨kK,n1⟩,eJ]
  .rw[jt e,h j];by_cases m:j∈K/\j∉ks
   .rw[aI m,aI ⟨m.1,λz=>(bD.mp z).elim e m.2⟩]
   .rw[aD m,aD λz=>m ⟨z.1,λy=>z.2 (.tail _ y)⟩]
end
variable{ks:List Nat}
def nW:aS ks=ks.map λ(k:Nat)=>V.int (k:Int):=by unfold aS bU;rw[gD];rfl
variable{l:List Nat}
def fJ:(aS l).length=l.length:=by rw[nW,aQ]
def kS{k:Nat}(h:l[i]?=F5 k):aB (aS l) i=F5 (.int (k:Int)):=by rw[nW,ah,gC,h];rfl
def AI{k:Nat}:aS l++[V.int (k:Int)]=aS (l++[k]):=by rw[nW,nW,b8];rfl
variable{x y:Cell}
def Ql:aa (hD B0 B1 B2 kvs st (app r [x])) y (aH r+5)=hD B0 B1 B2 kvs st (app r [y]):=aF (hD B0 B1 B2 kvs st) jO
def iI(Lf:Nat->Int)(acc:List Nat)(k:Nat):Nat->Nat
 |0=>0|n+1=>if Lf ((acc[n]?).getD 0)<Lf k then iI Lf acc k n else n+1
variable{acc:List Nat}
def ptO_s{Lf:Nat->Int}{k:Nat}:iI Lf acc k (n+1)=if Lf ((acc[n]?).getD 0)<Lf k then iI Lf acc k n else n+1:=rfl
def iE(Lf:Nat->Int)(acc:List Nat)(k:Nat):List Nat:=acc.take (iI Lf acc k acc.length)++k::acc.drop (iI Lf acc k acc.length)
def Xs{Lf:Nat->Int}{k:Nat}:∀{n:Nat},iI Lf acc k n<=n:=λ{n}=>by
 induction n with
 |zero=>exact au _|succ n ih=>
  rw[ptO_s];split
  .exact fE ih
  .exact au _
def Gw{Lf:Nat->Int}{k:Nat}:(iE Lf acc k).length=acc.length+1:=by
 unfold iE;rw[a8,dY,<-bT,<-a8,List.take_append_drop]
def Aq{Lf:Nat->Int}{k:Nat}:j∈iE Lf acc k↔j=k\/j∈acc:=by
 unfold iE;rw[cD,bD,or_left_comm,<-cD,List.take_append_drop]
section
variable(pr:a9 W)
def wd(I:Nat->In)(k:Nat):Bool:=eD (I k).kd Aaj
variable(s:Sv K I A r)
include s
theorem Xv{k:Nat}(hk:k∈K)(ha:∀j∈acc,j∈K){Q:K2}(q:Q .aK [F5 (.obj 4),F5 (.obj (aH r+5)),F5 (.int (k:Nat)),F5 (.obj (A k+5)),F5 (.int (iI (λk=>(I k).last) acc k acc.length:Nat))] (hD B0 B1 B2 (bA A K) st (app r [.lst (aS acc)]))):∀{m},m<=acc.length->iI (λk=>(I k).last) acc k m=iI (λk=>(I k).last) acc k acc.length->gZ (bI W n Hb) (aO W n HH) (m+1) [F5 (.obj 4),F5 (.obj (aH r+5)),F5 (.int (k:Nat)),F5 (.obj (A k+5)),F5 (.int (m:Nat))] (hD B0 B1 B2 (bA A K) st (app r [.lst (aS acc)])) Q:=λ{m}=>by
 have hi:aB (hD B0 B1 B2 (bA A K) st (app r [.lst (aS acc)])) (A k+5)=_:=dP (s.at_ hk);have hl:aB (hD B0 B1 B2 (bA A K) st (app r [.lst (aS acc)])) (aH r+5)=F5 (.lst (aS acc)):=bj
 induction m with
 |zero=>
  intro _ e;rw[<-e] at q;exact q
 |succ m ih=>
  intro h e;have hm:=bu h;have x1:=ha _ (jR h);have hj:aB (hD B0 B1 B2 (bA A K) st (app r [.lst (aS acc)])) (A acc[m]+5)=_:=dP (s.at_ x1);have e:(if (I ((acc[m]?).getD 0)).last<(I k).last then iI (λk=>(I k).last) acc k m else m+1)=iI (λk=>(I k).last) acc k acc.length:=e
  rw[hm] at e;refine l7 λX kx=>ae (rG.trans (bE (Nat.succ_ne_zero m))) (Ua hl (DS (m:Int) 1) (kS hm) (bJ (nU x1) (iX hj rfl rfl (iX hi rfl rfl ?_))));by_cases c:(I acc[m]).last<(I k).last
  .rw[aI (show(I ((F5 acc[m]).getD 0)).last<(I k).last from c)] at e
   refine ae (bE c) ?_;have z:=kx (ih (gE h) e);rw[<-show((m+1:Nat):Int)-1=(m:Nat) from DS (m:Int) 1] at z
   exact z
  .rw[aD (show ¬(I ((F5 acc[m]).getD 0)).last<(I k).last from c)] at e
   rw[<-e] at q;exact aZ (bC c) q
theorem W3{Q:K2}:∀{ks acc:List Nat} {x2 x3 x4:Option V},(∀k∈ks,k∈K)->(∀k∈acc,k∈K)->acc.length+ks.length<=60->(∀{x2 x3 x4},Q .aK [F5 (.obj 4),F5 (.obj (aH r+5)),x2,x3,x4] (hD B0 B1 B2 (bA A K) st (app r [.lst (aS ((ks.filter (wd I)).foldl (iE λk=>(I k).last) acc))])))->
  dA 2 (aO W n HJ) (ks.map λ(k:Nat)=>V.int (k:Int)) [F5 (.obj 4),F5 (.obj (aH r+5)),x2,x3,x4] (hD B0 B1 B2 (bA A K) st (app r [.lst (aS acc)])) Q:=by
 intro ks
 induction ks with
 |nil=>exact λ{acc x2 x3 x4} y y y q=>q|cons k ks ih=>
  intro acc x2 x3 x4 hk ha hz q;have kK:=hk k (.head _);have hi:aB (hD B0 B1 B2 (bA A K) st (app r [.lst (aS acc)])) (A k+5)=_:=dP (s.at_ kK);have hl:aB (hD B0 B1 B2 (bA A K) st (app r [.lst (aS acc)])) (aH r+5)=F5 (.lst (aS acc)):=bj;have hz2:acc.length+1+ks.length<=60:=by rw[bT,bW 1];exact hz
  refine fL λX kx=>bJ (nU kK) (iX hi rfl rfl ?_)
  cases hpk:wd I k with
  |false=>
   rw[List.filter_cons_of_neg (by rw[hpk];exact az)] at q
   exact aZ hpk (kx (ih (λj m=>hk j (.tail _ m)) ha (aA (dC (cJ _) _) hz) q))
  |true=>
   rw[List.filter_cons_of_pos hpk] at q;refine ae hpk (jJ hl ?_);rw[fJ];refine Ex.mk (v:=acc.length+1) (Xv s kK ha ?_ (au _) rfl);refine ae (YT hl) (UN hl (by rw[fJ];exact Xs) (by rw[fJ];exact bp (aA (aW _ _) (aA (aW _ _) hz2)) (lz rfl)) ?_)
   rw[Ql,show(aS acc).take (iI (λk=>(I k).last) acc k acc.length)++V.int (k:Nat)::(aS acc).drop (iI (λk=>(I k).last) acc k acc.length)=aS (iE (λk=>(I k).last) acc k) by rw[nW,nW];unfold iE;rw[b8,cV,List.map_take,List.map_drop]]
   exact kx (ih (λj m=>hk j (.tail _ m)) (λj m=>(Aq.mp m).elim (λe=>e▸kK) (ha j)) (by rw[Gw];exact hz2) q)
def xZ(I:Nat->In)(K:List Nat):List Nat:=((lu K).filter (wd I)).foldl (iE λk=>(I k).last) []
include pr
def W4{Q:K1}(q:Q (.obj (aH r+5)) (hD B0 B1 B2 (bA A K) st (app r [.lst (aS (xZ I K))]))):Fi W (n+1) 62 [.obj 4] (hD B0 B1 B2 (bA A K) st r) Q:=by
 refine pr.fe Pu rfl ?_;refine dN (lz rfl) (gx (L7.dict (i:=4) (kvs:=bA A K) (ns:=bU K) rfl (by unfold bA gN bU;rw[gD,gD];rfl) (by unfold bA gN;rw[aQ];exact bp s.len (lz rfl)) .val) ?_)
 rw[<-xv,show(bU (lu K)).map V.int=(lu K).map λ(k:Nat)=>V.int (k:Int) from nW]
 exact W3 s (acc:=[]) (λk m=>Cn.mp m) (λy m=>memN m) (by rw[Kk,nF,cW];exact s.len) λ{x2 x3 x4}=>q
end
def Gj{k:Nat}(nd:l.Nodup)(h:l[i]?=F5 k):l.idxOf k=i:=by
 have m:=kA.mpr (d8 h);exact(Dd m nd).mp ((bu m).trans ((aF F5 (oY _)).trans h.symm))
def jq(ord:List Nat)(k:Nat)(x:In):In:={x with sl:=ord.idxOf k+1,uns:=eD x.first Aag}
def e6(Lf:Nat->Int)(g:Int):List Nat->Nat
 | []=>0|k::ks=>if g<Lf k then e6 Lf g ks+1 else 0
def lvC_c{Lf:Nat->Int}{g:Int}{k:Nat}:e6 Lf g (k::l)=if g<Lf k then e6 Lf g l+1 else 0:=rfl
variable{ord:List Nat}{x3 x9 x12 x13 x11:Option V}
section
variable(pr:a9 W)
theorem ZH(nd:ord.Nodup)(hK:∀k∈ord,k∈K){rl:Nat}{Q:K2}:∀{ks:List Nat} {at_:Nat} {J:Nat->In} {r:AH} {x5 x11:Option V},ord.drop at_=ks->aH r=rl->Sv K J A r->(∀k,J k=if k∈ord/\k∉ks then jq ord k (I k) else I k)->
  (∀{r x5 x11},aH r=rl->Sv K (λk=>if k∈ord then jq ord k (I k) else I k) A r->Q .aK [x0,x1,x2,x3,x4,x5,x6,x7,F5 (.obj 4),x9,F5 (.obj (rl+5)),x11,x12,x13] (hD B0 B1 B2 (bA A K) st (app r [.lst (aS ord)])))->
  dA 5 (aO W n HL) ((List.range' at_ ks.length).map λi:Nat=>V.int (i:Int)) [x0,x1,x2,x3,x4,x5,x6,x7,F5 (.obj 4),x9,F5 (.obj (rl+5)),x11,x12,x13] (hD B0 B1 B2 (bA A K) st (app r [.lst (aS ord)])) Q:=by
 intro ks
 induction ks with
 |nil=>exact λ{at_ J r x5 x11} o hl s h q=>q hl (by rw[<-show J=λk=>if k∈ord then jq ord k (I k) else I k from Hu (a:=λk=>jq ord k (I k)) h];exact s)|cons k ks ih=>
  intro at_ J r x5 x11 hd hl s h q;subst hl;obtain⟨d1,d2⟩:=te hd;rw[ah] at d1;have kK:=hK k (d8 d1);have hi:=s.at_ kK;have hi':aB (hD B0 B1 B2 (bA A K) st (app r [.lst (aS ord)])) (A k+5)=_:=dP hi;have eJ:J k=I k:=(h k).trans (aD λz=>z.2 (.head _));have ei:ord.idxOf k=at_:=Gj nd d1;refine fL λX kx=>fW (i:=aH r+5) bj (kS d1) (bJ (nU kK) (gv hi' rfl rfl (iX (cZ hi') rfl rfl (gv (cZ hi') rfl rfl ?_))));rw[gy];have S:=s.set kK (x:=jq ord k (J k)) (s.mem.mp kK);have e:aa (hD B0 B1 B2 (bA A K) st (app r [.lst (aS ord)])) (.inst 7 (eV k (jq ord k (J k)))) (A k+5)=hD B0 B1 B2 (bA A K) st (app (aa r (.inst 7 (eV k (jq ord k (J k)))) (A k)) [.lst (aS ord)]):=aF (hD B0 B1 B2 (bA A K) st) (MU (fO hi));rw[show eV k (jq ord k (J k))=eV k {J k with sl:=at_+1,uns:=eD (J k).first Aag} by unfold jq;rw[ei]] at e
  refine(show ∀H,H=_->X _ H Q from λH e=>e▸kx (ih d2 Uu S (λj=>?_) q)) _ (e.trans (by rw[show eV k (jq ord k (J k))=eV k {J k with sl:=at_+1,uns:=eD (J k).first Aag} by unfold jq;rw[ei]]))
  have nk:k∉ks:=λm=>by
   obtain⟨i,hi⟩:=jS.mp m;rw[<-d2,List.getElem?_drop] at hi;exact absurd ((Gj nd hi).symm.trans ei) (fq (bw (dy _) (aW _ _)))
  by_cases ej:j=k
  .rw[ej,up_eq,aI ⟨d8 d1,nk⟩,eJ]
  .rw[jt ej,h j];by_cases m:j∈ord/\j∉ks
   .rw[aI m,aI ⟨m.1,λz=>(bD.mp z).elim ej m.2⟩]
   .rw[aD m,aD λz=>m ⟨z.1,λy=>z.2 (.tail _ y)⟩]
variable(s:Sv K I A r)(hp:∀k∈ord,k∈K){lv:Cell}
include s hp
theorem U5{g:Nat}{Q:K2}:∀{m l:Nat},l+m=ord.length->(Q .aK [x0,x1,x2,x3,x4,F5 (.int (g:Nat)),x6,x7,F5 (.obj 4),x9,F5 (.obj (aH r+5)),x11,x12,F5 (.int (l+e6 (λk=>(I k).last) g (ord.drop l):Nat))] (hD B0 B1 B2 (bA A K) st (app r [.lst (aS ord),lv])))->
  gZ (bI W n Hc) (aO W n HM) (m+1) [x0,x1,x2,x3,x4,F5 (.int (g:Nat)),x6,x7,F5 (.obj 4),x9,F5 (.obj (aH r+5)),x11,x12,F5 (.int (l:Nat))] (hD B0 B1 B2 (bA A K) st (app r [.lst (aS ord),lv])) Q:=by
 intro m
 induction m with
 |zero=>
  intro l e q;have e:l=ord.length:=e;rw[DX (bX e.symm)] at q;exact jJ (i:=aH r+5) gb (aZ (Bc.trans (bC (by rw[fJ,<-e];exact ed _))) q)
 |succ m ih=>
  intro l e q;have hl:l<ord.length:=e▸tC (om m);have xm:=hp _ (jR hl);have hj:aB (hD B0 B1 B2 (bA A K) st (app r [.lst (aS ord),lv])) (A ord[l]+5)=_:=dP (s.at_ xm);rw[List.drop_eq_getElem_cons hl] at q;have q:Q .aK [x0,x1,x2,x3,x4,F5 (.int (g:Nat)),x6,x7,F5 (.obj 4),x9,F5 (.obj (aH r+5)),x11,x12,F5 (.int (l+(if (g:Int)<(I ord[l]).last then e6 (λk=>(I k).last) g (ord.drop (l+1))+1 else 0):Nat))] (hD B0 B1 B2 (bA A K) st (app r [.lst (aS ord),lv])):=q
  refine l7 λX kx=>jJ (i:=aH r+5) gb (ae (Bc.trans (bE (by rw[fJ];exact hl))) (fW (i:=aH r+5) gb (kS (bu hl)) (bJ (nU xm) (iX hj rfl rfl ?_))))
  by_cases c:(g:Int)<(I ord[l]).last
  .rw[aI c] at q;exact ae (bE c) (kx (ih (l:=l+1) (by rw[<-e,bT,bW 1]) (by rw[bT,bW 1];exact q)))
  .rw[aD c] at q;exact aZ (bC c) q
end
def cF:List Gl->Nat->List Nat
 | [],_=>[]|g::gs,c=>c::cF gs (if U.isCall g=F6 then c+1 else c)
def wW:Gl->Int
 | .ao k=>k| .mk k=>k| .ct k=>k|_=>-1
def dJ:Gl->List U.Tm
 | .call _ as=>as| .bi _ as=>as|_=>[]
def ti(i:Int)(chunk:Nat):Gl->List Me
 | .ao k=>[⟨k,Aaf,i,chunk,1⟩]| .mk k=>[⟨k,Aaf,i,chunk,1⟩]| .ct k=>[⟨k,Aaf,i,chunk,1⟩]|_=>[]
def fK:List Gl->Nat->Nat->List Me
 | [],_,_=>[]|g::gs,i,c=>ti i c g++(dI Aab i c (dJ g)++fK gs (i+1) (if U.isCall g=F6 then c+1 else c))
def dR:List Gl->Bool
 | []=>L0|g::gs=>(U.isCall g&&!gs.isEmpty)||dR gs
variable{g:Gl}
section
variable(pr:a9 W)
include pr
def Qk{Q:K1}(q:Q (.tup ((dJ g).map aC)) H):Fi W (n+1) 48 [aN g] H Q:=by
 refine pr.fe Pg rfl ?_
 cases g with
 |call=>exact q|bi=>exact q|ao=>exact q|mk=>exact q|ct=>exact q|cut=>exact q
def Qj{Q:K1}(q:Q (.int (wW g)) H):Fi W (n+1) 49 [aN g] H Q:=by
 refine pr.fe Ph rfl ?_
 cases g with
 |call=>exact q|bi=>exact q|ao=>exact q|mk=>exact q|ct=>exact q|cut=>exact q
theorem NU{all:List Gl}{Q:K2}:∀{gs:List Gl} {acc:List Nat} {c:Nat} {o:Option V},acc.length+gs.length<=100->(∀{x o},Q .aK [F5 (.obj 1),F5 (.obj 2),x,o] [B0,.lst (all.map aN),.lst (aS (acc++cF gs c))])->fh (It .lst (.obj 1) (all.map aN)) 3 (aO W n A1) (gs.map aN) [F5 (.obj 1),F5 (.obj 2),F5 (.int (c:Nat)),o] [B0,.lst (all.map aN),.lst (aS acc)] Q:=by
 intro gs
 induction gs with
 |nil=>exact λ{acc c o} y q=>⟨bV rfl,by rw[show cF [] c=[] from rfl,fj] at q;exact q⟩|cons g gs ih=>
  intro acc c o z q;have z2:acc.length+1+gs.length<=100:=by rw[bT,bW 1];exact z
  rw[show acc++cF (g::gs) c=(acc++[c])++cF gs (if U.isCall g=F6 then c+1 else c) by rw[dw];rfl] at q
  have k1:=ih (acc:=acc++[c]) (c:=if U.isCall g=F6 then c+1 else c) (o:=F5 (aN g)) (by rw[a8];exact z2) q
  refine de (bV rfl) λK kk=>?_;have k2:=kk k1;rw[<-AI] at k2;have t:i5 W .append (.obj 2) (λv H=>aw True (aO W n (dp 1 A1) [F5 (.obj 1),F5 (.obj 2),F5 (.int (c:Nat)),F5 (aN g)] H (gQ K Q))) [.int (c:Nat)] [B0,.lst (all.map aN),.lst (aS acc)]:=dK (i:=2) rfl (by rw[fJ];exact bp (aA (aW _ _) z) (lz rfl)) ⟨cC,?_⟩
  .exact⟨t.1,t.2.2⟩
  .cases g with
   |call=>exact k2|bi=>exact k2|ao=>exact k2|mk=>exact k2|ct=>exact k2|cut=>exact k2
def NT{all:List Gl}{Q:K1}(z:all.length<=100)(q:Q (.obj 2) [B0,.lst (all.map aN),.lst (aS (cF all 0))]):Fi W (n+1) 57 [.obj 1] [B0,.lst (all.map aN)] Q:=by
 refine pr.fe Pn rfl ?_;exact dN (lz rfl) ⟨bV rfl,NU pr (acc:=[]) (c:=0) (by rw[nF,cW];exact z) λ{x o}=>q⟩
end
section
variable{KE GL CH:Cell}{g:AH}
def GZ:app (hD KE GL CH kvs st (app r g)) [x]=hD KE GL CH kvs st (app r (g++[x])):=aF (hD KE GL CH kvs st) fw
def Ga:aH (hD KE GL CH kvs st (app r g))=aH r+(aH g+5):=(aF (·+5) len_app).trans (bT ..)
def Qm{k:Nat}:aa (hD KE GL CH kvs st (app r g)) x (aH r+(k+5))=hD KE GL CH kvs st (app r (aa g x k)):=aF (hD KE GL CH kvs st) qi
end
def u6:In:=⟨[],0,[],L0,-1,0,0,0⟩
def Zf:Sv [] (λy=>u6) A r:=⟨λh=>memN h,λh=>memN h,dU,λh=>memN h,⟨λh=>memN h,λh=>absurd rfl h⟩⟩
def xg(ne:Bool)(es lv:Nat):List (Nat×V):=[(1552335400819,.obj 4),(390775274630003,.obj 2),(6758814687394858888822,.bool ne),(25755653471308708453,.int (es:Nat)),(1720886839222231419348338,.obj lv)]
def vH(g:Gl):Prop:=(∀k,cT k g->k<60)/\∀t∈dJ g,t.a7<aJ
def Ad{k:Nat}(m:t∈dJ g)(h:t.has k):cT k g:=by
 cases g with
 |call=>exact⟨t,m,h⟩|bi=>exact⟨t,m,h⟩|ao=>exact memN m|mk=>exact memN m|ct=>exact memN m|cut=>exact memN m
variable{lv es:Nat}{ne:Bool}
section
variable(pr:a9 W)
include pr
def ZA{Q:K1}(q:Q .none (hD B0 B1 B2 [] 0 [])):Fi W (n+1) 58 [.obj 3] [B0,B1,B2,.inst 9 []] Q:=by
 refine pr.fe Po rfl ?_;exact kX q
def XJ{Q:K1}(h:aB H i=F5 (.inst 8 []))(q:Q .none (aa H (.inst 8 (xg ne es lv)) i)):Fi W (n+1) 51 [.obj i,.obj 4,.obj 2,.bool ne,.int (es:Nat),.obj lv] H Q:=by
 refine pr.fe Pm rfl ?_;refine gv h rfl rfl (gv (cZ h) rfl rfl (gv (cZ (cZ h)) rfl rfl (gv (cZ (cZ (cZ h))) rfl rfl (gv (cZ (cZ (cZ (cZ h)))) rfl rfl ?_))));rw[gy,gy,gy,gy];exact q
def Qb{all:List Gl}{KE:Cell}{Q:K2}:∀{gs:List Gl} {i c:Nat} {K:List Nat} {I:Nat->In} {A:Nat->Nat} {st:Nat} {r:AH} {ne:Bool} {o x6 x7:Option V},all.drop i=gs->(cF all 0).drop i=cF gs c->Sv K I A r->(∀g∈gs,vH g)->
  (∀{K' A' r' st' o x6 x7},Sv K' ((fK gs i c).foldl stI I) A' r'->Q .aK [F5 (.obj 0),F5 (.obj 1),F5 (.obj 2),F5 (.obj 3),F5 (.bool (ne||dR gs)),o,x6,x7,L3,L3,L3,L3,L3,L3] (hD KE (.lst (all.map aN)) (.lst (aS (cF all 0))) (bA A' K') st' r'))->
  dA 5 (aO W (n+5) A2) ((List.range' i gs.length).map λi:Nat=>V.int (i:Int)) [F5 (.obj 0),F5 (.obj 1),F5 (.obj 2),F5 (.obj 3),F5 (.bool ne),o,x6,x7,L3,L3,L3,L3,L3,L3] (hD KE (.lst (all.map aN)) (.lst (aS (cF all 0))) (bA A K) st r) Q:=by
 intro gs
 induction gs with
 |nil=>exact λ{i c K I A st r ne o x6 x7} y y s y q=>by rw[show dR []=L0 from rfl,Bool.or_false] at q;exact q s|cons g gs ih=>
  intro i c K I A st r ne o x6 x7 hd hc s hg q;obtain⟨d1,d2⟩:=te hd;obtain⟨c1,c2⟩:=te (show(cF all 0).drop i=c::cF gs (if U.isCall g=F6 then c+1 else c) from hc)
  have gg:=hg g (.head _);refine fL λX kx=>?_;have fin:∀{K A r st x7},Sv K ((ti i c g).foldl stI I) A r->aO W (n+5) (dp 3 A2) [F5 (.obj 0),F5 (.obj 1),F5 (.obj 2),F5 (.obj 3),F5 (.bool ne),F5 (.int (i:Nat)),F5 (aN g),x7,L3,L3,L3,L3,L3,L3] (hD KE (.lst (all.map aN)) (.lst (aS (cF all 0))) (bA A K) st r) (gQ X Q):=λ{K A r st x7} s=>by
   refine Qk pr (fW (W:=W) (i:=2) (H:=hD KE (.lst (all.map aN)) (.lst (aS (cF all 0))) (bA A K) st r) rfl (kS (ah▸c1)) ?_);refine LB pr (n:=n+1) (goal:=i) (chunk:=c) (ts:=dJ g) s (lz rfl) (λt m=>⟨λk h=>gg.1 k (Ad m h),gg.2 t m⟩) λ{K' A' r' st'} s=>?_;rw[<-List.foldl_append] at s;have q2:∀{K' A' r' st' o x6 x7},Sv K' ((fK gs (i+1) (if U.isCall g=F6 then c+1 else c)).foldl stI ((ti i c g++dI Aab i c (dJ g)).foldl stI I)) A' r'->Q .aK [F5 (.obj 0),F5 (.obj 1),F5 (.obj 2),F5 (.obj 3),F5 (.bool ((ne||(U.isCall g&&!gs.isEmpty))||dR gs)),o,x6,x7,L3,L3,L3,L3,L3,L3] (hD KE (.lst (all.map aN)) (.lst (aS (cF all 0))) (bA A' K') st' r'):=λ{K' A' r' st' o x6 x7} s=>by
    rw[<-List.foldl_append,dw] at s;rw[Bool.or_assoc];exact q s
   have k2:X [F5 (.obj 0),F5 (.obj 1),F5 (.obj 2),F5 (.obj 3),F5 (.bool (ne||(U.isCall g&&!gs.isEmpty))),F5 (.int (i:Nat)),F5 (aN g),x7,L3,L3,L3,L3,L3,L3] (hD KE (.lst (all.map aN)) (.lst (aS (cF all 0))) (bA A' K') st' r') Q:=kx (ih d2 c2 s (λg m=>hg g (.tail _ m)) q2);have len:all.length=i+1+gs.length:=by
    have e:=aF List.length hd;rw[qM,dY] at e;exact(Nat.add_sub_cancel' (d9 (Nat.lt_of_sub_pos (by rw[e];exact om _)))).symm.trans (by rw[e,bW gs.length,<-bT])
   cases g with
   |call f as=>
    have el:decide (((i:Nat):Int)+1<((all.map aN).length:Nat))=!gs.isEmpty:=by
     rw[aQ,len]
     cases gs with
     |nil=>exact bC λh=>Int.lt_irrefl _ h|cons g gs=>exact bE (gV.mpr (tC (om _)))
    rw[show U.isCall (.call f as)=F6 from rfl,Bool.true_and] at k2
    cases hz:gs.isEmpty with
    |true=>
     rw[hz,Bool.not_true,Bool.or_false] at k2;exact aZ (el.trans (by rw[hz];rfl)) k2
    |false=>
     rw[hz,Bool.not_false,Bool.or_true] at k2;exact ae (el.trans (by rw[hz];rfl)) k2
   |bi=>rw[show U.isCall (.bi _ _)=L0 from rfl,Bool.false_and,Bool.or_false] at k2;exact k2|ao=>rw[show U.isCall (.ao _)=L0 from rfl,Bool.false_and,Bool.or_false] at k2;exact k2|mk=>rw[show U.isCall (.mk _)=L0 from rfl,Bool.false_and,Bool.or_false] at k2;exact k2|ct=>rw[show U.isCall (.ct _)=L0 from rfl,Bool.false_and,Bool.or_false] at k2;exact k2|cut=>rw[show U.isCall .cut=L0 from rfl,Bool.false_and,Bool.or_false] at k2;exact k2
  refine fW (W:=W) (i:=1) (H:=hD KE (.lst (all.map aN)) (.lst (aS (cF all 0))) (bA A K) st r) rfl (pU d1) (Qj pr (bz 1 ?_))
  cases g with
  |ao k=>exact fW (W:=W) (i:=2) (H:=hD KE (.lst (all.map aN)) (.lst (aS (cF all 0))) (bA A K) st r) rfl (kS (ah▸c1)) (uK pr (n:=n+3) (m:=⟨k,Aaf,i,c,1⟩) s (gg.1 k rfl) Nat.one_ne_zero λ{K' A' r' st'} S kp=>bH (fin S))|mk k=>exact fW (W:=W) (i:=2) (H:=hD KE (.lst (all.map aN)) (.lst (aS (cF all 0))) (bA A K) st r) rfl (kS (ah▸c1)) (uK pr (n:=n+3) (m:=⟨k,Aaf,i,c,1⟩) s (gg.1 k rfl) Nat.one_ne_zero λ{K' A' r' st'} S kp=>bH (fin S))|ct k=>exact fW (W:=W) (i:=2) (H:=hD KE (.lst (all.map aN)) (.lst (aS (cF all 0))) (bA A K) st r) rfl (kS (ah▸c1)) (uK pr (n:=n+3) (m:=⟨k,Aaf,i,c,1⟩) s (gg.1 k rfl) Nat.one_ne_zero λ{K' A' r' st'} S kp=>bH (fin S))|call=>exact bH (fin s)|bi=>exact bH (fin s)|cut=>exact bH (fin s)
end
def gO(args:List U.Tm)(gs:List Gl):List Me:=dI [104,101,97,100] (-1) 0 args++fK gs 0 0
def bN(args:List U.Tm)(gs:List Gl):Nat->In:=(gO args gs).foldl stI λy=>u6
def je(args:List U.Tm)(gs:List Gl)(K:List Nat)(k:Nat):In:=if k∈K then wq (bN args gs k) else bN args gs k
def oO(args:List U.Tm)(gs:List Gl)(K:List Nat):List Nat:=xZ (je args gs K) K
def hU(args:List U.Tm)(gs:List Gl)(K:List Nat)(k:Nat):In:=if k∈oO args gs K then jq (oO args gs K) k (je args gs K k) else je args gs K k
def uJ(args:List U.Tm)(gs:List Gl)(K:List Nat):List Nat:=(List.range gs.length).map λi:Nat=>e6 (λk=>(hU args gs K k).last) i (oO args gs K)
@[reducible] def rM(fn cnt:V)(args:List U.Tm):Cell:=.inst 6 [(100897158637842290,fn),(5929854835,.tup (args.map aC)),(1543761914995,.obj 1),(1526583357044,cnt)]
def Gx{Lf:Nat->Int}:∀{acc:List Nat},j∈ks.foldl (iE Lf) acc↔j∈acc\/j∈ks:=by
 induction ks with
 |nil=>exact⟨.inl,λh=>h.elim id λh=>memN h⟩|cons k ks ih=>exact ih.trans (by rw[Aq,bD,or_comm (a:=j=k),or_assoc])
def RM{Lf:Nat->Int}:∀{acc:List Nat},(ks.foldl (iE Lf) acc).length=acc.length+ks.length:=by
 induction ks with
 |nil=>exact rfl|cons k ks ih=>exact ih.trans (by rw[Gw,dY,bT,bW 1])
def RN{Lf:Nat->Int}:∀{acc:List Nat},acc.Nodup->ks.Nodup->(∀k∈ks,k∉acc)->(ks.foldl (iE Lf) acc).Nodup:=by
 induction ks with
 |nil=>exact λh y y=>h|cons k ks ih=>
  intro acc h1 h2 h3;obtain⟨n1,n2⟩:=bo.mp h2;refine ih ?_ n2 λj m z=>(Aq.mp z).elim (λe=>n1 (e▸m)) (h3 j (.tail _ m));unfold iE;refine List.perm_middle.nodup_iff.mpr ?_;rw[List.take_append_drop];exact bo.mpr ⟨h3 k (.head _),h1⟩
variable{gs:List Gl}
section
variable(pr:a9 W)
theorem U6(s:Sv K I A r)(hp:∀k∈ord,k∈K){Q:K2}:∀{m a:Nat} {lvs:List Nat} {x5 x13:Option V},lvs.length+m<=100->(∀{x5 x13},Q .aK [x0,x1,x2,x3,x4,x5,x6,x7,F5 (.obj 4),x9,F5 (.obj (aH r+5)),x11,F5 (.obj (aH r+6)),x13] (hD B0 B1 B2 (bA A K) st (app r [.lst (aS ord),.lst (aS (lvs++(List.range' a m).map λi:Nat=>e6 (λk=>(I k).last) i ord))])))->
  dA 5 (aO W n HN) ((List.range' a m).map λi:Nat=>V.int (i:Int)) [x0,x1,x2,x3,x4,x5,x6,x7,F5 (.obj 4),x9,F5 (.obj (aH r+5)),x11,F5 (.obj (aH r+6)),x13] (hD B0 B1 B2 (bA A K) st (app r [.lst (aS ord),.lst (aS lvs)])) Q:=by
 intro m
 induction m with
 |zero=>exact λ{a lvs x5 x13} y q=>by rw[show(List.range' a 0).map (λi:Nat=>e6 (λk=>(I k).last) i ord)=[] from rfl,fj] at q;exact q|succ m ih=>
  intro a lvs x5 x13 z q;have z2:lvs.length+1+m<=100:=by rw[bT,bW 1];exact z
  rw[List.range'_succ] at q ⊢;refine fL λX kx=>Ex.mk (v:=ord.length+1) (U5 s hp (l:=0) (cW _) ?_);rw[cW,List.drop_zero];refine ae (iq (i:=aH r+6) (eA (k:=1))) (dK (i:=aH r+6) (eA (k:=1)) (by rw[fJ];exact bp (aA (aW _ _) z) (lz rfl)) ?_)
  rw[Qm (k:=1),AI];exact kx (ih (a:=a+1) (lvs:=lvs++[e6 (λk=>(I k).last) a ord]) (by rw[a8];exact z2) λ{x5 x13}=>by
   rw[dw];exact q)
include pr
variable{fn cnt:V}{Q:K1}
def NX(ha:∀t∈args,(∀k,t.has k->k<60)/\t.a7<aJ)(hg:∀g∈gs,vH g)(hz:gs.length<=100)
  (q:∀{K A r st},Sv K (hU args gs K) A r->K.Nodup->(∀k,k∈K↔(bN args gs k).cnt≠0)->Q (.obj (aH r+7)) (hD (rM fn cnt args) (.lst (gs.map aN)) (.lst (aS (cF gs 0))) (bA A K) st (app r [.lst (aS (oO args gs K)),.lst (aS (uJ args gs K)),.inst 8 (xg (dR gs) (oO args gs K).length (aH r+6))]))):
  Fi W (n+6) 63 [.obj 0] [rM fn cnt args,.lst (gs.map aN)] Q:=by
 refine pr.fe Pw rfl ?_;refine bz 5 (NT pr hz (ZA pr ⟨rfl,?_⟩));refine LB pr (n:=n+1) (goal:=-1) (chunk:=0) (ts:=args) (A:=λy=>0) (K:=[]) (st:=0) (r:=[]) Zf (lz rfl) ha λ{K A r st} s=>bH (bz 1 ?_);refine⟨by rw[aQ];exact aA hz (lz rfl),?_⟩
 rw[aQ,mf];refine Qb pr (all:=gs) (gs:=gs) (i:=0) (c:=0) (ne:=L0) List.drop_zero List.drop_zero s hg λ{K A r st o x6 x7} s=>bH ?_;rw[<-List.foldl_append,Bool.false_or] at*;have s:Sv K (bN args gs) A r:=s;have em:K.Nodup/\∀k,k∈K↔(bN args gs k).cnt≠0:=⟨s.nd,λk=>s.mem⟩;have nd:(oO args gs K).Nodup:=RN dU (DT _ (ZJ s.nd)) λy y m=>memN m;have hK:∀k∈oO args gs K,k∈K:=λk m=>(Gx.mp m).elim (λm=>memN m) λm=>Cn.mp (gX.mp m).1;have ol:(oO args gs K).length<=60:=aA (bX (RM.trans (cW _))) (aA (qN _ _) (aA (bX Kk) s.len));refine bz 2 ⟨Ay,T6 (n:=n+4) pr (st:=st) (I:=bN args gs) (f:=λo=>[F5 (.obj 0),F5 (.obj 1),F5 (.obj 2),F5 (.obj 3),F5 (.bool (dR gs)),_,x6,x7,F5 (.obj 4),o,L3,L3,L3,L3]) rfl rfl rfl (ks:=K) (o:=L3) s.nd (λy m=>m) s (λk=>(aD λz=>z.2 z.1).symm) λ{r o} s=>bH (bz 1 (W4 pr s (bH (bz 1 (jJ (i:=aH r+5) bj ⟨by rw[fJ];exact aA ol (lz rfl),?_⟩)))))⟩
 rw[fJ,mf];refine ZH nd hK List.drop_zero rfl s (λk=>(aD λz=>z.2 z.1).symm) λ{r' x5 x11} e s=>bH ?_;rw[<-e];refine dN (lz rfl) ?_;rw[GZ,Ga];refine⟨by rw[aQ];exact aA hz (lz rfl),?_⟩
 rw[aQ,mf];refine U6 (n:=n+5) (I:=hU args gs K) (ord:=oO args gs K) s hK (lvs:=[]) (m:=gs.length) (a:=0) (by rw[nF,cW];exact hz) λ{x5 x13}=>?_
 refine jJ (i:=aH r'+5) gb ?_;rw[fJ];refine XJ pr (i:=aH _) bj ?_;rw[jO,GZ,Ga];refine⟨rfl,?_⟩;have z:=q (st:=st) s em.1 em.2;unfold uJ at z;rw[List.range_eq_range'] at z;exact z
end
variable{c m p:Nat}
section
variable(pr:a9 W)
theorem UW{f:Nat}{fl:List (Nat×V)}{P:Nat->Prop}(hc:aB H i=F5 (.inst c fl))(h:er fl m=L3)(e:uO c m=F5 f)(q:P f):yw W m (.obj i) H P:=by
 show ob (aB H i) _ _;rw[hc];show ob (er fl m) _ _;rw[h];show ob (uO c m) _ _;rw[e];exact q
theorem BS{fl:List (Nat×V)}{Q:K2}(h:gK c a=L0)(z:Nat.ble (aH fl) 800=F6)(q:Q .aK F (app H (.inst c (rE fl a v)::(r++[y])))):qb a (.obj (aH H)) v F (app (app H (.inst c fl::r)) [y]) Q:=by
 rw[fw];refine gv gb h z ?_;show Q .aK F (aa (app H (.inst c fl::(r++[y]))) _ (aH H));rw[qh];exact q
include pr
def NV{z:Nat}{fl:List (Nat×V)}{cnt:V}{Q:K1}(hz:aB H z=F5 (.inst 6 fl))(hcn:er fl 1526583357044=F5 cnt)(q:Q .none (app H [.inst 5 [(399558432417132,.obj z),(6181118318,.obj p),(5963211877,.obj (aH H+1)),(6230992238,.obj (aH H+2)),(1565236879724,.obj (aH H+3)),(7431401238237797656773434007450233,cnt)],.lst [],.set [],.set []])):
  Fi W (n+1) 18 [.obj (aH H),.obj z,.obj p] (app H [.inst 5 []]) Q:=by
 refine pr.fe PJ rfl ?_;refine gv gb rfl rfl ?_;rw[qh];refine gv gb rfl rfl ?_;rw[qh];refine dN (lz rfl) (BS rfl rfl (BS rfl rfl (BS rfl rfl (iX (dP hz) rfl hcn (gv gb rfl rfl ?_)))));rw[qh,len_app,len_app,len_app];exact q
end
section
variable{r:Nat->Nat}
theorem eK{enc:α->V}(h:∀x,mv r (enc x)=enc x):∀{l:List α},eT r (l.map enc)=l.map enc
 | []=>rfl|x::l=>(aF (·::eT r (l.map enc)) (h x)).trans (aF (enc x::·) (eK h (l:=l)))
def lW:mv r (aC t)=aC t:=by
 induction t with
 |v n=>rfl|c k z=>rfl|s1 f x ih=>exact aF (λy=>V.tup [.str [115],.int f,.tup [y]]) ih|s2 f x y i1 i2=>exact congr (aF (λy z=>V.tup [.str [115],.int f,.tup [y,z]]) i1) i2
def rT:mv r (aN g)=aN g:=by
 cases g with
 |call f as=>exact aF (λl=>V.tup [.str Aaa,.int f,.tup l]) (eK λy=>lW)|bi f as=>exact aF (λl=>V.tup [.str Aac,.int f,.tup l]) (eK λy=>lW)|ao=>rfl|mk=>rfl|ct=>rfl|cut=>rfl
def xJ:eT r (aS l)=aS l:=by rw[nW];exact eK λy=>rfl
def Ip{i:bO}:mv r (fz i)=fz i:=by cases i<;>rfl
end
def hH(P:Nat->Cell->Prop):List Nat->AH->Prop
 | [],[]=>True|i::σ,c::H=>aw (P i c) (hH P σ H)|_,_=>False
section
variable{P:Nat->Cell->Prop}
theorem hH.at_:∀{σ:List Nat} {H:AH} {j i:Nat},hH P σ H->σ[j]?=F5 i->∃c,H[j]?=F5 c/\P i c
 |_::_,c::_,0,_,⟨p,_⟩,e=>⟨c,rfl,ay e▸p⟩|_::σ,_::H,j+1,_,⟨_,q⟩,e=>hH.at_ (σ:=σ) (H:=H) (j:=j) q e
theorem hH.len:∀{σ:List Nat} {H:AH},hH P σ H->H.length=σ.length
 | [],[],_=>rfl|_::_,_::_,⟨_,q⟩=>aF Nat.succ (hH.len q)
theorem hH.map{f:α->Nat}{g:α->Cell}:∀{l:List α},(∀x∈l,P (f x) (g x))->hH P (l.map f) (l.map g)
 | []=>λz=>cC|x::l=>λh=>⟨h x (.head _),hH.map λy m=>h y (.tail _ m)⟩
end
def tw(nd:σ.Nodup)(ok:hH (λi c=>aB H i=F5 (mc (rn σ H.length) c)) σ H1){f:Nat}{Q:K1}(q:Fi W n f vs H1 λv H1'=>∀{H'},Bg σ H H1' H'->Q (mv (rn σ H.length) v) H'):Fi W n f (eT (rn σ H.length) vs) H Q:=
 frame nd ok.len (λe=>(ok.at_ e).elim λc ζ'=>ζ'.elim λa b=>⟨c,a,ah▸b⟩) q
def OE{f:Nat->V}{k:Nat}(h:k∈K):aR (gN f K) (.int (k:Int))=F5 (f k):=by
 induction K with
 |nil=>cases h|cons m l ih=>
  by_cases e:m=k
  .subst e;exact jI
  .exact(gu λq=>e (mX _ _ q)).trans (ih ((bD.mp h).resolve_left λq=>e q.symm))
structure Pc(H:AH)(z gl p d lv ch st N es:Nat)(fn:Int)(ne:Bool)(args:List U.Tm)(goals:List Gl)(lives cF K:List Nat)(I:Nat->In)(A:Nat->Nat):Prop where
 wx:aB H z=F5 (.inst 6 [(100897158637842290,.int fn),(5929854835,.tup (args.map aC)),(1543761914995,.obj gl),(1526583357044,.int (N:Nat))])
 Ak:aB H gl=F5 (.lst (goals.map aN))
 r8:aB H p=F5 (.inst 8 [(1552335400819,.obj d),(390775274630003,.obj ch),(6758814687394858888822,.bool ne),(25755653471308708453,.int (es:Nat)),(1720886839222231419348338,.obj lv)])
 AA:aB H d=F5 (.dict (gN (λk=>.obj (A k)) K) st)
 Bb:aB H lv=F5 (.lst (aS lives))
 ta:aB H ch=F5 (.lst (aS cF))
 inf:∀k∈K,aB H (A k)=F5 (.inst 7 (eV k (I k)))
 nd:(p::d::lv::z::gl::ch::K.map A).Nodup
def oG(m p d lv z gl ch:Nat)(KA:List Nat):List Nat:=m::(m+1)::(m+2)::(m+3)::p::d::lv::z::gl::ch::KA
def uV(pl:Pl)(K lives cF:List Nat)(st N es:Nat)(fn:Int)(ne:Bool)(args:List U.Tm)(goals:List Gl)(R:List bO):Cx:=⟨pl,K,gN (λk=>.obj (K.idxOf k+10)) K,st,ne,es,aS lives,.int fn,args.map aC,.int (N:Nat),goals.map aN,aS cF,R⟩
variable{gl ch:Nat}{fn:Int}{lives:List Nat}{R:List bO}
section
variable{z:Nat}{cF:List Nat}(P:Pc H z gl p d lv ch st N es fn ne args goals lives cF K I A)
include P
def Pc.lt:∀x∈p::d::lv::z::gl::ch::K.map A,x<H.length:=λx m=>by
 simp only[bD] at m;rcases m with rfl|rfl|rfl|rfl|rfl|rfl|m
 .exact fO P.r8
 .exact fO P.AA
 .exact fO P.Bb
 .exact fO P.wx
 .exact fO P.Ak
 .exact fO P.ta
 .obtain⟨k,hk,rfl⟩:=dB.mp m;exact fO (P.inf k hk)
def Pc.nodup:(oG (aH H) p d lv z gl ch (K.map A)).Nodup:=fm.mpr ⟨List.nodup_range' (s:=aH H) (n:=4),P.nd,λa ha b hb e=>by
 have:=P.lt b hb
 rw[<-e,<-cY] at this;exact ed _ (bw this (List.mem_range'_1.mp ha).1)⟩
def Pc.all{HB:AH}(hB:HB=app H [.inst 5 [(399558432417132,.obj z),(6181118318,.obj p),(5963211877,.obj (aH H+1)),(6230992238,.obj (aH H+2)),(1565236879724,.obj (aH H+3)),(7431401238237797656773434007450233,.int (N:Nat))],.lst [],.set [],.set []])(nK:K.Nodup):
  hH (λi c=>aB HB i=F5 (mc (rn (oG (aH H) p d lv z gl ch (K.map A)) m) c)) (oG (aH H) p d lv z gl ch (K.map A)) (hM (uV pl K lives cF st N es fn ne args goals R) (K.map λk=>(aB H (A k)).getD (.set [])) [] ⟨[],[],N⟩):=by
 have e:ik (rn (oG (aH H) p d lv z gl ch (K.map A)) m) (gN (λk=>.obj (K.idxOf k+10)) K)=gN (λk=>.obj (A k)) K:=by
  unfold ik gN;rw[gD];refine ix λk hk=>?_;have hi:=bu (kA.mpr hk);rw[oY] at hi
  have:(oG (aH H) p d lv z gl ch (K.map A))[K.idxOf k+10]?=F5 (A k):=(gC (i:=K.idxOf k) (f:=A) (l:=K)).trans (aF (Option.map A) hi)
  exact aF (λi=>(Atom.int (k:Int),V.obj i)) (oL this)
 subst hB;refine⟨gb,eA (k:=1),eA (k:=2),eA (k:=3),dP P.r8,dP (P.AA.trans (aF (λl=>F5 (Cell.dict l st)) e.symm)),dP (P.Bb.trans (aF (λl=>F5 (Cell.lst l)) xJ.symm)),dP (P.wx.trans (aF (λl=>F5 (Cell.inst 6 [(100897158637842290,.int fn),(5929854835,.tup l),(1543761914995,.obj gl),(1526583357044,.int (N:Nat))])) (eK λy=>lW).symm)),dP (P.Ak.trans (aF (λl=>F5 (Cell.lst l)) (eK λy=>rT).symm)),dP (P.ta.trans (aF (λl=>F5 (Cell.lst l)) xJ.symm)),hH.map λk hk=>?_⟩;have h:=P.inf k hk;rw[h];exact dP h
end
structure Pk(pl:Pl)(K:List Nat)(I:Nat->In):Prop where
 nK:K.Nodup
 kl:K.length<4000
 kd:∀k∈K,(I k).kd=kindS pl k
 sl:∀k∈K,pl.perm k=F6->(I k).sl=pl.slot k
 un:∀k∈K,(I k).uns=pl.uns k
 la:∀k∈K,(I k).last=pl.last k
 ex:∀k∈K,pl.void k=F6->pl.perm k=L0
section
variable(pr:a9 W){z:Nat}{cF:List Nat}(P:Pc H z gl p d lv ch st N es fn ne args goals lives cF K I A)(k:Pk pl K I)
include P k
theorem Pc.ok(zR:R.length<=aJ):(uV pl K lives cF st N es fn ne args goals R).Ok (K.map λk=>(aB H (A k)).getD (.set [])):=⟨λj (hj:j∈K)=>by
 have h:=P.inf j hj;have hi:=bu (kA.mpr hj);rw[oY] at hi;refine⟨K.idxOf j,eV j (I j),OE hj,?_,aF (λs=>F5 (V.str s)) (k.kd j hj),λe=>aF (λs:Nat=>F5 (V.int (s:Int))) (k.sl j hj e),aF (λs=>F5 (V.bool s)) (k.un j hj),aF (λs=>F5 (V.int s)) (k.la j hj)⟩;rw[ah,gC,hi];show F5 ((aB H (A j)).getD _)=_;rw[h];rfl,k.ex,k.kl,zR⟩
include pr
def Nf{la:Nat->Nat}{s:V}(hla:∀j,j+1<goals.length->aB (aS lives) j=F5 (.int (la j:Nat)))(h1:goals≠[])(zR:(hW pl N la ne es args goals).length<=aJ)(va:∀t∈args,aq t=L0/\∀x,t.has x->x∈K)
  (v:∀g∈goals,vJ (uV pl K lives cF st N es fn ne args goals (hW pl N la ne es args goals)) g) {Q:K1}
  (q:∀{H'},aB H' (aH H+1)=F5 (.lst ((hW pl N la ne es args goals).map fz))->(∀{i x},aB H i=F5 x->i∉K.map A->aB H' i=F5 x)->Q (.obj (aH H+1)) H'):Fi W (n+10) 46 [s,.obj z,.obj p] H Q:=by
 refine pr.fe Pd rfl ?_;refine NV pr P.wx rfl ⟨rfl,UW gb rfl rfl ?_⟩;have nd:=P.nodup;generalize hB:app H [.inst 5 [(399558432417132,.obj z),(6181118318,.obj p),(5963211877,.obj (aH H+1)),(6230992238,.obj (aH H+2)),(1565236879724,.obj (aH H+3)),(7431401238237797656773434007450233,.int (N:Nat))],.lst [],.set [],.set []]=HB;have all:=P.all (pl:=pl) (R:=hW pl N la ne es args goals) (m:=HB.length) hB.symm k.nK;have up:∀{i x},aB H i=F5 x->aB HB i=F5 x:=λh=>hB▸dP h;refine tw (vs:=[.obj 0]) nd all (NY pr (X:=uV pl K lives cF st N es fn ne args goals (hW pl N la ne es args goals)) rfl rfl rfl hla h1 (P.ok k zR) va v λ{G c} o {H'} b=>q ?_ λ{i x} hi ni=>?_)
 .rw[ah,<-eK (r:=rn (oG (aH H) p d lv z gl ch (K.map A)) HB.length) λu=>Ip];exact b.gP (j:=1) rfl
 .rw[ah];have hx:=up hi;by_cases m:i∈oG (aH H) p d lv z gl ch (K.map A)
  .obtain⟨j,hj⟩:=jS.mp m;obtain⟨c0,h0,h3⟩:=all.at_ hj;cases h3.symm.trans hx;have big:∀k,i≠aH H+k:=λk e=>ed _ (bp (aA (aW _ k) (bX e.symm)) (cY (l:=H)▸fO hi));have same:∀{y},(hM (uV pl K lives cF st N es fn ne args goals (hW pl N la ne es args goals)) G (hW pl N la ne es args goals) c)[j]?=F5 y->y=c0->H'[i]?=F5 (mc (rn (oG (aH H) p d lv z gl ch (K.map A)) HB.length) c0):=λa e=>by
    have:=b.gP a
    rw[oL hj,e] at this;exact this
   rcases j with _|_|_|_|_|_|_|_|_|_|j
   .exact absurd (ay hj).symm (big 0)
   .exact absurd (ay hj).symm (big 1)
   .exact absurd (ay hj).symm (big 2)
   .exact absurd (ay hj).symm (big 3)
   .exact same rfl (ay h0)
   .exact same rfl (ay h0)
   .exact same rfl (ay h0)
   .exact same rfl (ay h0)
   .exact same rfl (ay h0)
   .exact same rfl (ay h0)
   .exact absurd (d8 (show(K.map A)[j]?=F5 i from hj)) ni
  .exact b.out m (ah▸hx)
end
variable{x:Int}
def qm(h0:0<=x)(h:x<2 ^ 64):Builtin.Int.intBits x<=4096:=by
 unfold Builtin.Int.intBits;split
 .exact ba _
 .rename_i hx;have hn:x.natAbs≠0:=λq=>hx (by rw[Int.natAbs_eq_zero.mp q];rfl)
  have h1:x.natAbs<2 ^ 64:=Int.natAbs_lt_natAbs_of_nonneg_of_lt h0 h;exact aA ((Nat.log2_lt hn).mpr h1) ⋯
def F7{m:Int}(h:0<m):0<=Int.fmod x m/\Int.fmod x m<m:=⟨Int.fmod_nonneg_of_pos x h,Int.fmod_lt_of_pos x h⟩
def Oi(h:0<m):∃r:Nat,Int.fmod x (m:Int)=(r:Int)/\r<m:=by
 obtain⟨h1,h2⟩:=F7 (x:=x) (m:=(m:Int)) (gV.mpr h);exact⟨(Int.fmod x m).toNat,(Int.toNat_of_nonneg h1).symm,gV.mp ((Int.toNat_of_nonneg h1).symm▸h2)⟩
def Vp{b:Int}(h0:0<=x)(h:x<2305843009213693951)(b0:0<=b)(hb:b<=1000000):(0<=x+104729*b+17/\x+104729*b+17<2 ^ 64)/\(0<=6364136223846793005+2*b/\6364136223846793005+2*b<2 ^ 64):=
 ⟨⟨Int.add_nonneg (Int.add_nonneg h0 (Int.mul_nonneg ⋯ b0)) ⋯,Int.lt_of_lt_of_le (Int.add_lt_add_right (Int.add_lt_add_of_lt_of_le h (Int.mul_le_mul_of_nonneg_left hb ⋯)) 17) ⋯⟩,⟨Int.add_nonneg ⋯ (Int.mul_nonneg ⋯ b0),yj (Int.add_le_add_left (Int.mul_le_mul_of_nonneg_left hb ⋯) _) ⋯⟩⟩
@[reducible] def SN:aL:=(.cons (.cB (.var 0) (.const (.int 0)) (.op (.bin .Mod) (.cons (.op (.bin .Mult) (.cons (.op (.bin .Add) (.cons (.op (.bin .Add) (.cons (.op (.bin .Mod) (.cons (.var 3) (.cons (.const (.int 2305843009213693951)) .nil))) (.cons (.op (.bin .Mult) (.cons (.const (.int 104729)) (.cons (.var 2) .nil))) .nil))) (.cons (.const (.int 17)) .nil))) (.cons (.op (.bin .Add) (.cons (.const (.int 6364136223846793005)) (.cons (.op (.bin .Mult) (.cons (.const (.int 2)) (.cons (.var 2) .nil))) .nil))) .nil))) (.cons (.const (.int 2305843009213693951)) .nil)))) .nil)
def NR{d:Prop}{t:Bool}{a b:BT}{Q:K2}(q:b F H Q):cBool d (.bool t) λy=>Hn a b F Q (.bool L0) H:=q
@[reducible] def f3(R:AH)(S:List Int)(a:Int)(b:Nat):AH:=.lst [.int a,.int (b:Int),.lst (S.map .int)]::R
variable{R:AH}{b:Nat}{S:List Int}{a:Int}
section
variable(pr:a9 W)(hS:S≠[])(hb:b<=1000000)(hm:0<m)(hm2:m<1073741824){Q:K1} (q:∀{r:Nat} {a':Int} {b':Nat},r<m->b'<=b+1->Q (.int (r:Int)) (f3 R S a' b'))
theorem FQ(hb:b<=1000000){cell:Int}{b1:Nat}{K:K2}(k:∀{a1},K .aK [F5 (.obj 0),x1,F5 (.int (b:Int)),F5 (.int cell),x4] (f3 R S a1 b1)):aO W n SN [F5 (.obj 0),x1,F5 (.int (b:Int)),F5 (.int cell),x4] (f3 R S a b1) K:=by
 obtain⟨x1,x2⟩:=F7 (x:=cell) (m:=2305843009213693951) ⋯
 have b0:(0:Int)<=b:=fD b;have b1:(b:Int)<=1000000:=mC.mpr hb;obtain⟨⟨y1,y2⟩,y3,y4⟩:=Vp x1 x2 b0 b1;have b2:(b:Int)<2 ^ 64:=yj b1 ⋯
 exact fP (tI.int ⋯) (fP (zE.int (qm ⋯ ⋯) (qm b0 b2)) (fP (zE.int (qm ⋯ ⋯) (qm b0 b2)) (fP (zE.int (qm y1 y2) (qm y3 y4)) (fP (tI.int ⋯) ⟨lz rfl,k⟩))))
include hm hm2 q
theorem FT{a1:Int}{b1:Nat}(hb1:b1<=b+1):aO W n (dp 1 A3) [F5 (.obj 0),F5 (.int (m:Int)),x2,x3,L3] (f3 R S a1 b1) (gq Q):=by
 obtain⟨r,e,hr⟩:=Oi (x:=a1) hm;refine fP (tI.int (gV.mpr hm)) ?_;rw[e];exact fP (Lv.int (gV.mpr hm) (show(m:Int)<((1073741824:Nat):Int) from gV.mpr hm2)) ⟨lz rfl,q (a':=Int.fdiv a1 m) hr hb1⟩
include pr hS hb
theorem gi:Fi W (n+1) 64 [.obj 0,.int (m:Int)] (f3 R S a b) Q:=by
 have lS:0<S.length:=yq.mpr hS;refine pr.fe Py rfl ?_;refine bz 1 ?_;by_cases ha:a<1000
 .refine ae (bE ha) ⟨lz rfl,BN (m:=b) (k:=S.length) rfl (aF Nat.cast (aQ _)) lS ?_⟩;have hj:b % S.length<S.length:=tE _ lS;refine bJ (pU (ah▸bu hj)) ?_;generalize S[b % S.length]=cell;by_cases hc:cell=0
  .exact ae (bE hc) (q (r:=0) hm (au _))
  .refine aZ (bC hc) ?_;have other:∀{a1:Int},Stop (aO W n (dp 1 A3)) [F5 (.obj 0),F5 (.int (m:Int)),F5 (.int (b:Int)),F5 (.int cell),L3] (f3 R S a1 (b+1)) (gq Q):=bH (FT hm hm2 q (au _));by_cases h1:b<(S.map V.int).length
   .refine ae (bE (gV.mpr h1)) (fP (zF.int ⋯ ⋯) ?_)
    by_cases h2:(10 ^ (18:Int).toNat:Int)<=cell
    .exact ae (bE h2) (fP (zF.int ⋯ ⋯) (fP (tI.int ⋯) ⟨lz rfl,other⟩))
    .exact aZ (bC h2) (FQ (b1:=b+1) hb other)
   .exact aZ (bC λe=>h1 (gV.mp e)) (NR (FQ (b1:=b+1) hb other))
 .exact aZ (bC ha) (bH (FT hm hm2 q (cJ _)))
end
structure Tz(d:Nat)(ns:List Nat)(t:U.Tm):Prop where
 wt:t.WT
 vs:∀x,t.has x->x∈ns
 dp:t.dep<=d
 sz:t.a7+1<=2 ^ (d+1)
def Tz.leaf{ns:List Nat}(wt:t.WT)(vs:∀x,t.has x->x∈ns)(dp:t.dep=0)(sz:t.a7=1):Tz d ns t:=⟨wt,vs,dp▸ba _,by rw[sz,y8];exact Nat.mul_le_mul_right 2 (Nat.one_le_two_pow (n:=d))⟩
section
variable{b' b1 b2 P X t u:Nat}
def K4(h:b+(P+P)<=1000000)(p:3<=P):b+2<=1000000:=aA (dC (aA (gE p) (aW P P)) b) h
def K5(p:3<=P)(h:b'<=b+2):b'+1<=b+(P+P):=aA (cP h) (dC (aA p (aW P P)) b)
def Zs(hb:b+(P+P)<=1000000)(p:3<=P)(h:b'<=b+1):b'+P<=1000000:=aA (b5 (aA h (dC (aA ⋯ p) b)) P) (by rw[bT];exact hb)
def Zt(p:3<=P)(h:b'<=b+1)(h1:b1+1<=b'+P):b1+1<=b+(P+P):=aA h1 (by rw[<-bT];exact b5 (aA h (dC (aA ⋯ p) b)) P)
def Cq(h:b'<=b+1)(h1:b1+1<=b'+P):b1<=b+P:=iP (aA h1 (by rw[<-Nat.succ_add];exact b5 h P))
def Zu(h:b1<=b+P)(h2:b2+1<=b1+P):b2+1<=b+(P+P):=aA h2 (by rw[<-bT];exact b5 h P)
def K6(hb:b+(P+P)<=1000000)(h:b1<=b+P):b1+P<=1000000:=aA (b5 h P) (by rw[bT];exact hb)
def tz1(h:t+1<=X):t+1+1<=X*2:=by rw[Nat.mul_two];exact eb h (aA (cI 1 t) h)
def tz2(h:t+1<=X)(k:u+1<=X):t+u+1+1<=X*2:=by rw[Nat.mul_two,bT t,iy t (u+1)];exact eb h k
end
def m8(na:Nat):V:=.lst [.int (na:Int),.int 32,.int 33]
variable{na:Nat}
section
variable(pr:a9 W)(hS:S≠[]){ns:List Nat}
include pr hS
def Cu(hb:b<=1000000){x2:V}{Q:K1}(q:∀{t a' b'},Tz d ns t->b'<=b+1->Q (aC t) (f3 R S a' b')):bI W (n+1) (.op .tup (.cons (.const (.str [105])) (.cons (.op .sub (.cons (.op .lst (.cons (.const (.int 0)) (.cons (.const (.int 1)) (.cons (.const (.int (-1))) (.cons (.op (.bin .Pow) (.cons (.const (.int 10)) (.cons (.const (.int 30)) .nil))) .nil))))) (.cons (.call 64 (.cons (.var 0) (.cons (.const (.int 4)) .nil))) .nil))) .nil))) [F5 (.obj 0),x1,F5 x2,x3,x4,x5] (f3 R S a b) Q:=by
 refine fP (zF.int ⋯ ⋯) (mw (lz rfl) (gi pr (m:=4) hS hb ⋯ ⋯ λ{r a' b'} hr hb'=>?_))
 have go:∀{z:Int},Tz d ns (.c L0 z):=λ{z}=>.leaf cC (λx h=>h.elim) rfl rfl;rcases r with _|_|_|_|r
 .exact q (t:=.c L0 0) go hb'
 .exact q (t:=.c L0 1) go hb'
 .exact q (t:=.c L0 (-1)) go hb'
 .exact q (t:=.c L0 (10 ^ (30:Int).toNat)) go hb'
 .exact absurd hr (gF.mpr (cI 4 r))
variable(hns:ns≠[])(hn:ns.length<1000)
include hns hn
def LA{z:Option V}(hb:b+2<=1000000){Q:K1}(q:∀{t a' b'},(∀d,Tz d ns t)->b'<=b+2->Q (aC t) (f3 R S a' b'))(k:∀{r:Nat} {a' b'},4<=r->r<8->b'<=b+1->aO W (n+1) (dp 3 A9) [F5 (.obj 0),F5 (m8 na),z,F5 (.lst (aS ns)),F5 (.int (r:Nat)),L3] (f3 R S a' b') (gq Q)):
  aO W (n+1) A9 [F5 (.obj 0),F5 (m8 na),z,F5 (.lst (aS ns)),L3,L3] (f3 R S a b) (gq Q):=by
 refine bz 3 (gi pr (m:=8) hS (aA (aW _ 2) hb) ⋯ ⋯ λ{r a' b'} hr hb'=>?_)
 have hb2:b'<=1000000:=aA hb' (gE hb);by_cases h:r<3
 .refine ae (bE (gV.mpr h)) (gi pr (m:=(aS ns).length) hS hb2 (by rw[fJ];exact yq.mpr hns) (by rw[fJ];exact jV hn ⋯) λ{r a2 b2} hr hb2=>?_)
  rw[fJ] at hr;exact bJ (kS (bu hr)) (q (t:=.v ns[r]) (λd=>.leaf cC (λx h=>(show ns[r]=x from h)▸jR hr) rfl rfl) (aA hb2 (cP hb')))
 .refine aZ (bC λe=>h (gV.mp e)) ?_;by_cases h3:r=3
  .refine ae (bE (aF Nat.cast h3)) (mw (lz rfl) (gi pr (m:=2) hS hb2 ⋯ ⋯ λ{r a2 b2} hr hb2=>?_))
   rcases r with _|_|r
   .exact q (t:=.c F6 0) (λd=>.leaf cC (λx h=>h.elim) rfl rfl) (aA hb2 (cP hb'))
   .exact q (t:=.c F6 na) (λd=>.leaf cC (λx h=>h.elim) rfl rfl) (aA hb2 (cP hb'))
   .exact absurd hr (gF.mpr (cI 2 r))
  .exact aZ (bC λe=>h3 (d6 e)) (bH (k (Nat.lt_of_le_of_ne (nI h) λe=>h3 e.symm) hr hb'))
def K9:∀{d:Nat} {a:Int} {b:Nat} {Q:K1},b+3*2 ^ d<=1000000->(∀{t a' b'},Tz d ns t->b'+1<=b+3*2 ^ d->Q (aC t) (f3 R S a' b'))->Fi W (n+2+d) 79 [.obj 0,m8 na,.int (d:Nat),.lst (aS ns)] (f3 R S a b) Q:=by
 intro d
 induction d with
 |zero=>
  intro a b Q hb q;generalize hz:((0:Nat):Int)=z;refine pr.fe GU rfl ?_;refine LA pr hS hns hn (z:=F5 (.int z)) (gE hb) (λht hb'=>q (ht 0) (cP hb')) λ{r a' b'} y y hb'=>?_;have hb2:b'<=1000000:=aA hb' (gE (gE hb));by_cases h4:r=4
  .exact ae (bE (aF Nat.cast h4)) (Cu (d:=0) pr hS hb2 λht h=>q ht (cP (aA h (cP hb'))))
  .exact aZ (bC λe=>h4 (d6 e)) (ae (bE hz.symm) (Cu (d:=0) pr hS hb2 λht h=>q ht (cP (aA h (cP hb')))))
 |succ d ih=>
  intro a b Q hb q;rw[show n+2+d=n+1+d+1 by rw[iy n 1 d,iy n 2 d]] at ih
  rw[show n+2+(d+1)=n+1+d+1+1 by rw[iy n 1 d,<-bT,iy n 2 d]]
  have ih':∀{z:Int} {a:Int} {b:Nat} {Q:K1},z=d->b+3*2 ^ d<=1000000->(∀{t a' b'},Tz d ns t->b'+1<=b+3*2 ^ d->Q (aC t) (f3 R S a' b'))->Fi W (n+1+d+1) 79 [.obj 0,m8 na,.int z,.lst (aS ns)] (f3 R S a b) Q:=λe=>e▸ih;have e2:3*2 ^ (d+1)=3*2 ^ d+3*2 ^ d:=by rw[y8,<-Nat.mul_assoc,Nat.mul_two]
  have p3:3<=3*2 ^ d:=Du 3 (Nat.two_pow_pos d);rw[e2] at hb q;have hz0:((d+1:Nat):Int)≠0:=λe=>nomatch d6 e;have hz1:((d+1:Nat):Int)-1=d:=DS d 1;generalize ((d+1:Nat):Int)=z at hz0 hz1 ⊢;refine pr.fe GU rfl ?_;refine LA (n:=n+1+d) (b:=b) pr hS hns hn (z:=F5 (.int z)) (K4 hb p3) (λht hb'=>q (ht _) (K5 p3 hb')) λ{r a' b'} y y hb'=>?_;by_cases h4:r=4
  .exact ae (bE (aF Nat.cast h4)) (Cu (d:=d+1) (b:=b') pr hS (aA (fE hb') (K4 hb p3)) λht h=>q ht (K5 p3 (aA h (cP hb'))))
  .refine aZ (bC λe=>h4 (d6 e)) (aZ (bC hz0) (ih' hz1 (Zs hb p3 hb') λ{t1 a1 b1} ht1 h1=>?_));by_cases h5:r=5
   .refine ae (bE (aF Nat.cast h5)) (q (t:=.s1 32 t1) ⟨⟨rfl,ht1.wt⟩,ht1.vs,cP ht1.dp,?_⟩ (Zt p3 hb' h1));rw[y8 2 (d+1)];exact tz1 ht1.sz
   .refine aZ (bC λe=>h5 (d6 e)) ?_;have fin:∀{f:Nat},f=0\/f=33->∀{t2 a2 b2},Tz d ns t2->b2+1<=b1+3*2 ^ d->Q (aC (.s2 f t1 t2)) (f3 R S a2 b2):=λ{f} hf {t2 a2 b2} ht2 h2=>by
     refine q (t:=.s2 f t1 t2) ⟨⟨hf,ht1.wt,ht2.wt⟩,λx h=>h.elim (ht1.vs x) (ht2.vs x),cP (vV.mpr ⟨ht1.dp,ht2.dp⟩),?_⟩ (Zu (Cq hb' h1) h2);rw[y8 2 (d+1)];exact tz2 ht1.sz ht2.sz
    by_cases h6:r=6
    .exact ae (bE (aF Nat.cast h6)) (ih' hz1 (K6 hb (Cq hb' h1)) (fin (.inl rfl)))
    .exact aZ (bC λe=>h6 (d6 e)) (ih' hz1 (K6 hb (Cq hb' h1)) (fin (.inr rfl)))
end
def ng(s:List Nat):Atom:=.str s
def nc(p:Nat×Nat):List Atom:=[.int (p.1:Int),.int (p.2:Int)]
def BG(a b:List Nat)(h:ng a=ng b):a=b:=Atom.str.inj h
def BE(a b:Nat×Nat)(h:nc a=nc b):a=b:=by
 injection h with h1 h2;injection h2 with h2;exact iQ (d6 (Atom.int.inj h1)) (d6 (Atom.int.inj h2))
def nV(p:Nat×Nat):V:=.tup [.int (p.1:Int),.int (p.2:Int)]
@[reducible] def eF(p:Cell)(R:AH)(ts:List (List Nat))(fs:List (Nat×Nat))(s s':Nat):AH:=p::.inst 0 [(1599430227059,.obj 2),(109388970062261371602777502323,.obj 3),(25829672611287626355,.obj 4),(1861224063156749765404099319326667379,.obj 5)]::.lst (ts.map V.str)::.dict (dE ng 0 ts) s::.lst (fs.map nV)::.aX (dE nc 0 fs) s'::R
def cf[DecidableEq α](l:List α)(x:α):List α:=if x∈l then l else l++[x]
def iU[DecidableEq α](l:List α)(x:α):Nat:=0+l.idxOf x
def Gh[DecidableEq α]{tb:List α}{n:α}(h:n∉tb):iU (tb++[n]) n=tb.length:=by unfold iU;rw[Df,aD h,Dg,cW,cW]
variable{s' a:Nat}{fs:List (Nat×Nat)}{t:List Nat}
section
variable(pr:a9 W){p:Cell}{s:Nat}{ts:List (List Nat)}{Q:K1}
include pr
def zU(z:ts.length<1000)(q:∀{s},Q (.int (iU (cf ts t) t:Nat)) (eF p R (cf ts t) fs s s')):Fi W (n+1) 4 [.obj 1,.str t] (eF p R ts fs s s') Q:=by
 unfold cf at q;refine pr.fe g4 rfl (bz 1 ?_);show Stop (aO W n (dp 1 j4)) [F5 (.obj 1),F5 (.str t),F5 ((aR (dE ng 0 ts) (ng t)).getD (.int (-1))),L3] (eF p R ts fs s s') (gq Q);by_cases m:t∈ts
 .rw[aI m] at q;rw[q7 BG m];exact bH q
 .have el:(ts.map V.str).length=ts.length:=aQ _;rw[aD m,Gh m] at q;have q:=q (s:=s+1);unfold eF at q;rw[<-AF BG m,b8,<-el] at q;rw[tg BG m];exact bH ⟨by rw[el];exact jV z ⋯,⟨by rw[pA];exact aA (d9 z) (lz rfl),q⟩⟩
def PC{k:Nat}(z:fs.length<1000)(q:∀{s'},Q (.int (iU (cf fs (a,k)) (a,k):Nat)) (eF p R ts (cf fs (a,k)) s s')):Fi W (n+1) 6 [.obj 1,.int (a:Nat),.int (k:Nat)] (eF p R ts fs s s') Q:=by
 unfold cf at q;refine pr.fe g6 rfl (bz 2 ?_);show Stop (aO W n (dp 2 j6)) [F5 (.obj 1),F5 (.int (a:Nat)),F5 (.int (k:Nat)),F5 (.tup [.int (a:Nat),.int (k:Nat)]),F5 ((aR (dE nc 0 fs) (nc (a,k))).getD (.int (-1))),L3] (eF p R ts fs s s') (gq Q);by_cases m:(a,k)∈fs
 .rw[aI m] at q;rw[q7 BE m];exact bH q
 .have el:(fs.map nV).length=fs.length:=aQ _;rw[aD m,Gh m] at q;have q:=q (s':=s'+1);unfold eF at q;rw[<-AF BE m,b8,<-el] at q;rw[tg BE m];exact bH ⟨by rw[el];exact jV z ⋯,⟨by rw[pA];exact aA (d9 z) (lz rfl),q⟩⟩
def GP{k:Nat}(z:ts.length<1000)(z':fs.length<1000)(q:∀{s s'},Q (.int (iU (cf fs (iU (cf ts t) t,k)) (iU (cf ts t) t,k):Nat)) (eF p R (cf ts t) (cf fs (iU (cf ts t) t,k)) s s')):Fi W (n+2) 7 [.obj 1,.str t,.int (k:Nat)] (eF p R ts fs s s') Q:=by
 refine pr.fe g7 rfl ?_;exact zU pr z (PC pr z' q)
end
def u3:List (List Nat):=[[91,93],[46],[123,125],[45],[43],[42],[47],[44],[124],[59],[45,62],[92,43],[58,45],[63,45],[45,45,62],[33],[116,114,117,101],[102,97,105,108],[102,97,108,115,101],Aaa,[61],[94],[101,114,114,111,114],[],[101,110,100,95,111,102,95,102,105,108,101],[115,121,115,116,101,109],[36,86,65,82],[99,97,116,99,104],[116,104,114,111,119]]
def AU:List (List Nat×Nat):=[([46],2),([44],2),([59],2),([45,62],2),([92,43],1),([58,45],2),([58,45],1),([63,45],1),([45,45,62],2),([123,125],1),([61],2),([94],2),([45],1),([45],2),([43],2),([47],2),([101,114,114,111,114],2),([36,86,65,82],1),([99,97,116,99,104],3),([116,104,114,111,119],1),([33],0),([116,114,117,101],0),([102,97,105,108],0),([102,97,108,115,101],0),(Aaa,1),(Aaa,2),(Aaa,3),(Aaa,4),(Aaa,5),(Aaa,6),(Aaa,7),(Aaa,8)]
def fH(p:List (List Nat)×List (Nat×Nat))(r:List Nat×Nat):List (List Nat)×List (Nat×Nat):=(cf p.1 r.1,cf p.2 (iU (cf p.1 r.1) r.1,r.2))
def qe[DecidableEq α]{l:List α}{x:α}:(cf l x).length<=l.length+1:=by
 unfold cf;split
 .exact cJ _
 .exact bX a8
def uu:List (List Nat)×List (Nat×Nat):=AU.foldl fH (u3.foldl cf [],[])
def Ow[DecidableEq α]{l:List α}:∀{ts:List α},(l.foldl cf ts).length<=ts.length+l.length:=by
 induction l with
 |nil=>exact au _|cons t l ih=>exact aA ih (aA (b5 qe _) (by rw[bT,bW 1];exact au _))
section
variable(pr:a9 W){P0:Cell}
include pr
def aAC{Q:K2}:∀{l ts:List (List Nat)} {s:Nat} {o:Option V},ts.length+l.length<=900->(∀{s o},Q .aK [F5 (.obj 1),o,L3] (eF P0 R (l.foldl cf ts) fs s s'))->dA 1 (aO W (n+1) G9) (l.map V.str) [F5 (.obj 1),o,L3] (eF P0 R ts fs s s') Q:=by
 intro l
 induction l with
 |nil=>exact λ{ts s o} y q=>q|cons t l ih=>exact λ{ts s o} z q=>fL λK k=>zU pr (bp (aA (aW _ _) z) ⋯) λ{s}=>k (ih (aA (b5 qe _) (by rw[bT,bW 1];exact z)) q)
def Yh{x:Option V}{Q:K2}:∀{l:List (List Nat×Nat)} {p:List (List Nat)×List (Nat×Nat)} {s s':Nat} {o:Option V},p.1.length+l.length<=900->p.2.length+l.length<=900->(∀{s s' o},Q .aK [F5 (.obj 1),x,o] (eF P0 R (l.foldl fH p).1 (l.foldl fH p).2 s s'))->dA 2 (aO W (n+2) HA) (l.map λ(r:List Nat×Nat)=>V.tup [.str r.1,.int (r.2:Nat)]) [F5 (.obj 1),x,o] (eF P0 R p.1 p.2 s s') Q:=by
 intro l
 induction l with
 |nil=>exact λ{p s s' o} y y q=>q|cons r l ih=>exact λ{p s s' o} z1 z2 q=>fL λK k=>GP pr (bp (aA (aW _ _) z1) ⋯) (bp (aA (aW _ _) z2) ⋯) λ{s s'}=>k (ih (p:=fH p r) (aA (b5 qe _) (by rw[bT,bW 1];exact z1)) (aA (b5 qe _) (by rw[bT,bW 1];exact z2)) q)
def Zi{Q:K1}(q:∀{s s'},Q .none (eF P0 [] uu.1 uu.2 s s')):Fi W (n+3) 3 [.obj 1] [P0,.inst 0 []] Q:=by
 refine pr.fe g3 rfl ?_;refine dN (lz rfl) (kX (dN (lz rfl) (uI ?_)));refine pr.fe g1 rfl ?_;refine aAC (n:=n+1) pr (l:=u3) (ts:=[]) (fs:=[]) (s:=0) (s':=0) (o:=L3) (lz rfl) λ{s o}=>?_;refine pr.fe g2 rfl ?_;exact Yh pr (l:=AU) (p:=(u3.foldl cf [],[])) (o:=L3) (aA (b5 (Ow (l:=u3) (ts:=[])) _) (lz (a:=[].length+u3.length+AU.length) (b:=900) rfl)) (lz rfl) λ{s s' o}=>q
end
def iW(p:U.Place):List Atom:=[.str [p.1],.int (p.2:Nat)]
variable{p:U.Place}
def BF{q:U.Place}(h:iW p=iW q):p=q:=by
 injection h with h1 h2;injection h2 with h2;exact iQ (qH (Atom.str.inj h1)).1 (d6 (Atom.int.inj h2))
def bK(l:List (U.Place×U.Tm)):List (List Atom×V):=l.map λp=>(iW p.1,aC p.2)
def encL(lf:Nat->Int)(l:List Nat):List (Atom×V):=l.map λ(x:Nat)=>(Atom.int (x:Int),V.int (lf x))
variable{l:List (U.Place×U.Tm)}{t:U.Tm}{x:Nat}
section
variable{lf:Nat->Int}
def AG:aR (bK l) (iW p)=(aR l p).map aC:=by
 unfold bK
 induction l with
 |nil=>rfl|cons q l ih=>
  obtain⟨k,u⟩:=q;by_cases e:k=p
  .subst e;exact jI.trans (aF (Option.map aC) jI.symm)
  .exact(gu λq=>e (BF q)).trans (ih.trans (aF (Option.map aC) (gu e).symm))
def FX:bS (bK l) (iW p) (aC t)=bK (bS l p t):=by
 have e:((bK l).any λq=>decide (q.1=iW p))=l.any λq=>decide (q.1=p):=by
  unfold bK;rw[List.any_map];exact aF (l.any ·) (funext λq=>nS.mpr ⟨BF,aF iW⟩)
 unfold bS;rw[e]
 cases l.any λq=>decide (q.1=p) with
 |true=>
  rw[aI rfl,aI rfl];unfold bK;rw[gD,gD];refine ix λq y=>?_;obtain⟨k,u⟩:=q;show(if iW k=iW p then _ else _)=(iW (if k=p then(k,t) else(k,u)).1,aC (if k=p then(k,t) else(k,u)).2)
  by_cases h:k=p
  .rw[aI h,aI (aF iW h)]
  .rw[aD h,aD λq=>h (BF q)]
 |false=>
  rw[aD az,aD az];unfold bK;rw[b8];rfl
def th:aR (encL lf L) (.int (x:Int))=if x∈L then F5 (.int (lf x)) else L3:=by
 unfold encL
 induction L with
 |nil=>exact(aD dZ).symm|cons y L ih=>
  by_cases e:y=x
  .subst e;exact jI.trans (aI (.head _)).symm
  .refine(gu λq=>e (d6 (Atom.int.inj q))).trans (ih.trans ?_);by_cases m:x∈L
   .rw[aI m,aI (.tail _ m)]
   .rw[aD m,aD λq=>(bD.mp q).elim (λq=>e q.symm) m]
def OG:pI (encL lf L) (.int (x:Int))=encL lf (L.filter λn=>decide (U.Tm.v x≠.v n)):=by
 unfold pI encL;rw[List.filter_map];refine aF (List.map _) (List.filter_congr λy z=>nS.mpr ⟨λh q=>h (aF (λn:Nat=>Atom.int (n:Int)) (U.Tm.v.inj q).symm),λh q=>h (aF U.Tm.v (d6 (Atom.int.inj q)).symm)⟩)
def OH{z:Int}(h:x∉L):bS (encL lf L) (.int (x:Int)) (.int z)=encL (λm=>if m=x then z else lf m) (L++[x]):=by
 rw[rQ (by rw[th,aD h])]
 unfold encL;rw[b8];exact congr (aF _ (ix λj m=>aF (λz=>(Atom.int (j:Int),V.int z)) (aD λe:j=x=>h (e▸m)).symm)) (aF (λz=>[(Atom.int (x:Int),V.int z)]) (aI rfl).symm)
end
structure Fx where
 c1:Cell
 c2:Cell
 fs:List (Nat×Nat)
 c4:Cell
 code:List bO
 call:List U.Tm
 picks:List Nat
@[reducible] def hF(X:Fx)(b:Bd)(st:Nat)(evs:List U.Ev)(ks:List U.Tm)(G:AH):AH:=.inst 0 [(1599430227059,.obj 1),(109388970062261371602777502323,.obj 2),(25829672611287626355,.obj 3),(1861224063156749765404099319326667379,.obj 4)]::X.c1::X.c2::.lst (X.fs.map nV)::X.c4::.lst (X.code.map fz)::.dict (dQ b) st::.lst (X.call.map aC)::.lst (evs.map dD)::.lst (ks.map aC)::G
@[reducible] def fF(X:Fx)(h r sp:Nat)(lv:Int)(x8 x10 x11:Option V)(t:Fa):Fa:=F5 (.obj 0)::F5 (.obj 5)::F5 (.obj 6)::F5 (.obj 7)::F5 (.lst (eC X.picks))::F5 (.obj 8)::F5 (.obj 9)::F5 (.obj (h+10))::x8::F5 (.obj 11)::x10::x11::F5 (.obj (r+10))::F5 (.int sp)::F5 (.int lv)::t
structure Sd(G:AH)(h r:Nat)(l:List (U.Place×U.Tm))(hd:U.Place->Option U.Tm)(L:List Nat)(lf:Nat->Int)(rs:List U.Tm):Prop where
 hh:∃s,aB G h=F5 (.aX (bK l) s)
 hk:∀p,hd p=aR l p
 ll:∃s,aB G 1=F5 (.dict (encL lf L) s)
 rr:aB G r=F5 (.lst (rs.map aC))
variable{X:Fx}{b:Bd}{ks rs rs':List U.Tm}{r:Nat}{L':List Nat}
section
variable{h:Nat}{hd:U.Place->Option U.Tm}{lf:Nat->Int}
def jk{c d:Cell}(h1:aB G i=F5 c)(h2:aB G j=F5 d)(h:c≠d):i≠j:=λe=>h (ay (h1.symm.trans (e▸h2)))
def Sd.put(s:Sd G h r l hd L lf rs){k:Nat}:Sd (aa G (.aX (bK (bS l p t)) k) h) h r (bS l p t) (U.pt hd p t) L lf rs:=
 let ⟨_,h1⟩:=s.hh
 let ⟨_,h2⟩:=s.ll
 ⟨⟨_,cZ h1⟩,λq=>by unfold U.pt;rw[rP,s.hk],⟨_,eX h2 (jk h1 h2 Cell.noConfusion)⟩,eX s.rr (jk h1 s.rr Cell.noConfusion)⟩
def Sd.app(s:Sd G h r l hd L lf rs){g:AH}:Sd (app G g) h r l hd L lf rs:=⟨s.hh.elim λy a=>⟨_,dP a⟩,s.hk,s.ll.elim λy a=>⟨_,dP a⟩,dP s.rr⟩
def Sd.new(s:Sd G h r l hd L lf rs):Sd (Mine.app G [.lst (rs'.map aC)]) h (aH G) l hd L lf rs':=⟨(s.app).hh,s.hk,(s.app).ll,eA (k:=0)⟩
def Sd.rest(s:Sd G h r l hd L lf rs):Sd (aa G (.lst (rs'.map aC)) r) h r l hd L lf rs':=
 let ⟨_,h1⟩:=s.hh
 let ⟨_,h2⟩:=s.ll
 ⟨⟨_,eX h1 (jk s.rr h1 Cell.noConfusion)⟩,s.hk,⟨_,eX h2 (jk s.rr h2 Cell.noConfusion)⟩,cZ s.rr⟩
def Sd.pop(s:Sd G h r l hd L lf rs){k:Nat}:Sd (aa G (.dict (encL lf L') k) 1) h r l hd L' lf rs:=
 let ⟨_,h1⟩:=s.hh
 let ⟨_,h2⟩:=s.ll
 ⟨⟨_,eX h1 (jk h2 h1 Cell.noConfusion)⟩,s.hk,⟨_,cZ h2⟩,eX s.rr (jk h2 s.rr Cell.noConfusion)⟩
section
variable{Q:K1}
def lR(s:Sd G h r l hd L lf rs)(e:hd p=F5 t)(q:Q (aC t) (hF X b st evs ks G)):i8 W (.obj (h+10)) (bP p) (hF X b st evs ks G) Q:=by
 obtain⟨_,h1⟩:=s.hh;show ob (aB G h) _ _;rw[h1];show gJ (aR (bK l) (iW p)) _ _;rw[AG,<-s.hk,e];exact q
def H3(s:Sd G h r l hd L lf rs)(e:hd p=F5 t)(q:Q (.bool L0) (hF X b st evs ks G)):iM W .NotIn (bP p) (.obj (h+10)) (hF X b st evs ks G) Q:=by
 obtain⟨_,h1⟩:=s.hh;have z:wA .NotIn (hF X b st evs ks G) (bP p) (.obj (h+10))=F5 L0:=by
  show ob (ob (aB G h) L3 _) L3 _=_;rw[h1];show F5 (!(aR (bK l) (iW p)).isSome)=_;rw[AG,<-s.hk,e];rfl
 unfold iM;rw[z];exact q
def nz{Q:K2}(s:Sd G h r l hd L lf rs)(z:l.length<=aJ)(q:∀{G'},Sd G' h r (bS l p t) (U.pt hd p t) L lf rs->Q .aK F (hF X b st evs ks G')):mM W (.obj (h+10)) (bP p) (aC t) F (hF X b st evs ks G) Q:=by
 obtain⟨k,h1⟩:=s.hh;have q:=q (s.put (p:=p) (t:=t) (k:=k+1));rw[<-FX] at q;show ob (aB G h) _ _;rw[h1];exact⟨by unfold bK;rw[aQ];exact z,q⟩
def w4(s:Sd G h r l hd L lf rs)(q:Q (.bool (decide (x∈L))) (hF X b st evs ks G)):iM W .In (.int x) (.obj 11) (hF X b st evs ks G) Q:=by
 obtain⟨_,h1⟩:=s.ll;have z:wA .In (hF X b st evs ks G) (.int x) (.obj 11)=F5 (decide (x∈L)):=by
  show ob (aB G 1) L3 _=_;rw[h1];show F5 (aR (encL lf L) (.int (x:Int))).isSome=_;rw[th];by_cases m:x∈L
  .rw[aI m,bE m];rfl
  .rw[aD m,bC m];rfl
 unfold iM;rw[z];exact q
def UT(s:Sd G h r l hd L lf rs)(m:x∈L)(q:Q (.int (lf x)) (hF X b st evs ks G)):i8 W (.obj 11) (.int x) (hF X b st evs ks G) Q:=by
 obtain⟨_,h1⟩:=s.ll;show ob (aB G 1) _ _;rw[h1];show gJ (aR (encL lf L) (.int (x:Int))) _ _;rw[th,aI m];exact q
def UQ(s:Sd G h r l hd L lf rs)(q:Q (.int (if x∈L then lf x else -3)) (hF X b st evs ks G)):i5 W .ew (.obj 11) Q [.int x,.int (-3)] (hF X b st evs ks G):=by
 obtain⟨_,h1⟩:=s.ll;show ob (aB G 1) _ _;rw[h1];show Q ((aR (encL lf L) (.int (x:Int))).getD (.int (-3))) _;rw[th];by_cases m:x∈L
 .rw[aI m] at q ⊢;exact q
 .rw[aD m] at q ⊢;exact q
def US(s:Sd G h r l hd L lf rs)(m:x∈L)(z:L.length<=aJ)(q:∀{G'},Sd G' h r l hd (L.filter λn=>decide (U.Tm.v x≠.v n)) lf rs->Q (.int (lf x)) (hF X b st evs ks G')):i5 W .gM (.obj 11) Q [.int x] (hF X b st evs ks G):=by
 obtain⟨k,h1⟩:=s.ll;have q:=q (s.pop (k:=k+1));rw[<-OG] at q;show ob (aB G 1) _ _;rw[h1];refine⟨by unfold encL;rw[aQ];exact z,?_⟩
 show gJ (aR (encL lf L) (.int (x:Int))) _ _;rw[th,aI m];exact q
def Sd.VP(s:Sd G h r l hd L lf rs){lf':Nat->Int}{k:Nat}:Sd (aa G (.dict (encL lf' L') k) 1) h r l hd L' lf' rs:=
 let ⟨_,h1⟩:=s.hh
 let ⟨_,h2⟩:=s.ll
 ⟨⟨_,eX h1 (jk h2 h1 Cell.noConfusion)⟩,s.hk,⟨_,cZ h2⟩,eX s.rr (jk h2 s.rr Cell.noConfusion)⟩
def UR{z:Int}{Q:K2}(s:Sd G h r l hd L lf rs)(m:x∉L)(zl:L.length<=aJ)(q:∀{G'},Sd G' h r l hd (L++[x]) (λm=>if m=x then z else lf m) rs->Q .aK F (hF X b st evs ks G')):mM W (.obj 11) (.int x) (.int z) F (hF X b st evs ks G) Q:=by
 obtain⟨k,h1⟩:=s.ll;have q:=q (s.VP (L':=L++[x]) (lf':=λm=>if m=x then z else lf m) (k:=k+1))
 rw[<-OH m] at q;show ob (aB G 1) _ _;rw[h1];exact⟨by unfold encL;rw[aQ];exact zl,q⟩
end
end
def Iw:bO->List U.Place
 | .getVar _ q=>[q]| .jh p q=>[p,q]| .kU _ _ q=>[q]| .iJ p=>[p]| .ir p=>[p]| .jN p _=>[p]| .kn p _=>[p]| .hY p=>[p]|_=>[]
def Aw:bO->Bool
 | .ky _=>F6| .ir _=>F6| .iJ _=>F6| .ku _ _=>F6| .jo _=>F6|_=>L0
def uH(i:bO):V:=(kW (.str (lX i)::tO i)).getD .none
variable{i:bO}
def Ug:aB (V.str (lX i)::tO i) (tO i).length=F5 (uH i):=by cases i<;>rfl
def aAs:(eD ((lX i).take 6) [117,110,105,102,121,95]||eD ((lX i).take 4) [115,101,116,95])=Aw i:=by cases i<;>rfl
def rZ:(lX i).length<=aJ:=by cases i<;>exact lz rfl
structure Nk(l:List (U.Place×U.Tm))(F:U.FS)(m:Nat):Prop where
 sp:F.aE+2*m<=140000
 hz:l.length+2*m<=8000
 kz:F.kept.length+100*m<=1000000
 ez:F.evs.length+m<1000
 rz:F.rest.length<=2
 oz:F.loose.length+m<=4000
 lv:-1<=F.living
def Jn{k:Nat}:((k+1:Nat):Int)-1=k:=by rw[Int.natCast_add];exact DS _ _
variable{QQ:K2}{is:List bO}{F:U.FS}{sp:Nat}{lv:Int}{x10 x15 x16 x17 x18 x19 x21 x22 x23 x24 x25 x26 x27 x28 x29 x30:Option V}
section
variable(pr:a9 W)
theorem UO{l:List V}{z:Int}{Q:K1}(e:z=j)(h:aB l j=F5 v)(q:Q v H):i8 W (.tup l) (.int z) H Q:=by rw[e];exact bJ h q
def Rd(W:Wd)(n:Nat)(X:Fx)(QQ:K2)(is:List bO)(F:U.FS):Prop:=∀{l h r a st G x8 x10 x11 x15 x16 x17 x18 x19 x20 x21 x22 x23 x24 x25 x26 x27 x28 x29 x30},Sd G h r l F.hold F.loose F.ls F.rest->Nk l F is.length->X.code.drop a=is->
 dA 15 (aO W (n+155) wj) ((List.range' a is.length).map λi:Nat=>V.int (i:Int)) (fF X h r F.aE F.living x8 x10 x11 [x15,x16,x17,x18,x19,x20,x21,x22,x23,x24,x25,x26,x27,x28,x29,x30]) (hF X F.b st F.evs F.kept G) QQ
include pr
def V8{Q:K1}(q:Q (.lst ((Iw i).map bP)) H):Fi W (n+1) 74 [fz i] H Q:=by
 refine pr.fe QD rfl ?_;cases i<;>exact mw (lz rfl) q
def BW{k:Bool}{z:Int}{Q:K1}(q:Q (aC (.c k z)) H):Fi W (n+1) 75 [encC k z] H Q:=by
 refine pr.fe QE rfl ?_;cases k<;>exact q
omit pr
theorem V9{h:Nat}{hd:U.Place->Option U.Tm}{lf:Nat->Int}{Q:K2}(s:Sd G h r l hd L lf rs){ps:List U.Place}:∀{x20:Option V},(∀p∈ps,∃t,hd p=F5 t)->(∀{x20},Q .aK (fF X h r sp lv x8 x10 x11 [x15,x16,x17,x18,x19,x20,x21,x22,x23,x24,x25,x26,x27,x28,x29,x30]) (hF X b st evs ks G))->dA 20 (aO W n HV) (ps.map bP) (fF X h r sp lv x8 x10 x11 [x15,x16,x17,x18,x19,x20,x21,x22,x23,x24,x25,x26,x27,x28,x29,x30]) (hF X b st evs ks G) Q:=by
 induction ps with
 |nil=>exact λy q=>q|cons p ps ih=>
  intro x20 hp q;obtain⟨t,ht⟩:=hp p (.head _);exact fL λK k=>H3 s ht (k (ih (λp m=>hp p (.tail _ m)) q))
include pr
def dt(nd:∀p∈Iw i,∃t,F.hold p=F5 t)(ru:Aw i=!fN F.rest)
  (q:∀{l h r a st G x8 x10 x11 x20 x21 x22 x23 x24 x25 x26 x27 x28 x29 x30} (K:BT),Sd G h r l F.hold F.loose F.ls F.rest->Nk l F (is.length+1)->aB X.code a=F5 i->X.code.drop (a+1)=is->(∀{Fr H},dA 15 (aO W (n+155) wj) ((List.range' (a+1) is.length).map λi:Nat=>V.int (i:Int)) Fr H QQ->K Fr H QQ)->aO W (n+155) (dp 6 wj) (fF X h r F.aE F.living x8 x10 x11 [F5 (.int a),F5 (fz i),F5 (.str (lX i)),F5 (uH i),F5 (.bool F6),x20,x21,x22,x23,x24,x25,x26,x27,x28,x29,x30]) (hF X F.b st F.evs F.kept G) (gQ K QQ)):Rd W n X QQ (i::is) F:=by
 intro l h r a st G x8 x10 x11 x15 x16 x17 x18 x19 x20 x21 x22 x23 x24 x25 x26 x27 x28 x29 x30 s nk hd;obtain⟨d1,d2⟩:=te hd;refine fL λK k=>bz 1 (bJ (pU d1) (bH (bz 4 ?_)));refine UO (j:=(tO i).length) Jn Ug (V8 pr (V9 s nd λ{x20}=>bH (bz 1 ?_)));refine sA (eg.yC rZ) ?_;have rn:aB (hF X F.b st F.evs F.kept G) (r+10)=F5 (.lst (F.rest.map aC)):=s.rr;have e:=aAs (i:=i);have fin:∀{x:Bool},x=Aw i->(!(x == !fN (F.rest.map aC)))=L0:=λh=>by rw[h,ru,Bx];cases fN F.rest<;>rfl
 refine c7 (λe1=>?_) λe1=>?_
 .rw[e1,Bool.true_or] at e;refine BO rn (mn kG.bool (aZ (fin e) (bH (q K s nk d1 d2 k))))
 .rw[e1,Bool.false_or] at e;refine sA (eg.yC rZ) (BO rn (mn kG.bool (aZ (fin e) (bH (q K s nk d1 d2 k)))))
end
def Sd.eq{h:Nat}{hd:U.Place->Option U.Tm}{lf:Nat->Int}(s:Sd G h r l hd L lf rs)(e:rs=rs'):Sd G h r l hd L lf rs':=e▸s
def p2:a+1+1+2*m<=a+2*(m+1):=by
 rw[mG,<-bT,iy (a+1) 1,iy a 1];exact au _
variable{r:List U.Tm}
section
variable{h:U.Place->Option U.Tm}
def Nk.lt(k:Nk l F m):l.length<=aJ:=aA (aW _ _) (aA k.hz (lz rfl))
def Nk.le(k:Nk l F (m+1)):Nk l F m:=⟨aA (dC (dc 2 (cJ m)) _) k.sp,aA (dC (dc 2 (cJ m)) _) k.hz,aA (dC (dc 100 (cJ m)) _) k.kz,Dx k.ez,k.rz,gE k.oz,k.lv⟩
def Nk.put(k:Nk l F (m+1)):Nk (bS l p t) {F with hold:=h} m:=⟨k.le.sp,aA (b5 nj _) (aA (bX (vX _ _)) (aA (dC (cJ _) _) k.hz)),k.le.kz,k.le.ez,k.rz,k.le.oz,k.lv⟩
def Nk.tl(k:Nk l F m)(h:F.rest=t::r):r.length<=2:=gE (aA (bX (aF List.length h.symm)) k.rz)
def Nk.set(k:Nk l F m)(hr:rs.length<=2)(hL:L.length+m<=4000):Nk l {F with b:=b,rest:=rs,loose:=L} m:=⟨k.sp,k.hz,k.kz,k.ez,hr,hL,k.lv⟩
end
variable{i:Nat}{S:Sb}{c:Bool}
section
variable(pr:a9 W){q:U.Place}
include pr
def YB(hr:F.rest=[])(hq:F.hold q=F5 t)(hR:Rd W n X QQ is {F with hold:=U.pt F.hold p t}):Rd W n X QQ (.getVar p q::is) F:=
 dt pr (F:=F) (i:=.getVar p q) (λx m=>bB.mp m▸⟨t,hq⟩) (by rw[hr];rfl) λK s nk d1 d2 k=>lR s hq (nz s nk.lt λs=>k (hR s nk.put d2))
def YI(hr:F.rest=[])(hq:F.hold p=F5 t)(hR:Rd W n X QQ is {F with hold:=U.pt F.hold q t}):Rd W n X QQ (.jN p q::is) F:=
 dt pr (F:=F) (i:=.jN p q) (λx m=>bB.mp m▸⟨t,hq⟩) (by rw[hr];rfl) λK s nk d1 d2 k=>lR s hq (nz s nk.lt λs=>k (hR s nk.put d2))
def X7(hr:F.rest=[])(hR:Rd W n X QQ is {F with living:=-1}):Rd W n X QQ (.hZ::is) F:=
 dt pr (F:=F) (i:=.hZ) (λy m=>memN m) (by rw[hr];rfl) λK s nk d1 d2 k=>k (hR s ⟨nk.le.sp,nk.le.hz,nk.le.kz,nk.le.ez,nk.le.rz,nk.le.oz,Int.le_refl _⟩ d2)
omit pr in
theorem iY{l:List U.Tm}{Q:K1}(hc:aB H i=F5 (.lst (l.map aC)))(q:Q (.obj (aH H)) (app H [.lst ((l.drop j).map aC)])):Seq (Prim W .iS [.obj i,.int j] H) Q:=by
 rw[cY,cQ,List.map_drop] at q;exact Ca (eg.VT (.cell (ah▸hc)) .cell) q
def YQ(hr:F.rest=t::r)(hR:Rd W n X QQ is {F with hold:=U.pt F.hold p t,rest:=r}):Rd W n X QQ (.ky p::is) F:=
 dt pr (F:=F) (i:=.ky p) (λy m=>memN m) (by rw[hr];rfl) λK s nk d1 d2 k=>by
  have s:=s.eq hr;exact fW (j:=0) s.rr rfl (nz s nk.lt λs=>iY s.rr (k (hR (s.new (rs':=r)) (nk.put.set (nk.tl hr) nk.le.oz) d2)))
def YR(h0:F.rest≠[])(hm:m<=F.rest.length)(hR:Rd W n X QQ is {F with rest:=F.rest.drop m}):Rd W n X QQ (.jo m::is) F:=
 dt pr (F:=F) (i:=.jo m) (λy m=>memN m) (by cases h:F.rest with|nil=>exact absurd h h0|cons=>rfl) λK s nk d1 d2 k=>by
  exact jJ s.rr (aZ (by rw[aQ];exact Bc.trans (bC (gF.mpr hm))) (iY s.rr (k (hR (s.new (rs':=F.rest.drop m)) (nk.le.set (aA (bX qM) (aA (oj _ _) nk.rz)) nk.le.oz) d2))))
def jK{s:U.Tm}{Q:K1}(M:af F.b S)(hq:BQ (aU F.aE) F.b)(z:F.aE<=140000)(hs:aU F.aE s)(ht:aU F.aE t)(q1:∀{b' S' st g},U.Met F.b S s t b' S'->Q (.bool F6) (hF X b' st F.evs F.kept (app G g)))(q0:fu F.b s t->∀{b st g},Q (.bool L0) (hF X b st F.evs F.kept (app G g))):Fi W (n+3) 71 [.obj 6,aC s,aC t] (hF X F.b st F.evs F.kept G) Q:=
 have z':F.aE<=150000:=aA z ⋯
 have lt:6<(hF X F.b st F.evs F.kept G).length:=bw (by decide:6<10) (cI 10 G.length)
 Ii pr (a:=6) lt (λp m=>⟨(hq p m).1.mono z',(hq p m).2.mono z'⟩) (hs.mono z') (ht.mono z') M rfl (λm y=>q1 m) q0
omit pr in
theorem Nk.z(k:Nk l F m):F.aE<=140000:=aA (aW _ _) k.sp
variable{Fl:List U.Ev->Prop}(hF:∀{evs},Fl evs->∀{b st ks G Fr},QQ (.ret (.tup [.obj 8,.obj 9,.str Aae])) Fr (Mine.hF X b st evs ks G))
include hF
def X9{z:Int}(hr:F.rest=[])(hq:F.hold q=F5 t)(M:af F.b S)(bq:BQ (aU F.aE) F.b)(ht:aU F.aE t)(q1:∀{b' S'},U.Met F.b S t (.c c z) b' S'->Rd W n X QQ is {F with b:=b'})(q0:fu F.b t (.c c z)->Fl F.evs):Rd W n X QQ (.kU c z q::is) F:=
 dt pr (F:=F) (i:=.kU c z q) (λx m=>bB.mp m▸⟨t,hq⟩) (by rw[hr];rfl) λK s nk d1 d2 k=>
  lR s hq (BW pr (jK pr (t:=.c c z) M bq nk.z ht .c (λm=>k (q1 m s.app (nk.le.set (rs:=F.rest) nk.rz nk.le.oz) d2)) λu=>hF (q0 u)))
def YM{z:Int}(hr:F.rest=t::r)(M:af F.b S)(bq:BQ (aU F.aE) F.b)(ht:aU F.aE t)(q1:∀{b' S'},U.Met F.b S t (.c c z) b' S'->Rd W n X QQ is {F with b:=b',rest:=r})(q0:fu F.b t (.c c z)->Fl F.evs):Rd W n X QQ (.ku c z::is) F:=
 dt pr (F:=F) (i:=.ku c z) (λy m=>memN m) (by rw[hr];rfl) λK s nk d1 d2 k=>by
  have s:=s.eq hr;exact fW (j:=0) s.rr rfl (BW pr (jK pr (t:=.c c z) M bq nk.z ht .c (λm=>iY s.app.rr (k (q1 m (s.app.new (rs':=r)) (nk.le.set (nk.tl hr) nk.le.oz) d2))) λu=>iY s.app.rr (hF (q0 u))))
end
variable{r:Nat}
section
variable{k:Nat}{Q:K1}
def YS(hc:aB H i=F5 (.dict kvs k)):at_ L0 H (.obj i) (λy c=>lq .gM c)=F6:=by
 show ob (aB H i) L0 _=F6;rw[hc];rfl
def js(e:u=.v m)(q:Q (.int (m:Nat)) H):i8 W (aC u) (.int 1) H Q:=by rw[e];exact q
def xQ(h:∀m,u=.v m->m∉L):(L.filter λn=>decide (u≠.v n))=L:=List.filter_eq_self.mpr λn m=>bE λe=>h n e m
def xR(h:u.bf=L0)(m:Nat)(e:u=.v m){P:Prop}:P:=nomatch h.symm.trans (aF U.Tm.bf e)
def Sd.wK{h:Nat}{hd:U.Place->Option U.Tm}{lf:Nat->Int}(s:Sd G h r l hd L lf rs)(e:L'=L):Sd G h r l hd L' lf rs:=e▸s
def LS{h:Nat}{hd:U.Place->Option U.Tm}{lf:Nat->Int}(e:u=.v m)(s:Sd G h r l hd L lf rs)(hm:m∈L)(z:L.length<=4000)(q:∀{G'},Sd G' h r l hd (L.filter λn=>decide (u≠.v n)) lf rs->Q (.int (lf m)) (hF X b st evs ks G')):i5 W .gM (.obj 11) Q [.int m] (hF X b st evs ks G):=US s hm (aA z (lz rfl)) (e▸q)
def J4{h:Nat}{hd:U.Place->Option U.Tm}{lf:Nat->Int}(s:Sd G h r l hd L lf rs):at_ L0 (hF X b st evs ks G) (.obj 11) (λy c=>lq .gM c)=F6:=s.ll.elim λy e=>YS (i:=11) e
end
section
variable(pr:a9 W){q:U.Place}{x:U.Tm}{r:List U.Tm}{Fl:List U.Ev->Prop}(hF:∀{evs},Fl evs->∀{b st ks G Fr},QQ (.ret (.tup [.obj 8,.obj 9,.str Aae])) Fr (Mine.hF X b st evs ks G))
include pr hF
def YO(hr:F.rest=x::r)(hp:F.hold p=F5 t)(w:U.Walk F.b t u)(nl:∀n,u=.v n->n∉F.loose)(M:af F.b S)(bq:BQ (aU F.aE) F.b)(hu:aU F.aE u)(hx:aU F.aE x)(q1:∀{b' S'},U.Met F.b S x u b' S'->Rd W n X QQ is {F with b:=b',rest:=r})(q0:fu F.b x u->Fl F.evs):Rd W n X QQ (.iJ p::is) F:=
 dt pr (F:=F) (i:=.iJ p) (λx m=>bB.mp m▸⟨t,hp⟩) (by rw[hr];rfl) λK s nk d1 d2 k=>lR s hp (k7 pr rfl w (fZ (c7
   (λe1=>jG (eN.symm.trans e1) λm e=>js e (w4 s (aZ (bC (nl m e)) (fW (j:=0) (s.eq hr).rr rfl (jK pr M bq nk.z hx hu (λm=>iY (s.eq hr).app.rr (k (q1 m (s.app.new (rs':=r)) (nk.le.set (nk.tl hr) nk.le.oz) d2))) λu=>iY (s.eq hr).app.rr (hF (q0 u)))))))
   λe0=>fW (j:=0) (s.eq hr).rr rfl (jK pr M bq nk.z hx hu (λm=>iY (s.eq hr).app.rr (k (q1 m (s.app.new (rs':=r)) (nk.le.set (nk.tl hr) nk.le.oz) d2))) λu=>iY (s.eq hr).app.rr (hF (q0 u))))))
omit pr hF in
theorem Nk.CJ(k:Nk l F m):F.loose.length<=4000:=aA (aW _ _) k.oz
omit pr hF in
theorem Nk.r6{f:Nat->Bool}(k:Nk l F (m+1)):(F.loose.filter f).length+m<=4000:=aA (b5 (qN _ _) _) k.le.oz
def YN(hr:F.rest=x::r)(hp:F.hold p=F5 t)(w:U.Walk F.b t u)(M:af F.b S)(bq:BQ (aU F.aE) F.b)(hu:aU F.aE u)(hx:aU F.aE x)(q1:∀{b' S'},U.Met F.b S x u b' S'->Rd W n X QQ is {F with b:=b',rest:=r,loose:=F.loose.filter λn=>decide (u≠.v n)})(q0:fu F.b x u->Fl F.evs):Rd W n X QQ (.ir p::is) F:=
 dt pr (F:=F) (i:=.ir p) (λx m=>bB.mp m▸⟨t,hp⟩) (by rw[hr];rfl) λK s nk d1 d2 k=>lR s hp (k7 pr rfl w (fZ (c7
   (λe1=>jG (eN.symm.trans e1) λm e=>js e (w4 s (c7
    (λi1=>ae (J4 s) (js e (LS e s (dG i1) nk.CJ λs=>fW (j:=0) (s.eq hr).rr rfl (jK pr M bq nk.z hx hu (λm=>iY (s.eq hr).app.rr (k (q1 m ((s).app.new (rs':=r)) (nk.le.set (nk.tl hr) nk.r6) d2))) λu=>iY (s.eq hr).app.rr (hF (q0 u))))))
    λi0=>fW (j:=0) (s.eq hr).rr rfl (jK pr M bq nk.z hx hu (λm=>iY (s.eq hr).app.rr (k (q1 m ((s.wK (xQ λm' e'=>U.Tm.v.inj (e.symm.trans e')▸uS i0)).app.new (rs':=r)) (nk.le.set (nk.tl hr) nk.r6) d2))) λu=>iY (s.eq hr).app.rr (hF (q0 u))))))
   λe0=>fW (j:=0) (s.eq hr).rr rfl (jK pr M bq nk.z hx hu (λm=>iY (s.eq hr).app.rr (k (q1 m ((s.wK (xQ λm' e'=>xR (eN.symm.trans e0) m' e')).app.new (rs':=r)) (nk.le.set (nk.tl hr) nk.r6) d2))) λu=>iY (s.eq hr).app.rr (hF (q0 u))))))
end
def old(L:List Nat)(x:Nat):Int:=if x∈L then -2 else -3
def JQ{o:Int}(h:o<old L x)(ho:-3<=o):x∈L:=sa λm=>by unfold old at h;rw[aD m] at h;exact absurd h (mB.mpr ho)
variable{y:Nat}
def Wt(h:¬old L y<old L x)(m:x∈L):y∈L:=sa λm'=>h (by unfold old;rw[aI m,aD m'];decide)
def Ws{x':Nat}(e:x'=x)(h:¬(-3:Int)<old L x):x'∉L:=λm=>h (by unfold old;rw[aI (e▸m)];decide)
def Wq:-3<=old L y:=by
 unfold old;by_cases m:y∈L
 .rw[aI m];decide
 .rw[aD m];decide
def CV{h:Nat}{hd:U.Place->Option U.Tm}{lf:Nat->Int}(s:Sd G h r l hd L lf rs):at_ L0 (hF X b st evs ks G) (.obj 11) (λy c=>lq .ew c)=F6:=s.ll.elim λy e=>J3 (a:=11) e
def BL{Q:K1}{h:Nat}{hd:U.Place->Option U.Tm}{lf:Nat->Int}(s:Sd G h r l hd L lf rs)(hz:∀n∈L,lf n=-2)(q:Q (.int (old L x)) (hF X b st evs ks G)):i5 W .ew (.obj 11) Q [.int x,.int (-3)] (hF X b st evs ks G):=UQ s (by
 unfold old at q;by_cases m:x∈L
 .rw[aI m] at q ⊢;rw[hz x m];exact q
 .rw[aD m] at q ⊢;exact q)
variable{r:List U.Tm}
section
variable(pr:a9 W){q:U.Place}{t' u':U.Tm}{Fl:List U.Ev->Prop}(hF:∀{evs},Fl evs->∀{b st ks G Fr},QQ (.ret (.tup [.obj 8,.obj 9,.str Aae])) Fr (Mine.hF X b st evs ks G))
include pr hF
def YA(hr:F.rest=[])(hp:F.hold p=F5 t)(hq:F.hold q=F5 u)(w1:U.Walk F.b t t')(w2:U.Walk F.b u u')(M:af F.b S)(bq:BQ (aU F.aE) F.b)(b1:aU F.aE t')(b2:aU F.aE u')(hz:∀n∈F.loose,F.ls n=-2)
  (k0:∀{s1 s2},(s1=u'/\s2=t'/\∃x,u'=.v x/\x∈F.loose)\/(s1=t'/\s2=u'/\∀x,u'=.v x->x∈F.loose->∃y,t'=.v y/\y∈F.loose)->(∀{b' S'},U.Met F.b S s1 s2 b' S'->Rd W n X QQ is {F with b:=b'})/\(fu F.b s1 s2->Fl F.evs)):Rd W n X QQ (.jh p q::is) F:=
 dt pr (F:=F) (i:=.jh p q) (λx m=>(bD.mp m).elim (λe=>e▸⟨t,hp⟩) λm=>bB.mp m▸⟨u,hq⟩) (by rw[hr];rfl) λK s nk d1 d2 k=>
  lR s hp (k7 pr rfl w1 (lR s hq (k7 pr rfl w2 (fZ (c7
   (λe1=>jG (eN.symm.trans e1) λy ey=>ae (CV s) (js ey (BL s hz (fZ (c7
    (λf1=>jG (eN.symm.trans f1) λx ex=>ae (CV s) (js ex (BL s hz (c7
     (λh=>have z:=k0 (.inl ⟨rfl,rfl,x,ex,JQ (dG h) (Wq (y:=y))⟩);jK pr M bq nk.z b2 b1 (λm=>k (z.1 m s.app (nk.le.set (rs:=F.rest) nk.rz nk.le.oz) d2)) λu=>hF (z.2 u))
     λh=>have z:=k0 (.inr ⟨rfl,rfl,λx' e' m'=>⟨y,ey,Wt (uS h) (U.Tm.v.inj (e'.symm.trans ex)▸m')⟩⟩);jK pr M bq nk.z b1 b2 (λm=>k (z.1 m s.app (nk.le.set (rs:=F.rest) nk.rz nk.le.oz) d2)) λu=>hF (z.2 u)))))
    λf0=>have z:=k0 (.inr ⟨rfl,rfl,λx' e' j=>xR (eN.symm.trans f0) x' e'⟩);jK pr M bq nk.z b1 b2 (λm=>k (z.1 m s.app (nk.le.set (rs:=F.rest) nk.rz nk.le.oz) d2)) λu=>hF (z.2 u))))))
   λe0=>fZ (c7
    (λf1=>jG (eN.symm.trans f1) λx ex=>ae (CV s) (js ex (BL s hz (c7
     (λh=>have z:=k0 (.inl ⟨rfl,rfl,x,ex,JQ (o:=-3) (dG h) (Int.le_refl _)⟩);jK pr M bq nk.z b2 b1 (λm=>k (z.1 m s.app (nk.le.set (rs:=F.rest) nk.rz nk.le.oz) d2)) λu=>hF (z.2 u))
     λh=>have z:=k0 (.inr ⟨rfl,rfl,λx' e' m'=>absurd m' (Ws (U.Tm.v.inj (e'.symm.trans ex)) (uS h))⟩);jK pr M bq nk.z b1 b2 (λm=>k (z.1 m s.app (nk.le.set (rs:=F.rest) nk.rz nk.le.oz) d2)) λu=>hF (z.2 u)))))
    λf0=>have z:=k0 (.inr ⟨rfl,rfl,λx' e' j=>xR (eN.symm.trans f0) x' e'⟩);jK pr M bq nk.z b1 b2 (λm=>k (z.1 m s.app (nk.le.set (rs:=F.rest) nk.rz nk.le.oz) d2)) λu=>hF (z.2 u)))))))
end
def p1:a+1+2*m<=a+2*(m+1):=by
 rw[mG,<-bT,iy a 1];exact cJ _
def Fb{f k:Nat}:V.tup [.str [115],.int f,.tup ((b6 (cR f k)).map aC)]=aC (cR f k):=by
 unfold cR;by_cases e:f=32
 .rw[aI e];rfl
 .rw[aD e];rfl
section
variable{l:List V}{Q:K1}
def H9(hc:aB H i=F5 (.lst l))(q:Q (.tup l) H):qC W .tuple (.obj i) H Q:=by
 show ob (ob (aB H i) L3 _) _ _;rw[hc];exact q
end
variable{rr:Nat}{x20:Option V}{l':List (U.Place×U.Tm)}
section
variable(pr:a9 W){q:U.Place}{f:Nat}
def Ar(X:Fx):Prop:=∀{f},(f=32\/f=0\/f=33)->∃a,aB X.fs f=F5 (a,U.ar f)
theorem lT{h:Nat}{hd:U.Place->Option U.Tm}{lf:Nat->Int}{Fr:Fa}{Q:K2}(e:v=aC t)(s:Sd G h rr l hd L lf rs)(z:l.length<=aJ)(q:∀{G'},Sd G' h rr (bS l p t) (U.pt hd p t) L lf rs->Q .aK Fr (hF X b st evs ks G')):mM W (.obj (h+10)) (bP p) v Fr (hF X b st evs ks G) Q:=e▸nz s z q
include pr
def tN{k:Nat}{Q:K1}(h:aB X.fs f=F5 (a,k))(q:Q (.int (k:Nat)) (hF X b st evs ks G)):Fi W (n+1) 9 [.obj 0,.int (f:Nat)] (hF X b st evs ks G) Q:=by
 refine pr.fe g9 rfl ?_;exact bJ (pU h) q
omit pr
theorem I5{h:Nat}{hd:U.Place->Option U.Tm}{lf:Nat->Int}{Q:K2}(s:Sd G h rr l hd L lf [])(q:∀{x8 G'},Sd G' h rr l hd L lf (b6 (cR f sp))->Q .aK (fF X h rr (sp+U.ar f) lv x8 x10 x11 [x15,x16,x17,x18,x19,x20,x21,x22,x23,x24,x25,x26,x27,x28,x29,x30]) (hF X b st evs ks G')):dA 8 (aO W n HW) (jj (U.ar f)) (fF X h rr sp lv x8 x10 x11 [x15,x16,x17,x18,x19,x20,x21,x22,x23,x24,x25,x26,x27,x28,x29,x30]) (hF X b st evs ks G) Q:=by
 unfold U.ar cR at*;by_cases e:f=32
 .rw[aI e,aI e] at q;rw[aI e];exact ae (iq s.rr) (dK s.rr (lz rfl) (q (s.rest (rs':=[.v (sp+1)]))))
 .rw[aD e,aD e] at q;rw[aD e];have s1:=s.rest (rs':=[.v (sp+1)]);exact ae (iq s.rr) (dK s.rr (lz rfl) (ae (iq s1.rr) (dK s1.rr (lz rfl) (q (s1.rest (rs':=[.v (sp+1),.v (sp+2)]))))))
theorem Nk.new{h:U.Place->Option U.Tm}{k:Nat}(z:Nk l F (k+1))(hl:l'.length<=l.length+1)(hr:rs.length<=2):Nk l' {F with b:=b,hold:=h,rest:=rs,aE:=F.aE+U.ar f} k:=⟨by
 have h:=z.sp;unfold U.ar
 have:F.aE+2+2*k<=140000:=by rw[bT,bW 2];exact h
 by_cases e:f=32
 .rw[aI e];exact aA (b5 (cJ _) _) this
 .rw[aD e];exact this,aA (b5 hl _) (aA p1 z.hz),z.le.kz,z.le.ez,hr,z.le.oz,z.lv⟩
theorem I4{k:Nat}:(b6 (cR f k)).length<=2:=by
 unfold cR;by_cases e:f=32
 .rw[aI e];exact cJ 1
 .rw[aD e];exact au 2
include pr
omit pr in
theorem EV:U.ar f<=aJ:=by
 unfold U.ar;by_cases e:f=32
 .rw[aI e];exact lz rfl
 .rw[aD e];exact lz rfl
def YF(har:Ar X)(hf:f=32\/f=0\/f=33)(hr:F.rest=[])(hR:Rd W n X QQ is {F with hold:=U.pt F.hold q (cR f F.aE),rest:=b6 (cR f F.aE),aE:=F.aE+U.ar f}):Rd W n X QQ (uX f q::is) F:=by
 unfold uX;by_cases e0:f=0
 .subst e0;rw[aI rfl];exact dt pr (F:=F) (i:=.uY q) (λy m=>memN m) (by rw[hr];rfl) λK s nk d1 d2 k=>by
   obtain⟨a,ha⟩:=har hf;refine Ca (eg.Kv rZ) (tN pr ha ⟨EV,I5 (s.eq hr) λs=>?_⟩);exact H9 s.rr (sA (eg.yC rZ) (lT (p:=q) Fb s nk.lt λs=>k (hR s (nk.new nj I4) d2)))
 .rw[aD e0];exact dt pr (F:=F) (i:=.putStr f q) (λy m=>memN m) (by rw[hr];rfl) λK s nk d1 d2 k=>by
   obtain⟨a,ha⟩:=har hf;refine Ca (eg.Kv rZ) (tN pr ha ⟨EV,I5 (s.eq hr) λs=>?_⟩);exact H9 s.rr (sA (eg.yC rZ) (lT (p:=q) Fb s nk.lt λs=>k (hR s (nk.new nj I4) d2)))
end
section
variable(pr:a9 W){q:U.Place}{f:Nat}
theorem Nk.one{h:U.Place->Option U.Tm}{k:Nat}{lf:Nat->Int}(z:Nk l F (k+1))(hl:l'.length<=l.length+2)(hL:L.length<=F.loose.length+1):Nk l' {F with hold:=h,aE:=F.aE+1,loose:=L,ls:=lf} k:=⟨aA (p1 (a:=F.aE)) z.sp,aA (b5 hl _) (aA p2 z.hz),z.le.kz,z.le.ez,z.rz,aA (b5 hL _) (aA (bX (vX _ _)) z.oz),z.lv⟩
theorem Nk.putL{h:U.Place->Option U.Tm}{k:Nat}(z:Nk l F (k+1))(hL:L.length+k<=4000):Nk (bS l p t) {F with hold:=h,loose:=L} k:=have y:=z.put (p:=p) (t:=t) (h:=h);⟨y.sp,y.hz,y.kz,y.ez,y.rz,hL,y.lv⟩
theorem Xw{h:U.Place->Option U.Tm}:U.pt (U.pt h p t) p t=U.pt h p t:=funext λq=>by
 unfold U.pt;by_cases e:q=p
 .rw[aI e,aI e]
 .rw[aD e]
theorem Sd.OM{h r:Nat}{hd hd':U.Place->Option U.Tm}{lf:Nat->Int}(s:Sd G h r l hd L lf rs)(e:hd=hd'):Sd G h r l hd' L lf rs:=e▸s
theorem CP{q:U.Place}:(bS (bS l p t) q u).length<=l.length+2:=aA nj (cP nj)
include pr
def YL(hr:F.rest=[])(hq:q.1=97)(hR:Rd W n X QQ is {F with hold:=U.pt F.hold q (.v (F.aE+1)),aE:=F.aE+1}):Rd W n X QQ (.lj q::is) F:=by
 obtain⟨a,m⟩:=q;obtain rfl:a=97:=hq;exact dt pr (F:=F) (i:=.lj (97,m)) (λy m=>memN m) (by rw[hr];rfl) λK s nk d1 d2 k=>
  lT (p:=(97,m)) (t:=.v (F.aE+1)) rfl s nk.lt λs=>lT (p:=(97,m)) (t:=.v (F.aE+1)) rfl s (nk.put (h:=F.hold)).lt λs=>k (hR (s.OM Xw) (nk.one (L:=F.loose) (lf:=F.ls) CP (cJ _)) d2)
def YJ(hr:F.rest=[])(hR:Rd W n X QQ is {F with hold:=U.pt (U.pt F.hold (tP j) (.v (F.aE+1))) q (.v (F.aE+1)),aE:=F.aE+1}):Rd W n X QQ (.kq (tP j) q::is) F:=
 dt pr (F:=F) (i:=.kq (tP j) q) (λy m=>memN m) (by rw[hr];rfl) λK s nk d1 d2 k=>
  lT (p:=tP j) (t:=.v (F.aE+1)) rfl s nk.lt λs=>lT (p:=q) (t:=.v (F.aE+1)) rfl s (nk.put (h:=F.hold)).lt λs=>k (hR s (nk.one (L:=F.loose) (lf:=F.ls) CP (cJ _)) d2)
def YK(hr:F.rest=[])(low:∀x∈F.loose,x<=F.aE)(hR:Rd W n X QQ is {F with hold:=U.pt (U.pt F.hold (yP j) (.v (F.aE+1))) q (.v (F.aE+1)),aE:=F.aE+1,loose:=F.loose++[F.aE+1],ls:=λm=>if m=F.aE+1 then(j:Int) else F.ls m}):Rd W n X QQ (.kq (yP j) q::is) F:=
 dt pr (F:=F) (i:=.kq (yP j) q) (λy m=>memN m) (by rw[hr];rfl) λK s nk d1 d2 k=>
  lT (p:=yP j) (t:=.v (F.aE+1)) rfl s nk.lt λs=>lT (p:=q) (t:=.v (F.aE+1)) rfl s (nk.put (h:=F.hold)).lt λs=>UR (x:=F.aE+1) (z:=(j:Int)) s (λm=>Nat.not_succ_le_self _ (low _ m)) (aA nk.CJ (lz rfl)) λs=>k (hR s (nk.one CP (bX a8)) d2)
def YH(hr:F.rest=[])(hp:F.hold p=F5 t)(w:U.Walk F.b t u)(hR:Rd W n X QQ is {F with hold:=U.pt F.hold q u,loose:=F.loose.filter λn=>decide (u≠.v n)}):Rd W n X QQ (.kn p q::is) F:=
 dt pr (F:=F) (i:=.kn p q) (λx m=>bB.mp m▸⟨t,hp⟩) (by rw[hr];rfl) λK s nk d1 d2 k=>lR s hp (k7 pr rfl w (fZ (c7
   (λe1=>jG (eN.symm.trans e1) λm e=>js e (w4 s (c7
    (λi1=>ae (J4 s) (js e (LS e s (dG i1) nk.CJ λs=>nz (p:=q) s nk.lt λs=>k (hR s (nk.putL nk.r6) d2))))
    λi0=>nz (p:=q) s nk.lt λs=>k (hR (s.wK (xQ λm' e'=>U.Tm.v.inj (e.symm.trans e')▸uS i0)) (nk.putL nk.r6) d2))))
   λe0=>nz (p:=q) s nk.lt λs=>k (hR (s.wK (xQ λm' e'=>xR (eN.symm.trans e0) m' e')) (nk.putL nk.r6) d2))))
def YG{z:Int}(hr:F.rest=[])(hR:Rd W n X QQ is {F with hold:=U.pt F.hold q (.c c z)}):Rd W n X QQ (.lh c z q::is) F:=
 dt pr (F:=F) (i:=.lh c z q) (λy m=>memN m) (by rw[hr];rfl) λK s nk d1 d2 k=>BW pr (nz (t:=.c c z) s nk.lt λs=>k (hR s nk.put d2))
def YC(hr:F.rest=[])(hR:Rd W n X QQ is {F with hold:=U.pt F.hold p (.c L0 U.e6)}):Rd W n X QQ (.level p::is) F:=
 dt pr (F:=F) (i:=.level p) (λy m=>memN m) (by rw[hr];rfl) λK s nk d1 d2 k=>lT (p:=p) (t:=.c L0 U.e6) rfl s nk.lt λs=>k (hR s nk.put d2)
def YD(hr:F.rest=[])(hR:Rd W n X QQ is {F with hold:=U.pt F.hold p (.c L0 (5000+(F.evs.length:Int)))}):Rd W n X QQ (.mark p::is) F:=
 dt pr (F:=F) (i:=.mark p) (λy m=>memN m) (by rw[hr];rfl) λ{l h r a st G x8 x10 x11 x20 x21 x22 x23 x24 x25 x26 x27 x28 x29 x30} K s nk d1 d2 k=>by
  have e:(F.evs.map dD).length=F.evs.length:=aQ _;have t:=lT (W:=W) (X:=X) (b:=F.b) (st:=st) (evs:=F.evs) (ks:=F.kept) (p:=p) (t:=.c L0 (5000+(F.evs.length:Int))) (v:=.tup [.str [105],.int (5000+((F.evs.map dD).length:Int))]) (Fr:=fF X h r F.aE F.living x8 x10 x11 [F5 (.int a),F5 (fz (.mark p)),F5 (.str (lX (.mark p))),F5 (uH (.mark p)),F5 (.bool F6),x20,x21,x22,x23,x24,x25,x26,x27,x28,x29,x30]) (Q:=gQ K QQ) (by rw[e];rfl) s nk.lt λs=>k (hR s nk.put d2)
  exact t
end
def Qz.jl(h:aU F.aE t)(k:Nk l F m):Qz t:=h.mono (aA k.z ⋯)
section
variable(pr:a9 W){q:U.Place}{f:Nat}
theorem Nk.ev{k:Nat}{e:U.Ev}(z:Nk l F (k+1)):Nk l {F with evs:=F.evs++[e]} k:=⟨z.le.sp,z.le.hz,z.le.kz,by
 show(F.evs++[e]).length+k<1000;rw[a8,bT,bW _ k];exact z.ez,z.rz,z.le.oz,z.lv⟩
theorem Nk.Fq{k:Nat}(z:Nk l F k):(F.evs.map dD).length<aJ:=by rw[aQ];exact jV (bp (aW _ _) z.ez) (lz rfl)
include pr
def X5(hr:F.rest=[])(hR:Rd W n X QQ is {F with evs:=F.evs++[(3,0,[])]}):Rd W n X QQ (.cut::is) F:=
 dt pr (F:=F) (i:=.cut) (λy m=>memN m) (by rw[hr];rfl) λ{l h r a st G x8 x10 x11 x20 x21 x22 x23 x24 x25 x26 x27 x28 x29 x30} K s nk d1 d2 k=>by
  have z:=k (hR s nk.ev d2 (st:=st) (x8:=x8) (x10:=x10) (x11:=x11) (x15:=F5 (.int a)) (x16:=F5 (fz .cut)) (x17:=F5 (.str (lX .cut))) (x18:=F5 (uH .cut)) (x19:=F5 (.bool F6)) (x20:=x20) (x21:=x21) (x22:=x22) (x23:=x23) (x24:=x24) (x25:=x25) (x26:=x26) (x27:=x27) (x28:=x28) (x29:=x29) (x30:=x30))
  dsimp only[hF] at z
  rw[b8] at z;exact dK (W:=W) (i:=8) (H:=hF X F.b st F.evs F.kept G) (l:=F.evs.map dD) rfl nk.Fq z
def X6(hr:F.rest=[])(hp:F.hold p=F5 t)(M:af F.b S)(bq:BQ (aU F.aE) F.b)(ht:aU F.aE t)(sh:eM S [t])(hR:Rd W n X QQ is {F with evs:=F.evs++[(2,0,eW [t.app S])]}):Rd W n X QQ (.hY p::is) F:=
 dt pr (F:=F) (i:=.hY p) (λx m=>bB.mp m▸⟨t,hp⟩) (by rw[hr];rfl) λ{l h r a st G x8 x10 x11 x20 x21 x22 x23 x24 x25 x26 x27 x28 x29 x30} K s nk d1 d2 k=>by
  have hq:BQ Qz F.b:=λp m=>⟨.jl (bq p m).1 nk,.jl (bq p m).2 nk⟩;have hd:(t.app S).dep<=n+153:=aA (sh _ (.head _)) (aA (by decide:150<=153) (cI _ _))
  have hn:(bY [t.app S]).length<=aJ:=aA (CS M hq (ts:=[t]) λt m=>bB.mp m▸.jl ht nk) (lz rfl);refine lR s hp (yM pr (a:=6) (H:=hF X F.b st F.evs F.kept G) (b:=F.b) (st:=st) rfl M (d:=n+153) (t:=t) hd ?_);refine dN (lz rfl) (II pr (d:=n+153) (t:=t.app S) (H:=app (hF X F.b st F.evs F.kept G) [.lst [aC (t.app S)]]) (i:=aH (hF X F.b st F.evs F.kept G)) bj hd hn λ{c}=>?_);have z:=k (hR s.app.app nk.ev d2 (G:=app (app G [.lst [aC (t.app S)]]) [c]) (st:=st) (x8:=x8) (x10:=x10) (x11:=x11) (x15:=F5 (.int a)) (x16:=F5 (fz (.hY p))) (x17:=F5 (.str (lX (.hY p)))) (x18:=F5 (uH (.hY p))) (x19:=F5 (.bool F6)) (x20:=x20) (x21:=x21) (x22:=x22) (x23:=x23) (x24:=x24) (x25:=x25) (x26:=x26) (x27:=x27) (x28:=x28) (x29:=x29) (x30:=x30))
  dsimp only[hF] at z
  rw[b8] at z;exact dK (W:=W) (i:=8) (H:=app (app (hF X F.b st F.evs F.kept G) [.lst [aC (t.app S)]]) [c]) (l:=F.evs.map dD) rfl nk.Fq z
def X2(hc:X.code=.alloc m::is)(hr:F.rest=[])(hl:F.living=-1)(hR:Rd W n X QQ is {F with living:=m}):Rd W n X QQ (.alloc m::is) F:=
 dt pr (F:=F) (i:=.alloc m) (λy m=>memN m) (by rw[hr];rfl) λ{l h r a st G x8 x10 x11 x20 x21 x22 x23 x24 x25 x26 x27 x28 x29 x30} K s nk d1 d2 k=>by
  have e:a=0:=by
   have z:=aF List.length d2;have lt:=fO d1;rw[qM,hc,dY,Nat.succ_sub_succ] at z;rw[hc] at lt;exact Nat.eq_zero_of_not_pos λp=>ed _ (z▸Nat.sub_lt (bw p (qQ lt)) p)
  subst e;exact aZ (bC (by rw[hl];decide)) (k (hR s ⟨nk.le.sp,nk.le.hz,nk.le.kz,nk.le.ez,nk.le.rz,nk.le.oz,j8 (by decide:(-1:Int)<=0) (fD m)⟩ d2))
omit pr in
theorem Fc{i:bO}{l:List bO}(d1:aB l a=F5 i)(d2:l.drop (a+1)=[]):((a:Nat):Int)=((l.map fz).length:Int)-1:=by
 have z:=aF List.length d2;have lt:=fO d1;rw[qM,nF] at z;rw[aQ,show l.length=a+1 from vU (Nat.le_of_sub_eq_zero z) lt]
 exact Jn.symm
def YE(hr:F.rest=[])(hl:F.living=-1)(hD:∀{st G Fr},QQ (.ret (.tup [.obj 8,.obj 9,.str Aah])) Fr (hF X F.b st F.evs F.kept G)):Rd W n X QQ [.proceed] F:=
 dt pr (F:=F) (i:=.proceed) (is:=[]) (λy m=>memN m) (by rw[hr];rfl) λ{l h r a st G x8 x10 x11 x20 x21 x22 x23 x24 x25 x26 x27 x28 x29 x30} K s nk d1 d2 k=>by
  exact ae (bE (Fc d1 d2)) (ae (bE hl) hD)
end
def eq1{b:Nat}:eD [a] [b]=decide (a=b):=by
 show Bool.rec (motive:=λy=>Bool) L0 F6 (Nat.beq a b)=_;by_cases e:a=b
 .rw[bE e,show Nat.beq a b=F6 from Nat.beq_eq.mpr e]
 .rw[bC e,show Nat.beq a b=L0 from jy.mpr λq=>e (Nat.beq_eq.mp q)]
variable{F:Fa}
section
variable{s:Nat}
def w5{Q:K1}(hc:aB H i=F5 (.aX (bK l) s))(e:aR l p=F5 t)(q:Q (aC t) H):i8 W (.obj i) (bP p) H Q:=by
 show ob (aB H i) _ _;rw[hc];show gJ (aR (bK l) (iW p)) _ _;rw[AG,e];exact q
def w6{Q:K2}(hc:aB H i=F5 (.aX (bK l) s))(z:l.length<=aJ)(q:Q .aK F (aa H (.aX (bK (bS l p t)) (s+1)) i)):mM W (.obj i) (bP p) (aC t) F H Q:=by
 rw[<-FX] at q;show ob (aB H i) _ _;rw[hc];exact⟨by unfold bK;rw[aQ];exact z,q⟩
end
structure Pa(G:AH)(r c:Nat)(ts:List U.Tm):Prop where
 at_:aB G c=F5 (.lst (ts.map aC))
 ne:r≠c
variable{r c c2:Nat}{kp:U.Place->Bool}{l2:List (U.Place×U.Tm)}{ps:List U.Place}
section
variable{h:Nat}{hd:U.Place->Option U.Tm}{lf:Nat->Int}{Q:K2}
def Sd.Y8(s:Sd G h r l hd L lf rs)(p:Pa G r c ts){y:Cell}:Sd (aa G y c) h r l hd L lf rs:=
 let ⟨_,h1⟩:=s.hh
 let ⟨_,h2⟩:=s.ll
 ⟨⟨_,eX h1 (jk p.at_ h1 Cell.noConfusion)⟩,s.hk,⟨_,eX h2 (jk p.at_ h2 Cell.noConfusion)⟩,eX s.rr p.ne.symm⟩
def Pa.new(s:Sd G h r l hd L lf rs):Pa (app G [.lst []]) r (aH G) []:=⟨eA (k:=0),λe=>ed _ (cY (l:=G)▸e▸fO s.rr)⟩
def W8{ps:List U.Tm}(hz:ps.length<=1000)(ha:∀i t,ps[i]?=F5 t->hd (aP (i+1))=F5 t):∀{k i G x8},i+k=ps.length->Sd G h r l hd L lf rs->Pa G r c (ps.take i)->(∀{G x8},Sd G h r l hd L lf rs->Pa G r c ps->Q .aK (fF X h r sp lv x8 x10 x11 [x15,x16,x17,x18,x19,x20,x21,x22,x23,x24,x25,x26,x27,F5 (.obj (c+10)),x29,x30]) (hF X b st evs ks G))->
  dA 8 (aO W n A5) ((List.range' i k).map λi:Nat=>V.int (i:Int)) (fF X h r sp lv x8 x10 x11 [x15,x16,x17,x18,x19,x20,x21,x22,x23,x24,x25,x26,x27,F5 (.obj (c+10)),x29,x30]) (hF X b st evs ks G) Q:=by
 intro k
 induction k with
 |zero=>exact λ{i G x8} e s p q=>q s (by rw[s9 (show ps.length<=i from bX e.symm)] at p;exact p)|succ k ih=>
  intro i G x8 e s p q;have lt:i<ps.length:=e▸tC (om k);have at_:=bu lt;have hi:=ha i _ at_;have lz:((ps.take i).map aC).length<=1000:=by rw[aQ];exact aA (List.length_take_le _ _) (aA (d9 lt) hz)
  refine fL λK kk=>H3 (p:=aP (i+1)) s hi (ae (iq (i:=c+10) p.at_) (lR (p:=aP (i+1)) s hi (dK (i:=c+10) p.at_ (bp lz ⋯) (kk ?_))))
  rw[show(ps.take i).map aC++[aC ps[i]]=(ps.take (i+1)).map aC by rw[List.take_succ,at_,b8];rfl]
  exact ih (by rw[<-e,iy];rfl) (s.Y8 p) ⟨cZ p.at_,p.ne⟩ q
structure Lf(l l2:List (U.Place×U.Tm))(kp:U.Place->Bool)(ps:List U.Place):Prop where
 a:∀p t,aR l2 p=F5 t->kp p=F6/\aR l p=F5 t
 b:∀p t,aR l p=F5 t->kp p=F6->p∈ps\/aR l2 p=F5 t
 z:l2.length+ps.length<=l.length
def rN:gr lv p=(decide (p.1=121)&&decide ((p.2:Int)<=lv)):=Bool.decide_and _ _
def Lf.skip(f:Lf l l2 kp (p::ps))(h:kp p=L0):Lf l l2 kp ps:=⟨f.a,λq t e k=>(f.b q t e k).imp (λm=>(bD.mp m).resolve_left λe=>by rw[e,h] at k;exact az k) id,gE f.z⟩
def Lf.take(f:Lf l l2 kp (p::ps))(h:kp p=F6)(e:aR l p=F5 t):Lf l (bS l2 p t) kp ps:=⟨λq u g=>by
 rw[rP] at g;by_cases x:q=p
 .rw[aI x] at g;rw[x];exact⟨h,g▸e⟩
 .rw[aD x] at g;exact f.a q u g,λq u g k=>by
 rw[rP];by_cases x:q=p
 .rw[aI x];rw[x,e] at g;exact .inr g
 .rw[aD x];exact(f.b q u g k).imp (λm=>(bD.mp m).resolve_left x) id,aA (b5 nj _) (aA (bX (vX _ _)) f.z)⟩
def w0(bi:Bool)(lv:Int)(p:U.Place):Bool:=(bi&&decide (p.1=116))||gr lv p
def Us{s:Nat}(hz:l.length<=8000){bi:Bool}(hb:eD nm Aac=bi){all:List V}(ne:c2≠h):∀{ps l2 s2 G x30},(∀p∈ps,∃t,aR l p=F5 t)->aB G h=F5 (.aX (bK l) s)->all=(bK l).map (λp=>.tup (p.1.map cN))->aB G c2=F5 (.aX (bK l2) s2)->Lf l l2 (w0 bi lv) ps->(∀{l2 s2 x30},Lf l l2 (w0 bi lv) []->Q .aK (fF X h r sp lv x8 x10 x11 [x15,x16,F5 (.str nm),x18,x19,x20,x21,x22,x23,x24,x25,x26,x27,x28,F5 (.obj (c2+10)),x30]) (hF X b st evs ks (aa G (.aX (bK l2) s2) c2)))->
  fh (It (.aX s) (.obj (h+10)) all) 30 (aO W n A6) (ps.map bP) (fF X h r sp lv x8 x10 x11 [x15,x16,F5 (.str nm),x18,x19,x20,x21,x22,x23,x24,x25,x26,x27,x28,F5 (.obj (c2+10)),x30]) (hF X b st evs ks G) Q:=by
 intro ps
 induction ps with
 |nil=>
  intro l2 s2 G x30 _ h1 ea h2 f q;have q:=q (s2:=s2) (x30:=x30) f;rw[lr h2] at q;exact⟨ea▸.aX (i:=h+10) (ah▸h1),q⟩
 |cons p ps ih=>
  intro l2 s2 G x30 hp h1 ea h2 f q;obtain⟨t,ht⟩:=hp p (.head _);have hp':=λp m=>hp p (.tail _ m);have zz:l2.length<=aJ:=aA (aW _ _) (aA f.z (aA hz (lz rfl)));refine de (ea▸.aX (i:=h+10) (ah▸h1)) λK k=>?_
  cases bi with
  |false=>
   refine aZ hb (c7 (λe1=>?_) λe1=>?_)
   .rw[eq1] at e1;refine c7 (λe2=>?_) λe2=>?_
    .refine w5 (i:=h+10) h1 ht (w6 (i:=c2+10) h2 zz (k ?_));exact ih (G:=aa G (.aX (bK (bS l2 p t)) (s2+1)) c2) hp' (eX h1 ne) ea (cZ h2) (f.take (rN.trans (by rw[e1,e2];rfl)) ht) λ{l2 s2 x30} f=>by rw[gy];exact q f
    .exact k (ih hp' h1 ea h2 (f.skip (rN.trans (by rw[e2,Bool.and_false]))) q)
   .rw[eq1] at e1;exact k (ih hp' h1 ea h2 (f.skip (rN.trans (by rw[e1,Bool.false_and]))) q)
  |true=>
   refine ae hb (c7 (λe0=>?_) λe0=>c7 (λe1=>?_) λe1=>?_)
   .rw[eq1] at e0;refine w5 (i:=h+10) h1 ht (w6 (i:=c2+10) h2 zz (k ?_));exact ih (G:=aa G (.aX (bK (bS l2 p t)) (s2+1)) c2) hp' (eX h1 ne) ea (cZ h2) (f.take (show(decide (p.1=116)||_)=F6 by rw[e0];rfl) ht) λ{l2 s2 x30} f=>by rw[gy];exact q f
   .rw[eq1] at e0 e1;refine c7 (λe2=>?_) λe2=>?_
    .refine w5 (i:=h+10) h1 ht (w6 (i:=c2+10) h2 zz (k ?_));exact ih (G:=aa G (.aX (bK (bS l2 p t)) (s2+1)) c2) hp' (eX h1 ne) ea (cZ h2) (f.take (show(decide (p.1=116)||gr lv p)=F6 by rw[e0,rN,e1,e2];rfl) ht) λ{l2 s2 x30} f=>by rw[gy];exact q f
    .exact k (ih hp' h1 ea h2 (f.skip (show(decide (p.1=116)||gr lv p)=L0 by rw[e0,rN,e1,e2];rfl)) q)
   .rw[eq1] at e0 e1;exact k (ih hp' h1 ea h2 (f.skip (show(decide (p.1=116)||gr lv p)=L0 by rw[e0,rN,e1];rfl)) q)
end
variable{s2:Nat}
section
variable(pr:a9 W){h:Nat}{hd:U.Place->Option U.Tm}{lf:Nat->Int}
theorem Ur(h2:aB G c2=F5 (.aX (bK l2) s2))(hF:∀{v},ob (aB (dm F 30 v) 29) L3 id=F5 (.obj (c2+10))/\ob (aB (dm F 30 v) 30) L3 id=F5 v)(cc:C (Mine.hF X b st evs ks G)):∀{Q:gW},(∀p∈ps,∃t,aR l2 p=F5 t)->(∀{ts:List U.Tm},ts.length=ps.length->(∀t∈ts,∃p,aR l2 p=F5 t)->Q (ts.map aC) (Mine.hF X b st evs ks G))->qA C (bI W n BB) 30 F (ps.map bP) (Mine.hF X b st evs ks G) Q:=by
 induction ps with
 |nil=>exact λy q=>⟨cc,q (ts:=[]) rfl λy m=>memN m⟩|cons p ps ih=>
  intro Q hp q;obtain⟨t,ht⟩:=hp p (.head _);exact⟨cc,bJ hF.1 (bJ hF.2 (w5 (i:=c2+10) h2 ht (ih (λp m=>hp p (.tail _ m)) λ{ts} e g=>q (ts:=t::ts) (aF Nat.succ e) λu m=>(bD.mp m).elim (λe=>e▸⟨p,ht⟩) (g u))))⟩
include pr
def IW{Q:K2}(s:Sd G h r l hd L lf rs)(M:af b S):∀{x11 x27},(∀t m,t∈ts->t.app S=.v m->m∈L->lf m<=lv)->(∀{x11 x27},Q .aK (fF X h r sp lv x8 x10 x11 [x15,x16,x17,x18,x19,x20,x21,x22,x23,x24,x25,x26,x27,x28,x29,x30]) (hF X b st evs ks G))->dA 11 (aO W (n+1) HX) (ts.map aC) (fF X h r sp lv x8 x10 x11 [x15,x16,x17,x18,x19,x20,x21,x22,x23,x24,x25,x26,x27,x28,x29,x30]) (hF X b st evs ks G) Q:=by
 induction ts with
 |nil=>exact λy q=>q|cons t ts ih=>
  intro x11 x27 ok q;obtain⟨u,w⟩:=M.walks t;have ok':∀u m,u∈ts->u.app S=.v m->m∈L->lf m<=lv:=λu m h=>ok u m (.tail _ h);exact fL λK k=>k7 pr rfl w (fZ (c7 (λe1=>jG (eN.symm.trans e1) λm e=>js e (w4 s (c7 (λi1=>js e (UT s (dG i1) (aZ (bC (mB.mpr (ok t m (.head _) (U.Walk.var M (e▸w)) (dG i1)))) (k (ih ok' q))))) λi0=>k (ih ok' q)))) λe0=>k (ih ok' q)))
omit pr
theorem BK{l l':List V}{Q:K1}(h1:aB H i=F5 (.lst l))(h2:aB H j=F5 (.lst l'))(z:l.length+l'.length<=aJ)(q:Q (.obj i) (aa H (.lst (l++l')) i)):sY .Add (.obj i) H (.obj j) Q:=by
 show ob (aB H i) _ _;rw[h1];show ob (ob (aB H j) L3 _) _ _;rw[h2];exact⟨z,q⟩
theorem Lf.hk(f:Lf l l2 kp [])(hk:∀p,hd p=aR l p)(p:U.Place):(if kp p=F6 then hd p else L3)=aR l2 p:=by
 cases e:aR l2 p with
 |some t=>
  have z:=f.a p t e;rw[aI z.1,hk,z.2]
 |none=>
  by_cases k:kp p=F6
  .rw[aI k,hk]
   cases e':aR l p with
   |none=>rfl|some t=>exact absurd ((f.b p t e' k).resolve_left dZ) (by rw[e];exact Option.some_ne_none t ∘ Eq.symm)
  .rw[aD k]
end
def sD(X:Fx)(f:Nat):Nat:=((aB X.fs f).map Prod.snd).getD 2000
def Cc{f k:Nat}(h:sD X f=k/\k<=100):∃a,aB X.fs f=F5 (a,k):=by
 obtain⟨h1,h2⟩:=h;unfold sD at h1
 cases e:aB X.fs f with
 |none=>rw[e] at h1;rw[<-h1] at h2;exact absurd h2 ⋯|some p=>rw[e] at h1;exact⟨p.1,aF F5 (iQ rfl h1)⟩
def keys_eq:(bK l).map (λp=>V.tup (p.1.map cN))=(l.map Prod.fst).map bP:=by
 unfold bK;rw[gD,gD];rfl
def T3(h:aR l p=F5 t):p∈l.map Prod.fst:=by
 induction l with
 |nil=>exact ai h|cons q l ih=>
  obtain⟨k,u⟩:=q;by_cases e:k=p
  .exact e▸.head _
  .exact .tail _ (ih ((gu e).symm.trans h))
def Hv(m:p∈l.map Prod.fst):∃t,aR l p=F5 t:=by
 induction l with
 |nil=>exact memN m|cons q l ih=>
  obtain⟨k,t⟩:=q;by_cases e:k=p
  .subst e;exact⟨t,jI⟩
  .obtain⟨u,hu⟩:=ih ((bD.mp m).resolve_left λq=>e q.symm);exact⟨u,(gu e).trans hu⟩
variable{ps:List U.Tm}
section
variable{h:Nat}{hd:U.Place->Option U.Tm}{lf:Nat->Int}{Q:K2}
def CK(hz:ps.length<=100)(ha:∀i t,ps[i]?=F5 t->hd (aP (i+1))=F5 t)(s:Sd G h r l hd L lf rs)(q:∀{G x8 c},Sd G h r l hd L lf rs->Pa G r c ps->Q .aK (fF X h r sp lv x8 x10 x11 [x15,x16,x17,x18,x19,x20,x21,x22,x23,x24,x25,x26,x27,F5 (.obj (c+10)),x29,x30]) (hF X b st evs ks G)):
  dA 8 (aO W n A5) (jj ps.length) (fF X h r sp lv x8 x10 x11 [x15,x16,x17,x18,x19,x20,x21,x22,x23,x24,x25,x26,x27,F5 (.obj (aH G+10)),x29,x30]) (hF X b st evs ks (app G [.lst []])) Q:=by
 rw[mf];exact W8 (aA hz ⋯) ha (cW _) s.app (Pa.new s) λs p=>q s p
def BX{bi:Bool}(hb:eD nm Aac=bi)(s:Sd G h r l hd L lf rs)(hz:l.length<=8000)(q:∀{l2 s2 x30},Lf l l2 (w0 bi lv) []->Q .aK (fF X h r sp lv x8 x10 x11 [x15,x16,F5 (.str nm),x18,x19,x20,x21,x22,x23,x24,x25,x26,x27,x28,F5 (.obj (aH G+10)),x30]) (hF X b st evs ks (app G [.aX (bK l2) s2]))):
  sr (.obj (h+10)) (hF X b st evs ks (app G [.aX [] 0])) (Hm 30 (aO W n A6) (fF X h r sp lv x8 x10 x11 [x15,x16,F5 (.str nm),x18,x19,x20,x21,x22,x23,x24,x25,x26,x27,x28,F5 (.obj (aH G+10)),x30]) (hF X b st evs ks (app G [.aX [] 0])) Q):=by
 obtain⟨s0,h1⟩:=s.hh;have h1':=dP (r:=[.aX [] 0]) h1;refine⟨.aX (i:=h+10) (ah▸h1'),?_⟩;show fh _ 30 _ ((bK l).map _) _ _ _;rw[keys_eq];exact Us (c2:=aH G) (G:=app G [.aX [] 0]) (l2:=[]) hz hb (λe=>ed _ (cY (l:=G)▸e▸fO h1)) (λp=>Hv) h1' keys_eq.symm (eA (k:=0)) ⟨(λy y e=>ai e),λp t e y=>.inl (T3 e),by rw[aQ];exact bX (cW _)⟩ λ{l2 s2 x30} f=>by
  have e:aa (app G [.aX [] 0]) (.aX (bK l2) s2) (aH G)=app G [.aX (bK l2) s2]:=qi (k:=0);rw[e];exact q f
end
def FA{Q:K1}(h2:aB G c2=F5 (.aX (bK l2) s2))(z:l2.length<=8000)(hF:∀{v},ob (aB (dm F 30 v) 29) L3 id=F5 (.obj (c2+10))/\ob (aB (dm F 30 v) 30) L3 id=F5 v)(q:∀{ts:List U.Tm},ts.length<=8000->(∀t∈ts,∃p,aR l2 p=F5 t)->Q (.lst (ts.map aC)) (Mine.hF X b st evs ks G)):BD (bI W n BB) 30 F Q (.obj (c2+10)) (Mine.hF X b st evs ks G):=by
 refine⟨.aX (i:=c2+10) (ah▸h2),?_⟩;show aw (List.length ((bK l2).map _)<=aJ) (qA _ _ 30 _ ((bK l2).map _) _ (uB Q));rw[keys_eq];exact⟨by rw[aQ,aQ];exact aA z (lz rfl),Ur h2 hF (keys_eq▸.aX (i:=c2+10) (ah▸h2)) (λp=>Hv) λ{ts} e g=>⟨.val,q (aA (bX (e.trans (aQ _))) z) g⟩⟩
def H0{Q:K1}(hc:aB H i=F5 (.lst (ps.map aC)))(z1:ps.length<=100)(z2:ts.length<=8000)(q:Q (.lst ((ps++ts).map aC)) H):Seq (Prim W (.bin .Add) [.obj i,.lst (ts.map aC)] H) Q:=by
 rw[b8] at q;exact fP (mJ.lst (.cell (ah▸hc)) .val (by rw[a8,aQ,aQ];exact aA (eb z1 z2) (lz rfl)) .val) q
variable{F:U.FS}{parts:List U.Tm}
def Nk.goal{k:Nat}{f:Nat×Nat}(z:Nk l F (k+1))(h:l2.length<=l.length)(hp:parts.length<=100)(hl:-1<=lv):Nk l2 (lN F S parts f kp lv picks) k:=⟨z.le.sp,aA (b5 h _) z.le.hz,by
 show(F.kept++parts).length+100*k<=1000000;rw[a8,bT];exact aA (dC (aA (b5 hp _) (bX ((bW _ _).trans (mG 100 k).symm))) _) z.kz,by
 show(F.evs++[_]).length+k<1000;rw[a8,bT,bW _ k];exact z.ez,z.rz,z.le.oz,hl⟩
section
variable(pr:a9 W){f:Nat}
theorem Tp(h:gr lv p=F6):p=yP p.2/\(p.2:Int)<=lv:=have z:=dG h;⟨iQ z.1 rfl,z.2⟩
theorem IX(f':Lf l l2 (w0 L0 lv) [])(hk:∀p,F.hold p=aR l p)(g:∀t∈ts,∃p,aR l2 p=F5 t)(ok:∀t m,(t∈parts\/∃j:Nat,(j:Int)<=lv/\F.hold (yP j)=F5 t)->t.app S=.v m->m∈F.loose->F.ls m<=lv):∀t m,t∈parts++ts->t.app S=.v m->m∈F.loose->F.ls m<=lv:=λt m h=>ok t m ((cD.mp h).imp id λh=>by
 obtain⟨p,e⟩:=g t h;have z:=f'.a p t e;have y:=Tp (show gr lv p=F6 from z.1)
 exact⟨p.2,y.2,by rw[<-y.1,hk];exact z.2⟩)
include pr
def X4(hr:F.rest=[])(hs:sD X f=parts.length/\parts.length<=100)(ha:∀i t,parts[i]?=F5 t->F.hold (aP (i+1))=F5 t/\aU F.aE t)(hl:(m:Int)<=F.living)(M:af F.b S)(bq:BQ (aU F.aE) F.b)(sh:eM S parts)(ok:∀t k,(t∈parts\/∃j,j<=m/\F.hold (yP j)=F5 t)->t.app S=.v k->k∈F.loose->F.ls k<=(m:Int))(hp:0<X.picks.length)(hR:Rd W n X QQ is (lN F S parts (0,f) (gr m) m X.picks)):Rd W n X QQ (.call f m::is) F:=
 dt pr (F:=F) (i:=.call f m) (λy m=>memN m) (by rw[hr];rfl) λK s nk d1 d2 k=>by
  obtain⟨a,hf⟩:=Cc hs;have zp:parts.length<=aJ:=aA hs.2 (lz rfl);refine dN (lz rfl) (tN pr hf ⟨zp,CK hs.2 (λi t e=>(ha i t e).1) s λ{G x8 c} s p=>?_⟩);refine aZ (bC (mB.mpr hl)) (uI (BX (lv:=(m:Int)) (bi:=L0) rfl s (aA (aW _ _) nk.hz) λ{l2 s2 x30} f'=>?_));have h2:aB (app G [.aX (bK l2) s2]) (aH G)=F5 (.aX (bK l2) s2):=eA (k:=0);have pa:aB (app G [.aX (bK l2) s2]) c=F5 (.lst (parts.map aC)):=dP p.at_;have z3:l2.length<=_:=f'.z;have z2:l2.length<=8000:=aA z3 (aA (aW _ _) nk.hz);refine FA h2 z2 ⟨rfl,rfl⟩ λ{ts} zt g=>H0 (i:=c+10) pa hs.2 zt ?_;refine IW pr s.app M (IX f' s.hk g λt k h=>ok t k (h.imp id λζ=>ζ.elim λj ζ'=>ζ'.elim λh1 h2=>⟨j,mC.mp h1,h2⟩)) λ{x11 x27}=>?_;have kz:=nk.kz;refine BK (i:=9) (j:=c+10) rfl (show aB (hF X F.b _ F.evs F.kept (app G [.aX (bK l2) s2])) (c+10)=_ from pa) ?_ ?_
  .rw[aQ,aQ];exact aA (eb (aA (aW _ _) kz) hs.2) (lz rfl)
  .rw[<-b8];have ez:=nk.ez;exact tr (a:=6) (e:=8) (f:=(0,f)) (nm:=Aaa) pr M (λp m=>⟨.jl (bq p m).1 nk,.jl (bq p m).2 nk⟩) (λy=>rfl) (src:=.obj (c+10)) (evs:=F.evs) (ts:=parts) rfl rfl (.inr ⟨c+10,rfl,pa⟩) (λt m=>(jS.mp m).elim λi hi=>.jl (ha i t hi).2 nk) sh (aA hs.2 ⋯) hp (bp (aW _ _) ez) λ{st g}=>k (hR ⟨⟨s2,dP h2⟩,f'.hk s.hk,s.app.app.ll,s.app.app.rr⟩ (nk.goal z3 hs.2 (j8 (by decide:(-1:Int)<=0) (fD m))) d2)
def X8(hr:F.rest=[])(hs:sD X f=parts.length/\parts.length<=100)(ha:∀i t,parts[i]?=F5 t->F.hold (aP (i+1))=F5 t/\aU F.aE t)(hl:F.living=-1)(M:af F.b S)(bq:BQ (aU F.aE) F.b)(sh:eM S parts)(ok:∀t k,t∈parts->t.app S=.v k->k∈F.loose->F.ls k<=-1)(hp:0<X.picks.length)(hD:∀{st G Fr},QQ (.ret (.tup [.obj 8,.obj 9,.str Aah])) Fr (hF X (lN F S parts (0,f) (gr (-1)) (-1) X.picks).b st (lN F S parts (0,f) (gr (-1)) (-1) X.picks).evs (lN F S parts (0,f) (gr (-1)) (-1) X.picks).kept G)):Rd W n X QQ [.exec f] F:=
 dt pr (F:=F) (i:=.exec f) (is:=[]) (λy m=>memN m) (by rw[hr];rfl) λ{l h r a0 st G x8 x10 x11 x20 x21 x22 x23 x24 x25 x26 x27 x28 x29 x30} K s nk d1 d2 k=>by
  obtain⟨a,hf⟩:=Cc hs;have zp:parts.length<=aJ:=aA hs.2 (lz rfl);refine dN (lz rfl) (tN pr hf ⟨zp,CK hs.2 (λi t e=>(ha i t e).1) s λ{G x8 c} s p=>?_⟩);refine uI (BX (lv:=F.living) (bi:=L0) rfl s (aA (aW _ _) nk.hz) λ{l2 s2 x30} f'=>?_);have h2:aB (app G [.aX (bK l2) s2]) (aH G)=F5 (.aX (bK l2) s2):=eA (k:=0);have pa:aB (app G [.aX (bK l2) s2]) c=F5 (.lst (parts.map aC)):=dP p.at_;have z3:l2.length<=_:=f'.z;have z2:l2.length<=8000:=aA z3 (aA (aW _ _) nk.hz);refine FA h2 z2 ⟨rfl,rfl⟩ λ{ts} zt g=>H0 (i:=c+10) pa hs.2 zt ?_;refine IW pr s.app M (IX f' s.hk g λt k h=>by
   rw[hl] at h ⊢;exact ok t k (h.elim id λζ=>ζ.elim λj ζ'=>ζ'.elim λh1 y=>absurd h1 (Int.not_le.mpr (Int.lt_of_lt_of_le ⋯ (fD j))))) λ{x11 x27}=>?_
  have kz:=nk.kz;refine BK (i:=9) (j:=c+10) rfl (show aB (hF X F.b _ F.evs F.kept (app G [.aX (bK l2) s2])) (c+10)=_ from pa) ?_ ?_
  .rw[aQ,aQ];exact aA (eb (aA (aW _ _) kz) hs.2) (lz rfl)
  .rw[<-b8];have ez:=nk.ez;refine tr (a:=6) (e:=8) (f:=(0,f)) (nm:=Aaa) pr M (λp m=>⟨.jl (bq p m).1 nk,.jl (bq p m).2 nk⟩) (λy=>rfl) (src:=.obj (c+10)) (evs:=F.evs) (ts:=parts) rfl rfl (.inr ⟨c+10,rfl,pa⟩) (λt m=>(jS.mp m).elim λi hi=>.jl (ha i t hi).2 nk) sh (aA hs.2 ⋯) hp (bp (aW _ _) ez) λ{st g}=>?_
   exact ae (bE (Fc d1 d2)) (ae (bE hl) hD)
def X3(hr:F.rest=[])(hs:sD X f=parts.length/\parts.length<=100)(ha:∀i t,parts[i]?=F5 t->F.hold (aP (i+1))=F5 t/\aU F.aE t)(M:af F.b S)(bq:BQ (aU F.aE) F.b)(sh:eM S parts)(hp:0<X.picks.length)(hR:Rd W n X QQ is (lN F S parts (1,f) (wu F.living) F.living X.picks)):Rd W n X QQ (.jd f::is) F:=
 dt pr (F:=F) (i:=.jd f) (λy m=>memN m) (by rw[hr];rfl) λK s nk d1 d2 k=>by
  obtain⟨a,hf⟩:=Cc hs;have zp:parts.length<=aJ:=aA hs.2 (lz rfl);refine dN (lz rfl) (tN pr hf ⟨zp,CK hs.2 (λi t e=>(ha i t e).1) s λ{G x8 c} s p=>?_⟩);refine uI (BX (lv:=F.living) (bi:=F6) rfl s (aA (aW _ _) nk.hz) λ{l2 s2 x30} f'=>?_);have h2:aB (app G [.aX (bK l2) s2]) (aH G)=F5 (.aX (bK l2) s2):=eA (k:=0);have pa:aB (app G [.aX (bK l2) s2]) c=F5 (.lst (parts.map aC)):=dP p.at_;have z3:l2.length<=_:=f'.z;have kz:=nk.kz;refine BK (i:=9) (j:=c+10) rfl (show aB (hF X F.b _ F.evs F.kept (app G [.aX (bK l2) s2])) (c+10)=_ from pa) ?_ ?_
  .rw[aQ,aQ];exact aA (eb (aA (aW _ _) kz) hs.2) (lz rfl)
  .rw[<-b8];have ez:=nk.ez;exact tr (a:=6) (e:=8) (f:=(1,f)) (nm:=Aac) pr M (λp m=>⟨.jl (bq p m).1 nk,.jl (bq p m).2 nk⟩) (λy=>rfl) (src:=.obj (c+10)) (evs:=F.evs) (ts:=parts) rfl rfl (.inr ⟨c+10,rfl,pa⟩) (λt m=>(jS.mp m).elim λi hi=>.jl (ha i t hi).2 nk) sh (aA hs.2 ⋯) hp (bp (aW _ _) ez) λ{st g}=>k (hR ⟨⟨s2,dP h2⟩,f'.hk s.hk,s.app.app.ll,s.app.app.rr⟩ (nk.goal z3 hs.2 nk.lv) d2)
end
def nD(QQ:K2)(X:Fx)(evs:List U.Ev):Prop:=∀{b st ks G Fr},QQ (.ret (.tup [.obj 8,.obj 9,.str Aae])) Fr (hF X b st evs ks G)
def yY(QQ:K2)(X:Fx)(F:U.FS):Prop:=∀{st G Fr},QQ (.ret (.tup [.obj 8,.obj 9,.str Aah])) Fr (hF X F.b st F.evs F.kept G)
def tv{QQ:K2}{X:Fx}{evs:List U.Ev}(h:nD QQ X evs){b:Bd}{st:Nat}{ks:List U.Tm}{G:AH}{Fr:Fa}:QQ (.ret (.tup [.obj 8,.obj 9,.str Aae])) Fr (hF X b st evs ks G):=h
def FP(h:yY QQ X F){Fr:Fa}:QQ (.ret (.tup [.obj 8,.obj 9,.str Aah])) Fr (hF X F.b st F.evs F.kept G):=h
section
variable(pr:a9 W)
include pr
def rules(har:Ar X)(hp:0<X.picks.length):U.Rules (Rd W n X QQ) (nD QQ X) (yY QQ X) (sD X) X.picks where
 getVar:=λhr hq y hR=>no_implicit_lambda% YB pr hr hq @hR
 jh:=λhr hp hq w1 w2 M bq b1 b2 hz k=>no_implicit_lambda% YA pr (Fl:=nD QQ X) tv hr hp hq w1 w2 M bq b1 b2 hz k
 kU:=λhr hq M bq ht q1 q0=>no_implicit_lambda% X9 pr (Fl:=nD QQ X) tv hr hq M bq ht q1 q0
 Jr:=λhr hf hR=>no_implicit_lambda% YF pr har hf hr @hR
 ky:=λhr y hR=>no_implicit_lambda% YQ pr hr @hR
 ku:=λhr M bq ht q1 q0=>no_implicit_lambda% YM pr (Fl:=nD QQ X) tv hr M bq ht q1 q0
 jo:=λh0 hm hR=>no_implicit_lambda% YR pr h0 hm @hR
 iJ:=λhr hp w nl M bq y hu hx q1 q0=>no_implicit_lambda% YO pr (Fl:=nD QQ X) tv hr hp w nl M bq hu hx q1 q0
 ir:=λhr hp w M bq y hu hx q1 q0=>no_implicit_lambda% YN pr (Fl:=nD QQ X) tv hr hp w M bq hu hx q1 q0
 Ju:=λhr hR=>no_implicit_lambda% YJ pr hr @hR
 Jv:=λhr low hR=>no_implicit_lambda% YK pr hr low @hR
 lj:=λhr hq hR=>no_implicit_lambda% YL pr hr hq @hR
 kn:=λhr hp w y y y hR=>no_implicit_lambda% YH pr hr hp w @hR
 jN:=λhr hp y hR=>no_implicit_lambda% YI pr hr hp @hR
 lh:=λhr hR=>no_implicit_lambda% YG pr hr @hR
 jd:=λhr hs ha M bq sh hR=>no_implicit_lambda% X3 pr hr hs ha M bq sh hp @hR
 level:=λhr hR=>no_implicit_lambda% YC pr hr @hR
 mark:=λhr hR=>no_implicit_lambda% YD pr hr @hR
 hY:=λhr hp M bq ht sh hR=>no_implicit_lambda% X6 pr hr hp M bq ht sh @hR
 cut:=λhr hR=>no_implicit_lambda% X5 pr hr @hR
 hZ:=λhr hR=>no_implicit_lambda% X7 pr hr @hR
 call:=λhr hs ha hl M bq sh ok hR=>no_implicit_lambda% X4 pr hr hs ha hl M bq sh ok hp @hR
 exec:=λhr hs ha hl M bq sh ok hD=>no_implicit_lambda% X8 pr hr hs ha hl M bq sh ok hp (FP hD)
 proceed:=λhr hl hD=>no_implicit_lambda% YE pr hr hl (FP hD)
end
@[reducible] def f0(X:Fx)(x8:Option V)(t:Fa):Fa:=F5 (.obj 0)::F5 (.obj 5)::F5 (.obj 6)::F5 (.obj 7)::F5 (.lst (eC X.picks))::F5 (.obj 8)::F5 (.obj 9)::F5 (.obj 10)::x8::t
def OI:bS (encL (λz=>-2) L) (.int (x:Int)) (.int (-2))=encL (λz=>-2) (cf L x):=by
 unfold cf;have e:((encL (λz=>-2) L).any λq=>decide (q.1=.int (x:Int)))=decide (x∈L):=oS.mpr (by
  rw[vM,AB];exact⟨λ⟨p,m,h⟩=>(let ⟨y,my,ey⟩:=dB.mp m;d6 (Atom.int.inj ((aF Prod.fst ey).trans (dG h)))▸my),λm=>⟨_,s8 m,bE rfl⟩⟩)
 unfold bS;rw[e];by_cases m:x∈L
 .rw[bE m,aI rfl,aI m];unfold encL;rw[gD];exact ix λy z=>by by_cases q:Atom.int (y:Int)=.int (x:Int);exact(aI q);exact aD q
 .rw[bC m,aD az,aD m];unfold encL;rw[b8];rfl
variable{t:Fa}
section
variable(pr:a9 W){Q:K2}
theorem Q6(z:X.call.length<=100):∀{k i l s x8},i+k=X.call.length->(∀j T,j<i->X.call[j]?=F5 T->aR l (aP (1+j))=F5 T)->(∀n,aR l (yP n)=L3)->l.length<=i->(∀{l s x8},(∀j T,X.call[j]?=F5 T->aR l (aP (1+j))=F5 T)->(∀n,aR l (yP n)=L3)->l.length<=100->Q .aK (f0 X x8 t) (hF X [] 0 [] X.call [.aX (bK l) s]))->
  dA 8 (aO W n HS) ((List.range' i k).map λi:Nat=>V.int (i:Int)) (f0 X x8 t) (hF X [] 0 [] X.call [.aX (bK l) s]) Q:=by
 intro k
 induction k with
 |zero=>exact λ{i l s x8} e h hy hl q=>q (λj T hj=>h j T (bw (dT.mp hj).1 (bX e.symm)) hj) hy (aA hl (aA (bX e) z))|succ k ih=>
  intro i l s x8 e h hy hl q;have lt:i<X.call.length:=e▸tC (om k);have at_:=bu lt;refine fL λK kk=>bJ (pU (ah▸at_)) (w6 (W:=W) (i:=10) (p:=aP (i+1)) (show aB (hF X [] 0 [] X.call [.aX (bK l) s]) 10=F5 (.aX (bK l) s) from rfl) (aA hl (aA (d9 lt) (aA z (lz rfl)))) (kk ?_))
  refine ih (by rw[<-e,iy];rfl) (λj T hj he=>?_) (λm=>by rw[rP,aD λe=>absurd (ot e).1 ⋯];exact hy m) (aA nj (cP hl)) q
  rw[rP];by_cases q:j=i
  .subst q;rw[aI (aF aP (bW 1 j))];exact at_.symm.trans he
  .rw[aD λe=>q (Nat.add_left_cancel ((ot e).2.trans (bW i 1)))];exact h j T (Nat.lt_of_le_of_ne (qQ hj) q) he
def DM(call:List U.Tm)(tb:List Nat)(ts:List U.Tm):Prop:=tb.Nodup/\(∀x∈tb,x<=100000)/\∀T∈call,aq T=F6->(∀x,T.has x->x∈tb)\/T∈ts
include pr
def RI{s:Nat}(ha:∀T∈X.call,aU 100000 T):∀{ts:List U.Tm} {tb x8 x11},(∀T∈ts,T∈X.call)->DM X.call tb ts->(∀{tb x11},DM X.call tb []->Q .aK (f0 X x8 (F5 (.obj 11)::F5 (.obj 12)::x11::t)) (hF X [] 0 [] X.call [.aX (bK l) s,.dict [] 0,.lst (aS tb)]))->
  fh (It .lst (.obj 7) (X.call.map aC)) 11 (aO W (n+101) HT) (ts.map aC) (f0 X x8 (F5 (.obj 11)::F5 (.obj 12)::x11::t)) (hF X [] 0 [] X.call [.aX (bK l) s,.dict [] 0,.lst (aS tb)]) Q:=by
 intro ts
 induction ts with
 |nil=>exact λ{tb x8 x11} y i q=>⟨bV rfl,q i⟩|cons T ts ih=>
  intro tb x8 x11 hs i q;have hT:=ha T (hs T (.head _));have hs':=λT m=>hs T (.tail _ m);refine de (bV rfl) λK k=>fZ (c7 (λe1=>?_) λe1=>?_)
  .have nd:(bh tb T).2.Nodup:=IF i.1;have lo:∀x∈(bh tb T).2,x<=100000:=λx m=>(pN.mp m).elim (i.2.1 x) (hT.lo x);have z:(bh tb T).2.length<=100001:=by
    have:=mi (r:=List.range 100001) nd λx m=>oe.mpr (kD (lo x m))
    rw[kB] at this;exact this
   exact Iq pr (a:=12) (d:=n+100) (aA hT.dp (cI _ _)) rfl (bp z (lz rfl)) (k (ih hs' ⟨nd,lo,λV m h=>(i.2.2 V m h).elim (λh=>.inl λx q=>pN.mpr (.inl (h x q))) λm=>(bD.mp m).elim (λe=>.inl λx q=>pN.mpr (.inr (e▸q))) .inr⟩ q))
  .exact k (ih hs' ⟨i.1,i.2.1,λV m h=>(i.2.2 V m h).imp id λm=>(bD.mp m).resolve_left λe=>az (e1.symm.trans (fV.trans (show aq T=F6 from(show V=T from e)▸h)))⟩ q)
omit pr
def DN(call:List U.Tm)(tb L:List Nat):Prop:=∀x∈L,U.Tm.v x∈call/\x∉tb
theorem VO{s:Nat}:∀{ts:List U.Tm} {L s' x8 x11},(∀T∈ts,T∈X.call)->L.length+ts.length<=100->DN X.call tb L->(∀{L s' x11},L.length<=100->DN X.call tb L->Q .aK (f0 X x8 (F5 (.obj 11)::F5 (.obj 12)::x11::t)) (hF X [] 0 [] X.call [.aX (bK l) s,.dict (encL (λy=>-2) L) s',.lst (aS tb)]))->
  fh (It .lst (.obj 7) (X.call.map aC)) 11 (aO W n HU) (ts.map aC) (f0 X x8 (F5 (.obj 11)::F5 (.obj 12)::x11::t)) (hF X [] 0 [] X.call [.aX (bK l) s,.dict (encL (λy=>-2) L) s',.lst (aS tb)]) Q:=by
 intro ts
 induction ts with
 |nil=>exact λ{L s' x8 x11} y z i q=>⟨bV rfl,q z i⟩|cons T ts ih=>
  intro L s' x8 x11 hs z i q;have hs':=λT m=>hs T (.tail _ m);have z':L.length+ts.length<=100:=gE z;refine de (bV rfl) λK k=>fZ (c7 (λe1=>?_) λe1=>k (ih hs' z' i q));refine jG (eN.symm.trans e1) λm e=>js e (BP (W:=W) (a:=12) (l:=bU tb) (show aB (hF X [] 0 [] X.call [.aX (bK l) s,.dict (encL (λy=>-2) L) s',.lst (aS tb)]) 12=F5 (.lst ((bU tb).map V.int)) from rfl) (c7 (λi1=>?_) λi1=>k (ih hs' z' i q)))
  refine js e ⟨by unfold encL;rw[aQ];exact aA (Nat.le_of_add_right_le z') (lz rfl),?_⟩
  rw[OI];have nm:m∉tb:=λh=>by
   rw[show(bU tb).any (· == (m:Int))=F6 from vM.mpr ⟨_,s8 h,jb _⟩] at i1
   exact(az i1).elim
  exact k (ih hs' (by
   unfold cf;by_cases q:m∈L
   .rw[aI q];exact z'
   .rw[aD q,a8,iy];exact z) (λx h=>by
   unfold cf at h;by_cases q:m∈L
   .rw[aI q] at h;exact i x h
   .rw[aD q] at h;exact(cD.mp h).elim (i x) λh=>(bB.mp h).symm▸⟨e▸hs T (.head _),nm⟩) q)
end
@[reducible] def hC(X:Fx):AH:=.inst 0 [(1599430227059,.obj 1),(109388970062261371602777502323,.obj 2),(25829672611287626355,.obj 3),(1861224063156749765404099319326667379,.obj 4)]::X.c1::X.c2::.lst (X.fs.map nV)::X.c4::.lst (X.code.map fz)::.dict [] 0::.lst (X.call.map aC)::[]
def fQ(W:Wd)(n:Nat)(Q:K1):K2:=lQ (aO W (n+155) (dp 12 HR)) (gq Q)
section
variable(pr:a9 W){Q:K1}
include pr
def Oy(hc:∀T∈X.call,aU 100000 T/\∀k,T.has k->N<=k)(z:X.call.length<=100)(zc:X.code.length<=900)(hR:∀F,U.Start N 100000 X.call F->F.living=-1->Rd W n X (fQ W n Q) X.code F):Fi W (n+156) 76 [.obj 0,.obj 5,.obj 6,.obj 7,.lst (eC X.picks)] (hC X) Q:=by
 have zm:(X.call.map aC).length<=aJ:=by rw[aQ];exact aA z (lz rfl)
 refine pr.fe QF rfl ?_;refine dN (lz rfl) (H6 pr (i:=7) rfl (uI ⟨zm,?_⟩));rw[aQ,mf];refine Q6 (l:=[]) z (cW _) (λy y h=>absurd h (tF _)) (λy=>rfl) (au _) λ{l s x8} hl hy zl=>?_;refine kX (dN (lz rfl) ⟨bV rfl,?_⟩);refine RI pr (n:=n+54) (tb:=[]) (λT m=>(hc T m).1) (λy m=>m) ⟨dU,(λy m=>memN m),λT m y=>.inr m⟩ λ{tb x11} i=>⟨bV rfl,?_⟩;refine VO (L:=[]) (λy m=>m) (aA (bX (cW _)) z) (λy m=>memN m) λ{L s' x11} zL i2=>?_;refine dN (lz rfl) ⟨?_,?_⟩
 .rw[aQ];exact aA zc (lz rfl)
 .rw[aQ,mf];refine hR ⟨[],λp=>aR l p,L,λy=>-2,[],100000,-1,[],X.call⟩ ⟨rfl,rfl,rfl,rfl,rfl,λj T e=>hl j T e,λm=>hy m,hc,λx m=>⟨⟨(hc _ (i2 x m).1).1.lo x rfl,rfl⟩,λT mT h q=>(i2 x m).2 (((i.2.2 T mT h).resolve_right dZ) x q)⟩⟩ rfl (G:=[.aX (bK l) s,.dict (encL (λy=>-2) L) s',.lst (aS tb),.lst []]) (h:=0) (r:=3) (a:=0) ⟨⟨s,rfl⟩,λy=>rfl,⟨s',rfl⟩,rfl⟩ ⟨?_,aA (eb zl (dc 2 zc)) ⋯,?_,?_,ba _,aA (eb zL zc) ⋯,Int.le_refl _⟩ rfl
  .exact aA (dC (dc 2 zc) 100000) ⋯
  .exact aA (eb z (dc 100 zc)) ⋯
  .exact bp (bX (cW _)) (bp zc ⋯)
end
def cE(k:Nat):List Me->Nat
 | []=>0|m::E=>(if m.k=k then m.c else 0)+cE k E
def bM(k:Nat)(E:List Me):Prop:=∃m∈E,m.k=k
def i6(E:List Me):Prop:=∀m∈E,m.c≠0
variable{m:Me}{B E:List Me}{x:In}{g:Int}
section
variable{k:Nat}{A:List Me}
def ph:stI I m k=if m.k=k then fM (I k) m else I k:=by
 unfold stI up;by_cases e:k=m.k
 .rw[aI e,aI e.symm,e]
 .rw[aD e,aD λz=>e z.symm]
def qo:cE k (A++B)=cE k A+cE k B:=by
 induction A with
 |nil=>exact(cW _).symm|cons m A ih=>exact(aF (_+·) ih).trans (bT ..).symm
def Et(h:m∈E)(e:m.k=k):m.c<=cE k E:=by
 induction E with
 |nil=>exact memN h|cons n E ih=>
  show m.c<=(if n.k=k then n.c else 0)+cE k E
  rcases bD.mp h with rfl|h
  .rw[aI e];exact aW _ _
  .exact aA (ih h) (cI _ _)
def vv(p:i6 E)(h:bM k E):1<=cE k E:=h.elim λm ζ'=>ζ'.elim λa e=>aA (vW (p m a)) (Et a e)
def Oa:∀{I:Nat->In},((E.foldl stI I) k).cnt=(I k).cnt+cE k E:=by
 induction E with
 |nil=>exact rfl|cons m E ih=>
  intro I;refine(ih (I:=stI I m)).trans ?_;show _=(I k).cnt+((if m.k=k then m.c else 0)+cE k E)
  rw[ph,<-bT];refine aF (·+cE k E) ?_;by_cases e:m.k=k
  .rw[aI e,aI e];unfold fM;by_cases z:(I k).cnt=0
   .rw[aI z,z,cW]
   .rw[aD z]
  .rw[aD e,aD e];rfl
def Fs:∀{I:Nat->In},¬bM k B->(B.foldl stI I) k=I k:=by
 induction B with
 |nil=>exact λy=>rfl|cons m B ih=>exact λ{I} h=>(ih (I:=stI I m) λζ=>ζ.elim λn ζ'=>ζ'.elim λa e=>h ⟨n,.tail _ a,e⟩).trans (ph.trans (aD λe=>h ⟨m,.head _,e⟩))
def AN{P:In->Prop}:∀{I:Nat->In},(∀x m,m∈B->m.k=k->P (fM x m))->P (I k)\/bM k B->P ((B.foldl stI I) k):=by
 induction B with
 |nil=>exact λy h=>h.resolve_right λζ=>ζ.elim λy ζ'=>ζ'.elim λa y=>memN a|cons m B ih=>
  intro I h o;refine ih (I:=stI I m) (λx n a=>h x n (.tail _ a)) ?_;rw[ph];by_cases e:m.k=k
  .rw[aI e];exact .inl (h _ m (.head _) e)
  .rw[aD e];exact o.imp id λ⟨n,a,z⟩=>⟨n,(bD.mp a).resolve_left λq=>e (q▸z),z⟩
def wN{P:In->Prop}(h:∀x m,P x->P (fM x m)):∀{I:Nat->In},P (I k)->P ((B.foldl stI I) k):=by
 induction B with
 |nil=>exact λq=>q|cons m B ih=>
  intro I q;refine ih (I:=stI I m) ?_;rw[ph];by_cases e:m.k=k
  .rw[aI e];exact h _ m q
  .rw[aD e];exact q
def Ob{P:In->Prop}(h:∀x m,P x->P (fM x m)):∀{I:Nat->In},(∀x m,x.cnt=0->m∈A->m.k=k->P (fM x m))->(I k).cnt=0->bM k A->P ((A.foldl stI I) k):=by
 induction A with
 |nil=>exact λj j ζ=>ζ.elim λj ζ'=>ζ'.elim λa j=>memN a|cons m A ih=>
  intro I h0 z o;by_cases e:m.k=k
  .refine wN h (B:=A) (I:=stI I m) ?_;rw[ph,aI e];exact h0 _ m z (.head _) e
  .have s:stI I m k=I k:=ph.trans (aD e);exact ih (I:=stI I m) (λx n y a=>h0 x n y (.tail _ a)) (by rw[s];exact z) (let ⟨n,a,y⟩:=o;⟨n,(bD.mp a).resolve_left λq=>e (q▸y),y⟩)
def sE(E:List Me):Nat->In:=E.foldl stI λy=>u6
def ua:(sE E k).cnt=cE k E:=Oa.trans (cW _)
def xp:sE (A++B)=B.foldl stI (sE A):=List.foldl_append
def KP(h:bM k B)(l:∀m∈B,g<=m.goal/\c<=m.chunk):g<=(sE (A++B) k).last/\c<=(sE (A++B) k).lc:=by
 rw[xp];exact AN (P:=λx=>g<=x.last/\c<=x.lc) (λx m a y=>by
  unfold fM;split
  .exact l m a
  .exact l m a) (.inr h)
def Yt(h:bM k A)(n:¬bM k B)(l:∀m∈A,m.goal<=g/\m.chunk<=c):(sE (A++B) k).last<=g/\(sE (A++B) k).lc<=c:=by
 rw[xp,Fs n];exact AN (P:=λx=>x.last<=g/\x.lc<=c) (λx m a y=>by
  unfold fM;split
  .exact l m a
  .exact l m a) (.inr h)
def Bm(h:x.cnt≠0):(fM x m).fc=x.fc/\(fM x m).first=x.first/\(fM x m).cnt≠0:=by
 unfold fM;rw[aD h];exact⟨rfl,rfl,λe=>h (tB e)⟩
def Yo(p:i6 A)(h:bM k A)(l:∀m∈A,m.chunk<=c):(sE (A++B) k).fc<=c:=by
 rw[xp];refine(wN (P:=λx=>x.cnt≠0/\x.fc<=c) (λx m q=>have z:=Bm (m:=m) q.1;⟨z.2.2,z.1▸q.2⟩) (B:=B) (I:=sE A) ?_).2;exact Ob (P:=λx=>x.cnt≠0/\x.fc<=c) (λx m q=>have z:=Bm (m:=m) q.1;⟨z.2.2,z.1▸q.2⟩) (λx m z a e=>by
  unfold fM;rw[aI z];exact⟨p m a,l m a⟩) rfl h
def Yr(p:m.c≠0)(n:¬bM m.k A):(sE (A++m::B) m.k).first=m.first/\(sE (A++m::B) m.k).fc=m.chunk:=by
 rw[xp];refine(wN (P:=λx=>x.cnt≠0/\x.first=m.first/\x.fc=m.chunk) (λx n q=>have z:=Bm (m:=n) q.1;⟨z.2.2,z.2.1.trans q.2.1,z.1.trans q.2.2⟩) (B:=B) (I:=stI (sE A) m) ?_).2
 rw[ph,aI rfl,show sE A m.k=u6 from Fs n]
 exact⟨p,rfl,rfl⟩
def Yw:(sE E k).uns=L0:=wN (P:=λx=>x.uns=L0) (λx m q=>by
 unfold fM;split
 .rfl
 .exact q) rfl
end
variable{pl:List Nat}{t:U.Tm}{gl:Gl}
section
variable{k:Nat}
def OQ(h:m∈tj pl g c t):m.c≠0/\m.goal=g/\m.chunk=c/\t.has m.k:=by
 have st:m∈(bh [] t).2.map (λk=>(⟨k,pl++Aai,g,c,dj k t⟩:Me))->m.c≠0/\m.goal=g/\m.chunk=c/\t.has m.k:=λh=>by
  obtain⟨j,a,rfl⟩:=dB.mp h;have y:=(pN.mp a).resolve_left dZ;exact⟨fq (pV y),rfl,rfl,y⟩
 cases t with
 |v j=>cases bB.mp h;exact⟨Nat.one_ne_zero,rfl,rfl,rfl⟩|c=>exact st h|s1=>exact st h|s2=>exact st h
def Fj(h:t.has k):∃m∈tj pl g c t,m.k=k/\m.c=dj k t:=by
 have st:∃m∈(bh [] t).2.map (λk=>(⟨k,pl++Aai,g,c,dj k t⟩:Me)),m.k=k/\m.c=dj k t:=⟨_,dB.mpr ⟨k,pN.mpr (.inr h),rfl⟩,rfl,rfl⟩
 cases t with
 |v j=>exact⟨_,.head _,h,(show 1=dj k (.v j) from(aI h).symm)⟩|c=>exact st|s1=>exact st|s2=>exact st
def pE(h:m∈dI pl g c ts):m.c≠0/\m.goal=g/\m.chunk=c/\∃t∈ts,t.has m.k:=(mE.mp h).elim λt ζ'=>ζ'.elim λa b=>have z:=OQ b;⟨z.1,z.2.1,z.2.2.1,t,a,z.2.2.2⟩
def mU(a:t∈ts)(h:t.has k):bM k (dI pl g c ts):=(Fj (pl:=pl) (g:=g) (c:=c) h).elim λm ζ'=>ζ'.elim λb ζ''=>ζ''.elim λe y=>⟨m,mE.mpr ⟨t,a,b⟩,e⟩
def Es:il k ts<=cE k (dI pl g c ts):=by
 induction ts with
 |nil=>exact au _|cons t ts ih=>
  show dj k t+il k ts<=cE k (tj pl g c t++dI pl g c ts);rw[qo];refine eb ?_ ih;by_cases h:t.has k
  .obtain⟨m,a,e,z⟩:=Fj (pl:=pl) (g:=g) (c:=c) h;exact z▸Et a e
  .rw[JN h];exact ba _
def eQ(i c:Nat)(g:Gl):List Me:=ti i c g++dI Aab i c (dJ g)
def hV(g:Gl)(c:Nat):Nat:=if U.isCall g=F6 then c+1 else c
def wL:fK (gl::gs) i c=eQ i c gl++fK gs (i+1) (hV gl c):=(dw ..).symm
def rA(h:m∈eQ i c gl):m.c≠0/\m.goal=i/\m.chunk=c/\cT m.k gl:=by
 rcases cD.mp h with h|h
 .cases gl with
  |call=>exact memN h|bi=>exact memN h|ao j=>cases bB.mp h;exact⟨Nat.one_ne_zero,rfl,rfl,rfl⟩|mk j=>cases bB.mp h;exact⟨Nat.one_ne_zero,rfl,rfl,rfl⟩|ct j=>cases bB.mp h;exact⟨Nat.one_ne_zero,rfl,rfl,rfl⟩|cut=>exact memN h
 .have z:=pE h;exact⟨z.1,z.2.1,z.2.2.1,z.2.2.2.elim λt ζ'=>ζ'.elim λa b=>Ad a b⟩
def rB(h:cT k gl):bM k (eQ i c gl):=by
 have sp:ti i c gl=[⟨k,Aaf,i,c,1⟩]->bM k (eQ i c gl):=λe=>⟨⟨k,Aaf,i,c,1⟩,cD.mpr (.inl (e▸.head _)),rfl⟩;have ar:(∃t∈dJ gl,t.has k)->bM k (eQ i c gl):=λζ=>ζ.elim λt ζ'=>ζ'.elim λa b=>(mU (pl:=Aab) (g:=i) (c:=c) a b).elim λm ζ'=>ζ'.elim λz e=>⟨m,cD.mpr (.inr z),e⟩
 cases gl with
 |call f as=>exact ar h|bi f as=>exact ar h|ao j=>exact sp ((show j=k from h)▸rfl)|mk j=>exact sp ((show j=k from h)▸rfl)|ct j=>exact sp ((show j=k from h)▸rfl)|cut=>exact h.elim
def E3:c<=hV gl c:=by
 unfold hV;split
 .exact cJ _
 .exact au _
def Fg:∀{i c:Nat},m∈fK gs i c->m.c≠0/\(i:Int)<=m.goal/\c<=m.chunk/\∃g∈gs,cT m.k g:=by
 induction gs with
 |nil=>exact λh=>memN h|cons gl gs ih=>
  intro i c h;rw[wL] at h;rcases cD.mp h with h|h
  .have z:=rA h;exact⟨z.1,Int.le_of_eq z.2.1.symm,bX z.2.2.1.symm,gl,.head _,z.2.2.2⟩
  .have z:=ih h;exact⟨z.1,j8 (mC.mpr (cJ i)) z.2.1,aA E3 z.2.2.1,z.2.2.2.elim λg ζ'=>ζ'.elim λa b=>⟨g,.tail _ a,b⟩⟩
end
variable{l:List Nat}
section
variable{Lf:Nat->Int}{k:Nat}{g':Int}
def oy(Lf:Nat->Int)(l:List Nat):Prop:=l.Pairwise λa b=>Lf b<=Lf a
def Xt:∀{n:Nat},n<=acc.length->(∀b∈acc.drop n,Lf b<Lf k)->∀b∈acc.drop (iI Lf acc k n),Lf b<Lf k:=λ{n}=>by
 induction n with
 |zero=>exact λy h=>h|succ n ih=>
  intro z h;rw[ptO_s];by_cases e:Lf ((acc[n]?).getD 0)<Lf k
  .rw[aI e];refine ih (gE z) λb m=>?_;rw[List.drop_eq_getElem_cons z] at m;rw[bu z] at e;exact(bD.mp m).elim (λq=>q▸e) (h b)
  .rw[aD e];exact h
def Xu(s:oy Lf acc):∀{n:Nat},n<=acc.length->∀a∈acc.take (iI Lf acc k n),Lf k<=Lf a:=λ{n}=>by
 induction n with
 |zero=>exact λy a m=>memN m|succ n ih=>
  intro z;rw[ptO_s];by_cases e:Lf ((acc[n]?).getD 0)<Lf k
  .rw[aI e];exact ih (gE z)
  .rw[aD e];intro a m;rw[bu z] at e;have p:=List.Pairwise.sublist (List.take_sublist (n+1) acc) s;rw[List.take_succ,bu z] at m p;exact(cD.mp m).elim (λm=>j8 (mB.mp e) ((List.pairwise_append.mp p).2.2 a m _ (.head _))) λm=>bB.mp m▸mB.mp e
def RP(s:oy Lf acc):oy Lf (iE Lf acc k):=by
 unfold iE;have hi:=Xt (Lf:=Lf) (acc:=acc) (k:=k) (au _) λb m=>by rw[DY] at m;exact memN m
 have lo:=Xu (k:=k) s (au _);refine List.pairwise_append.mpr ⟨List.Pairwise.sublist (List.take_sublist _ _) s,List.pairwise_cons.mpr ⟨λb m=>Int.le_of_lt (hi b m),List.Pairwise.sublist (List.drop_sublist _ _) s⟩,λa ma b mb=>?_⟩;exact(bD.mp mb).elim (λe=>e▸lo a ma) λmb=>j8 (Int.le_of_lt (hi b mb)) (lo a ma)
def Ox{ks:List Nat}:∀{acc:List Nat},oy Lf acc->oy Lf (ks.foldl (iE Lf) acc):=by
 induction ks with
 |nil=>exact λh=>h|cons k ks ih=>exact λh=>ih (RP h)
def VY:e6 Lf g l<=l.length:=by
 induction l with
 |nil=>exact au _|cons a l ih=>
  rw[lvC_c];split
  .exact cP ih
  .exact ba _
def VW(h:g<=g'):e6 Lf g' l<=e6 Lf g l:=by
 induction l with
 |nil=>exact au _|cons a l ih=>
  rw[lvC_c,lvC_c];by_cases e:g'<Lf a
  .rw[aI e,aI (yj h e)];exact cP ih
  .rw[aD e];exact ba _
def VX(s:oy Lf l)(m:k∈l)(h:g<Lf k):l.idxOf k+1<=e6 Lf g l:=by
 induction l with
 |nil=>exact memN m|cons a l ih=>
  have s:=List.pairwise_cons.mp s;rw[lvC_c];by_cases e:a=k
  .subst e;rw[aI h,show(a::l).idxOf a=0 from Dg]
   exact cP (ba _)
  .have m:=(bD.mp m).resolve_left λq=>e q.symm;rw[aI (Int.lt_of_lt_of_le h (s.1 k m)),List.idxOf_cons,(tV.mpr e:(a == k)=L0)];exact cP (ih s.2 m)
end
variable{r:AH}
section
variable{k:Nat}
def Ep:(je args gs K k).last=(bN args gs k).last/\(je args gs K k).cnt=(bN args gs k).cnt/\(je args gs K k).first=(bN args gs k).first/\(je args gs K k).uns=(bN args gs k).uns:=by
 unfold je;split<;>exact⟨rfl,rfl,rfl,rfl⟩
def tX:(hU args gs K k).last=(bN args gs k).last/\(hU args gs K k).kd=(je args gs K k).kd/\(hU args gs K k).uns=(if k∈oO args gs K then eD (bN args gs k).first Aag else L0)/\(k∈oO args gs K->(hU args gs K k).sl=(oO args gs K).idxOf k+1):=by
 have z:=Ep (args:=args) (gs:=gs) (K:=K) (k:=k);unfold hU;by_cases h:k∈oO args gs K
 .rw[aI h,aI h,<-z.2.2.1];exact⟨z.1,rfl,rfl,λy=>rfl⟩
 .rw[aD h,aD h];exact⟨z.1,rfl,z.2.2.2.trans Yw,λq=>absurd q h⟩
def NC:(λk=>(je args gs K k).last)=λk=>(bN args gs k).last:=funext λy=>Ep.1
def ND:(λk=>(hU args gs K k).last)=λk=>(bN args gs k).last:=funext λy=>tX.1
def Ti:eD (kdOf x) Aaj=F6↔x.cnt≠1/\x.fc<x.lc:=by
 unfold kdOf;by_cases h1:x.cnt=1
 .rw[aI h1];exact⟨(λh=>(az h).elim),λh=>absurd h1 h.1⟩
 .rw[aD h1];by_cases h2:x.fc<x.lc
  .rw[aI h2];exact⟨λy=>⟨h1,h2⟩,λy=>rfl⟩
  .rw[aD h2];exact⟨(λh=>(az h).elim),λh=>absurd h.2 h2⟩
def rq:k∈oO args gs K↔k∈K/\(bN args gs k).cnt≠1/\(bN args gs k).fc<(bN args gs k).lc:=by
 unfold oO xZ;rw[Gx,or_iff_right dZ,gX,Cn];refine and_congr_right λh=>?_;unfold wd je;rw[aI h];exact Ti
def Wc:oy (λk=>(bN args gs k).last) (oO args gs K):=by
 unfold oO xZ;rw[NC];exact Ox .nil
def a6(args:List U.Tm)(gs:List Gl)(K:List Nat):Pl:=xf (λk=>decide ((bN args gs k).cnt=1)) (oO args gs K) (λk=>(hU args gs K k).uns) λk=>(hU args gs K k).last
def iZ(args:List U.Tm)(gs:List Gl)(K:List Nat)(i:Nat):Nat:=e6 (λk=>(bN args gs k).last) i (oO args gs K)
def VV(h:i<gs.length):(uJ args gs K)[i]?=F5 (iZ args gs K i):=by
 unfold uJ iZ;rw[ND,gC,De h];rfl
def XM(s:Sv K (hU args gs K) A r)(z:K.length<4000):Pk (a6 args gs K) K (hU args gs K) where
 nK:=s.nd
 kl:=z
 kd:=λk hk=>by
  rw[tX.2.1];unfold je;rw[aI hk];show kdOf (bN args gs k)=if decide ((bN args gs k).cnt=1)=F6 then _ else if decide (k∈oO args gs K)=F6 then _ else _
  unfold kdOf;by_cases h1:(bN args gs k).cnt=1
  .rw[aI h1,aI (bE h1)]
  .rw[aD h1,aD λq=>h1 (dG q)];by_cases h2:(bN args gs k).fc<(bN args gs k).lc
   .rw[aI h2,aI (bE (rq.mpr ⟨hk,h1,h2⟩))]
   .rw[aD h2,aD λq=>h2 (rq.mp (dG q)).2.2]
 sl:=λk y h=>tX.2.2.2 (dG h)
 un:=λy y=>rfl
 la:=λy y=>rfl
 ex:=λk y h=>bC λq=>(rq.mp q).2.1 (dG h)
end
def L9(sig:Nat->Nat):Gl->Prop
 | .call f as=>sig f=as.length/\as.length<=100| .bi f as=>sig f=as.length/\as.length<=100|_=>True
def nB(gs:List Gl):(Nat->Prop)->Prop:=List.rec (motive:=λy=>(Nat->Prop)->Prop) (λy=>True) (λg y ih M=>(∀k,g=.ct k->M k)/\ih λk=>M k\/g=.ao k\/g=.mk k) gs
variable{A:List Me}
section
variable{k:Nat}{us:List U.Tm}
def dg:bM k (A++B)↔bM k A\/bM k B:=⟨λζ=>ζ.elim λm ζ'=>ζ'.elim λa e=>(cD.mp a).imp (λa=>⟨m,a,e⟩) λa=>⟨m,a,e⟩,λh=>h.elim (λζ=>ζ.elim λm ζ'=>ζ'.elim λa e=>⟨m,cD.mpr (.inl a),e⟩) λζ=>ζ.elim λm ζ'=>ζ'.elim λa e=>⟨m,cD.mpr (.inr a),e⟩⟩
def Fh:dI pl g c (ts++us)=dI pl g c ts++dI pl g c us:=vP
def C5(h:t5 k gl):cT k gl:=by
 cases gl with
 |call f as=>exact h|bi f as=>exact h|ao j=>exact h|mk j=>exact h|ct j=>exact h.elim|cut=>exact h.elim
def Qu(h:cT k gl):t5 k gl\/gl=.ct k:=by
 cases gl with
 |call f as=>exact .inl h|bi f as=>exact .inl h|ao j=>exact .inl h|mk j=>exact .inl h|ct j=>exact .inr (aF Gl.ct h)|cut=>exact h.elim
def Wv:∀{i c:Nat},dR gs=L0->m∈fK gs i c->m.chunk<=c:=by
 induction gs with
 |nil=>exact λy h=>memN h|cons gl gs ih=>
  intro i c ne h;rw[wL] at h;have ne:=Bool.or_eq_false_iff.mp (show((U.isCall gl&&!gs.isEmpty)||dR gs)=L0 from ne)
  rcases cD.mp h with h|h
  .exact bX (rA h).2.2.1
  .have z:=ih ne.2 h;unfold hV at z
   cases hc:U.isCall gl with
   |false=>rw[hc] at z;exact z|true=>
    rw[hc] at ne
    cases gs with
    |nil=>exact memN h|cons=>exact nomatch ne.1
end
variable{gs0:List Gl}{sig:Nat->Nat}{pre:List Me}{dead hv:Nat->Prop}{living L:Int}{as:List U.Tm}
section
variable{k:Nat}{rest:List Me}{M:Nat->Prop}{lg:Int}
def xh:(a6 args gs0 K).void k=F6↔(bN args gs0 k).cnt=1:=nT
def Jf(e:gO args gs0=A++B)(pa:i6 A)(pb:i6 B)(a:bM k A)(b:bM k B):¬(a6 args gs0 K).void k=F6:=λh=>by
 have z:(bN args gs0 k).cnt=_:=ua (E:=gO args gs0) (k:=k);rw[xh.mp h,e,qo] at z;exact absurd (eb (vv pa a) (vv pb b)) (by rw[<-z];decide)
def uW(h:(a6 args gs0 K).perm k=F6):k∈oO args gs0 K:=dG h
def Je(h:(a6 args gs0 K).perm k=F6)(l:(i:Int)<(bN args gs0 k).last):(a6 args gs0 K).slot k<=iZ args gs0 K i:=VX Wc (uW h) l
def XN(h:(a6 args gs0 K).perm k=F6):(a6 args gs0 K).slot k<=(oO args gs0 K).length:=Q9 (uW h)
def XO:(a6 args gs0 K).last k=(bN args gs0 k).last:=tX.1
def Uc(h:i<=j):iZ args gs0 K j<=iZ args gs0 K i:=VW (mC.mpr h)
def XQ(h:(a6 args gs0 K).perm k=F6)(f:(bN args gs0 k).first=Aag):(a6 args gs0 K).uns k=F6:=by
 refine tX.2.2.1.trans ?_;rw[aI (uW h),f];rfl
def GW(eE:gO args gs0=pre++(dI Aab i c as++rest))(pp:i6 pre)(ps:i6 rest)(P2:∀k,M k->bM k pre)(P3:∀k,bM k pre->M k\/(a6 args gs0 K).void k=F6)(P4:∀k,dead k->(a6 args gs0 K).void k=L0->¬bM k (dI Aab i c as))
  (sl:∀k,(a6 args gs0 K).perm k=F6->bM k (dI Aab i c as)->((a6 args gs0 K).slot k:Int)<=living) (wt:∀t∈as,t.WT) (vg:∀t∈as,∀k,t.has k->k<N) (P8:∀k,hv k->(a6 args gs0 K).void k=F6/\bM k pre)
  (uvQ:∀k,(a6 args gs0 K).perm k=F6->bM k (dI Aab i c as)->(a6 args gs0 K).uns k=F6->((a6 args gs0 K).slot k:Int)<=L\/U.un (a6 args gs0 K) k lg=F6) (uvN:∀k,(a6 args gs0 K).perm k=F6->bM k (dI Aab i c as)->(bN args gs0 k).fc=c->((a6 args gs0 K).slot k:Int)<=L):
  GA (a6 args gs0 K) N hv M dead living lg L as:=by
 have pe:i6 (dI Aab i c as++rest):=λm h=>(cD.mp h).elim (λh=>(pE h).1) (ps m);have two:∀{k},bM k pre->bM k (dI Aab i c as)->¬(a6 args gs0 K).void k=F6:=λa b=>Jf eE pp pe a (dg.mpr (.inl b));have ax:∀{ts as1:List U.Tm} {Mt:Nat->Prop},as=as1++ts->(∀k,bM k (pre++dI Aab i c as1)->Mt k\/(a6 args gs0 K).void k=F6)->yU (a6 args gs0 K) N (λk=>¬dead k) lg L Mt ts:=λ{ts}=>by
  induction ts with
  |nil=>exact λy y=>cC|cons t ts ih=>
   intro as1 Mt e z;have m:t∈as:=e▸cD.mpr (.inr (.head _));refine And.intro ⟨⟨wt t m,vg t m,λk h v d=>P4 k d v (mU m h)⟩,λk et v p=>?_⟩ (ih (as1:=as1++[t]) (by rw[e,dw];rfl) λk h=>?_)
   .subst et;refine⟨λu=>uvQ k p (mU m rfl) u,λnM=>?_⟩;have nh:¬bM k (pre++dI Aab i c as1):=λh=>(z k h).elim nM λq=>az (v.symm.trans q);have eE':gO args gs0=(pre++dI Aab i c as1)++(⟨k,Aag,i,c,1⟩:Me)::(dI Aab i c ts++rest):=by
     rw[eE,e,Fh,dw,dw];rfl
    have n:=Yr (m:=⟨k,Aag,i,c,1⟩) (A:=pre++dI Aab i c as1) (B:=dI Aab i c ts++rest) Nat.one_ne_zero nh;rw[<-eE'] at n;exact⟨XQ p n.1,uvN k p (mU m rfl) n.2⟩
   .rw[Fh,<-dw] at h;rcases dg.mp h with h|⟨n,h,q⟩
    .exact(z k h).imp .inl id
    .obtain⟨u,mu,hu⟩:=(pE h).2.2.2;exact .inl (.inr (q▸bB.mp mu▸hu))
 refine⟨ax (as1:=[]) rfl λk h=>P3 k ((dg.mp h).resolve_right λζ=>ζ.elim λy ζ'=>ζ'.elim λa y=>memN a),λk v=>⟨?_,λt m h q=>two (P2 k q) (mU m h) v⟩,λt m k h y p=>sl k p (mU m h),λt m k h=>⟨vg t m k h,λq=>have z:=P8 k q;two z.2 (mU m h) z.1⟩⟩;have z:(bN args gs0 k).cnt=_:=ua (E:=gO args gs0) (k:=k);rw[xh.mp v,eE,qo,qo] at z;exact aA (Es (pl:=Aab) (g:=i) (c:=c)) (aA (aW _ _) (aA (cI _ _) (bX z.symm)))
end
structure vI(sig:Nat->Nat)(N:Nat)(g:Gl):Prop where
 wt:∀t∈dJ g,t.WT
 lt:∀k,cT k g->k<N
 sg:L9 sig g
variable{g:Gl}
section
variable{k:Nat}{rest:List Me}{M:Nat->Prop}{lg:Int}
def Qf(eE:gO args gs0=pre++(eQ i c g++rest))(pp:∀m∈pre,m.c≠0/\m.goal<(i:Int)/\m.chunk<=c)(ps:∀m∈rest,m.c≠0/\(i:Int)<=m.goal)(P2:∀k,M k->bM k pre)(P3:∀k,bM k pre->M k\/(a6 args gs0 K).void k=F6)(P4:∀k,dead k->(a6 args gs0 K).void k=L0->¬bM k (eQ i c g))
  (sl:∀k,(a6 args gs0 K).perm k=F6->bM k (eQ i c g)->((a6 args gs0 K).slot k:Int)<=living) (P8:∀k,hv k->(a6 args gs0 K).void k=F6/\bM k pre) (gp:vI sig N g) {Q Mc:Nat->Prop} (nw:∀k,g=.ao k\/g=.mk k->¬Q k) (mq:∀k,M k->Q k) (ct:∀k,g=.ct k->Mc k) (mc:∀k,Mc k->M k)
  (uvQ:∀k,(a6 args gs0 K).perm k=F6->bM k (eQ i c g)->¬((a6 args gs0 K).slot k:Int)<=L->(bN args gs0 k).last<=i) (uvN:∀k,(a6 args gs0 K).perm k=F6->bM k (eQ i c g)->(bN args gs0 k).fc=c->((a6 args gs0 K).slot k:Int)<=L):
  qD (a6 args gs0 K) N sig hv M dead living i L g:=by
 have pe:i6 pre:=λm a=>(pp m a).1;have pg:i6 (eQ i c g):=λm a=>(rA a).1;have pr':i6 rest:=λm a=>(ps m a).1;have two:∀{k},bM k pre->cT k g->¬(a6 args gs0 K).void k=F6:=λa b=>Jf eE pe (λm h=>(cD.mp h).elim (pg m) (pr' m)) a (dg.mpr (.inl (rB b)));have nhv:∀k,cT k g->¬hv k:=λk h q=>two (P8 k q).2 h (P8 k q).1;have ao:∀k,g=.ao k\/g=.mk k->cT k g->(k<N/\¬hv k)/\¬M k/\((a6 args gs0 K).perm k=F6->((a6 args gs0 K).slot k:Int)<=living):=λk e h=>⟨⟨gp.lt k h,nhv k h⟩,λq=>nw k e (mq k q),λp=>sl k p (rB h)⟩;have un:∀k,(a6 args gs0 K).perm k=F6->bM k (eQ i c g)->(a6 args gs0 K).uns k=F6->((a6 args gs0 K).slot k:Int)<=L\/U.un (a6 args gs0 K) k i=F6:=λk p h u=>by
  by_cases q:((a6 args gs0 K).slot k:Int)<=L
  .exact .inl q
  .have l1:=uvQ k p h q;have l2:=(KP (A:=pre) (B:=eQ i c g++rest) (g:=(i:Int)) (c:=0) (dg.mpr (.inl h)) λm a=>(cD.mp a).elim (λa=>⟨Int.le_of_eq (rA a).2.1.symm,ba _⟩) λa=>⟨(ps m a).2,ba _⟩).1;rw[<-eE] at l2;refine .inr ?_;unfold U.un;rw[u,Bool.true_and];exact bE ⟨fD i,XO.trans (Int.le_antisymm l1 l2)⟩
 cases g with
 |call f as=>exact⟨gp.sg,GW eE pe pr' P2 P3 P4 sl gp.wt (λt m k h=>gp.lt k ⟨t,m,h⟩) P8 un uvN⟩|bi f as=>exact⟨gp.sg,GW eE pe pr' P2 P3 P4 sl gp.wt (λt m k h=>gp.lt k ⟨t,m,h⟩) P8 (λk p h y=>.inl (sl k p h)) λk p h y=>sl k p h⟩|ao k=>exact ao k (.inl rfl) rfl|mk k=>exact ao k (.inr rfl) rfl|ct k=>
  have h:=mc k (ct k rfl);have v:=jy.mpr (two (P2 k h) rfl);exact⟨⟨gp.lt k rfl,nhv k rfl⟩,h,v,λd=>P4 k d v (rB rfl)⟩
 |cut=>exact cC
def Qh(hK:∀k,k∈K↔(bN args gs0 k).cnt≠0):∀{i c pre M dead living} {Q Mc:Nat->Prop},gO args gs0=pre++fK gs i c->(∀m∈pre,m.c≠0/\m.goal<(i:Int)/\m.chunk<=c)->(∀k,M k->bM k pre)->(∀k,bM k pre->M k\/(a6 args gs0 K).void k=F6)->(∀k,dead k->(a6 args gs0 K).void k=L0->¬bM k (fK gs i c))->
  (∀k,(a6 args gs0 K).perm k=F6->bM k (fK gs i c)->((a6 args gs0 K).slot k:Int)<=living)->(dR gs=F6->dR gs0=F6/\∀j,i<=j->(iZ args gs0 K j:Int)<=living)->(dR gs0=L0->living=-1)->(∀k,hv k->(a6 args gs0 K).void k=F6/\bM k pre)->(∀g∈gs,vI sig N g)->jX gs Q->(∀k,M k->Q k)->nB gs Mc->(∀k,Mc k->M k)->
  yg (a6 args gs0 K) N sig hv (iZ args gs0 K) (dR gs0) gs i M dead living:=by
 induction gs with
 |nil=>exact λy y y y y y y y y y y y y y=>cC|cons g gs ih=>
  intro i c pre M dead living Q Mc eE pp P2 P3 P4 P5 P6 P7 P8 gp nw mq ct mc;rw[wL] at eE P4 P5;have inR:∀{m},m∈fK gs (i+1) (hV g c)->m.c≠0/\((i+1:Nat):Int)<=m.goal/\hV g c<=m.chunk:=λh=>have z:=Fg h;⟨z.1,z.2.1,z.2.2.1⟩;have up:∀{x:Int},((i+1:Nat):Int)<=x->(i:Int)<x:=λh=>Int.lt_of_lt_of_le (gV.mpr (dy i)) h;have pcs:∀m∈pre++eQ i c g,m.c≠0/\m.goal<=(i:Int)/\m.chunk<=c:=λm h=>(cD.mp h).elim (λh=>have z:=pp m h;⟨z.1,Int.le_of_lt z.2.1,z.2.2⟩) λh=>have z:=rA h;⟨z.1,Int.le_of_eq z.2.1,bX z.2.2.1⟩;have ppp:i6 (pre++eQ i c g):=λm h=>(pcs m h).1;have eE':gO args gs0=(pre++eQ i c g)++fK gs (i+1) (hV g c):=eE.trans (dw ..).symm;have past:∀{k},bM k (pre++eQ i c g)->¬bM k (fK gs (i+1) (hV g c))->(bN args gs0 k).last<=i/\(bN args gs0 k).lc<=c:=λ{k} a n=>by
   have z:=Yt (B:=fK gs (i+1) (hV g c)) a n λm h=>(pcs m h).2;rw[<-eE'] at z;exact z
  have late:∀{k},bM k (fK gs (i+1) (hV g c))->((i+1:Nat):Int)<=(bN args gs0 k).last/\hV g c<=(bN args gs0 k).lc:=λ{k} a=>by
   have z:=KP (A:=pre++eQ i c g) a λm h=>(inR h).2;rw[<-eE'] at z;exact z
  have pm:∀{k},(a6 args gs0 K).perm k=F6->(bN args gs0 k).fc<(bN args gs0 k).lc:=λp=>(rq.mp (uW p)).2.2;have inc:∀{k},bM k (eQ i c g)->bM k (pre++eQ i c g):=λh=>dg.mpr (.inr h);have gok:∀{L:Int},(∀k,(a6 args gs0 K).perm k=F6->bM k (eQ i c g)->¬((a6 args gs0 K).slot k:Int)<=L->(bN args gs0 k).last<=i)->(∀k,(a6 args gs0 K).perm k=F6->bM k (eQ i c g)->(bN args gs0 k).fc=c->((a6 args gs0 K).slot k:Int)<=L)->qD (a6 args gs0 K) N sig hv M dead living i L g:=λa b=>
   Qf eE pp (λm h=>⟨(inR h).1,Int.le_of_lt (up (inR h).2.1)⟩) P2 P3 (λk d v h=>P4 k d v (dg.mpr (.inl h))) (λk p h=>P5 k p (dg.mpr (.inl h))) P8 (gp g (.head _)) nw.1 mq ct.1 mc a b
  refine And.intro (λe=>?_) λne=>?_
  .subst e;have no:∀{k},¬bM k (fK [] (i+1) (hV g c)):=λζ=>ζ.elim λy ζ'=>ζ'.elim λa y=>memN a;exact⟨gok (λk y h y=>(past (inc h) no).1) λk p h e=>absurd (bw (pm p) (past (inc h) no).2) (by rw[e];exact ed c),P7⟩
  .have sl:∀{k},(a6 args gs0 K).perm k=F6->bM k (fK gs (i+1) (hV g c))->(a6 args gs0 K).slot k<=iZ args gs0 K i:=λp h=>Je p (up (late h).1);have gok':=gok (L:=(iZ args gs0 K i:Int)) (λk p h n=>mB.mp λq=>n (mC.mpr (Je p q))) λk p h e=>by
    refine mC.mpr (sl p (sa λn=>?_));exact ed c (bw (e▸pm p) (past (inc h) n).2)
   have neC:U.isCall g=F6->dR (g::gs)=F6:=λh=>by
    show((U.isCall g&&!gs.isEmpty)||dR gs)=F6;rw[h,List.isEmpty_eq_false_iff.mpr ne];rfl
   have neR:dR gs=F6->dR (g::gs)=F6:=λh=>by
    show((U.isCall g&&!gs.isEmpty)||dR gs)=F6;rw[h,Bool.or_true]
   refine⟨gok',λh=>(P6 (neC h)).2 i (au _),ih (Q:=λk=>Q k\/cT k g) (Mc:=λk=>Mc k\/g=.ao k\/g=.mk k) eE' (λm h=>have z:=pcs m h;⟨z.1,yj z.2.1 (gV.mpr (dy i)),aA z.2.2 E3⟩) (λk h=>dg.mpr (h.imp (P2 k) λh=>rB (C5 h))) (λk h=>?_) (λk d v h=>?_) (λk p h=>?_) (λh=>?_) (λh=>?_) (λk h=>⟨(P8 k h).1,dg.mpr (.inl (P8 k h).2)⟩) (λg m=>gp g (.tail _ m)) nw.2 (λk h=>h.imp (mq k) C5) ct.2 λk h=>h.imp (mc k) λh=>h.elim (λe=>e▸rfl) λe=>e▸rfl⟩
   .rcases dg.mp h with h|⟨m,a,e⟩
    .exact(P3 k h).imp .inl id
    .exact .inl ((Qu (e▸(rA a).2.2.2)).elim .inr λz=>.inl (mc k (ct.1 k z)))
   .have old:dead k->False:=λd=>P4 k d v (dg.mpr (.inr h))
    cases hc:U.isCall g with
    |false=>rw[hc] at d;exact old d|true=>
     rw[hc] at d;refine d.elim old λζ=>ζ.elim λm n=>?_;have hp:bM k (pre++eQ i c g):=dg.mpr (m.imp (P2 k) λh=>rB (C5 h));have l:=late h;have fc:=Yo (B:=fK gs (i+1) (hV g c)) ppp hp λm h=>(pcs m h).2.2
     rw[<-eE'] at fc;have lc:c+1<=(bN args gs0 k).lc:=by
      have z:=l.2;unfold hV at z;rw[hc] at z;exact z
     have nv:(bN args gs0 k).cnt≠1:=λe=>az (v.symm.trans (xh.mpr e));have n0:(bN args gs0 k).cnt≠0:=by
      rw[show(bN args gs0 k).cnt=_ from ua (E:=gO args gs0) (k:=k),eE',qo]
      exact fq (bw (vv ppp hp) (aW _ _))
     have p:(a6 args gs0 K).perm k=F6:=bE (rq.mpr ⟨(hK k).mpr n0,nv,bw (kD fc) lc⟩);exact n ⟨p,sl p h⟩
   .cases hc:U.isCall g with
    |false=>exact P5 k p (dg.mpr (.inr h))|true=>exact mC.mpr (sl p h)
   .have z:=P6 (neR h);refine⟨z.1,λj hj=>?_⟩
    cases hc:U.isCall g with
    |false=>exact z.2 j (gE hj)|true=>exact mC.mpr (Uc (gE hj))
   .cases hc:U.isCall g with
    |false=>exact P7 h|true=>exact absurd (P6 (neC hc)).1 (by rw[h];exact az)
def Xa(hs:∀t∈args,aq t=L0)(va:∀t∈args,∀k,t.has k->k<N)(gp:∀g∈gs0,vI sig N g)(nw:jX gs0 λk=>∃t∈args,t.has k)(ct:nB gs0 λy=>False)(ne:gs0≠[])(hK:∀k,k∈K↔(bN args gs0 k).cnt≠0):U.Plan (a6 args gs0 K) N sig (iZ args gs0 K) (dR gs0) (oO args gs0 K).length args gs0:=by
 have hd:∀{k},(∃t∈args,t.has k)->bM k (dI [104,101,97,100] (-1) 0 args):=λζ=>ζ.elim λt ζ'=>ζ'.elim λa b=>mU a b;have noP:dR gs0=L0->∀k,¬(a6 args gs0 K).perm k=F6:=λe k p=>by
  have z:=(rq.mp (uW p)).2.2;have l:(bN args gs0 k).lc<=0:=AN (P:=λx=>x.lc<=0) (B:=gO args gs0) (I:=λy=>u6) (λx m a y=>by
   have q:m.chunk<=0:=(cD.mp a).elim (λa=>bX (pE a).2.2.1) (Wv e);unfold fM;split
   .exact q
   .exact q) (.inl (au 0))
  exact absurd (bw z l) (tF _)
 have pe:∀k,(a6 args gs0 K).perm k=F6->((a6 args gs0 K).slot k:Int)<=if dR gs0=F6 then((oO args gs0 K).length:Int) else -1:=λk p=>by
  cases e:dR gs0 with
  |false=>exact absurd p (noP e k)|true=>exact mC.mpr (XN p)
 refine⟨RH,hs,va,λk v=>?_,λt m k h y p=>pe k p,Qh hK (pre:=dI [104,101,97,100] (-1) 0 args) (c:=0) (Q:=λk=>∃t∈args,t.has k) (Mc:=λy=>False) rfl (λm h=>have z:=pE h;⟨z.1,z.2.1▸by decide,bX z.2.2.1⟩) (λk h=>hd h.2) (λk ζ=>ζ.elim λm ζ'=>ζ'.elim λa e=>?_) (λk d=>d.elim) (λk p y=>pe k p) (λh=>⟨h,λj y=>?_⟩) (λh=>?_) (λk h=>⟨h.1,hd h.2⟩) gp nw (λk h=>h.2) ct λk h=>h.elim,ne⟩
 .have z:(bN args gs0 k).cnt=_:=ua (E:=gO args gs0) (k:=k);rw[xh.mp v] at z;unfold gO at z;rw[qo] at z;exact aA (Es (pl:=[104,101,97,100]) (g:=-1) (c:=0)) (aA (aW _ _) (bX z.symm))
 .have z:=(pE a).2.2.2
  cases v:(a6 args gs0 K).void k with
  |true=>exact .inr rfl|false=>exact .inl ⟨rfl,e▸z⟩
 .rw[aI h];exact mC.mpr VY
 .rw[aD (by rw[h];exact az)]
end
def lY{k:Nat}(h:k<c):a+c≠k:=fq (bw h (cI c a))
def dS{x:Nat}(h:x≠y)(n:x∉l):x∉y::l:=λm=>(bD.mp m).elim h n
def V4(h:∀x∈l,5<=x/\x<a+5)(n:l.Nodup):((a+7)::4::(a+6)::0::1::2::l).Nodup:=by
 have lo:∀{k},k<5->k∉l:=λq m=>ed _ (bw q (h _ m).1);have hi:∀{k},a+5<=k->k∉l:=λq m=>ed _ (bw (h _ m).2 q);have s67:a+7≠a+6:=fq (dy _);exact bo.mpr ⟨dS (lY ⋯) (dS s67 (dS (lY ⋯) (dS (lY ⋯) (dS (lY ⋯) (hi (aW (a+5) 2)))))),bo.mpr ⟨dS (kE (lY ⋯)) (dS ⋯ (dS ⋯ (dS ⋯ (lo ⋯)))),bo.mpr ⟨dS (lY ⋯) (dS (lY ⋯) (dS (lY ⋯) (hi (cJ (a+5))))),bo.mpr ⟨dS ⋯ (dS ⋯ (lo ⋯)),bo.mpr ⟨dS ⋯ (lo ⋯),bo.mpr ⟨lo ⋯,n⟩⟩⟩⟩⟩⟩
def JF{f:Nat->Nat}(n:l.Nodup)(h:∀a b,a∈l->b∈l->f a=f b->a=b):(l.map f).Nodup:=by
 induction l with
 |nil=>exact dU|cons x l ih=>
  have n:=bo.mp n;exact bo.mpr ⟨λm=>(dB.mp m).elim λy ζ'=>ζ'.elim λmy e=>n.1 (h y x (.tail _ my) (.head _) e▸my),ih n.2 λa b ma mb=>h a b (.tail _ ma) (.tail _ mb)⟩
variable{gl m:Nat}
section
variable{z:Nat}
def Yd(hs:∀i∈σ,i<m)(nd:σ.Nodup)(e:rn σ m i=rn σ m j):i=j:=(B8 hs nd).1.symm.trans ((aF (nr σ m) e).trans (B8 hs nd).1)
variable{od cF:List Nat}{A:Nat->Nat}
def XA(b:Bg [z,gl] H (hD (rM (.int fn) (.int (N:Nat)) args) (.lst (goals.map aN)) (.lst (aS cF)) (bA A K) st (app r [.lst (aS od),.lst (aS lives),.inst 8 (xg ne es (aH r+6))])) H')(s:Sv K I A r)(hs:∀i∈[z,gl],i<H.length)(nd:[z,gl].Nodup):
  Pc H' z gl (rn [z,gl] H.length (aH r+7)) (rn [z,gl] H.length 4) (rn [z,gl] H.length (aH r+6)) (rn [z,gl] H.length 2) st N es fn ne args goals lives cF K I (λk=>rn [z,gl] H.length (A k+5)) where
 wx:=(ah▸b.gP (j:=0) rfl).trans (aF (λl=>F5 (Cell.inst 6 [(100897158637842290,.int fn),(5929854835,.tup l),(1543761914995,.obj gl),(1526583357044,.int (N:Nat))])) (eK λy=>lW))
 Ak:=(ah▸b.gP (j:=1) rfl).trans (aF (λl=>F5 (Cell.lst l)) (eK λy=>rT))
 r8:=ah▸b.gP (j:=aH r+7) (c:=.inst 8 (xg ne es (aH r+6))) (ah▸(show aB (hD _ _ _ _ _ (app r _)) (aH r+7)=_ from eA (k:=2)))
 AA:=(ah▸b.gP (j:=4) rfl).trans (aF (λl=>F5 (Cell.dict l st)) (by unfold bA gN ik;rw[gD];rfl))
 Bb:=(ah▸b.gP (j:=aH r+6) (c:=.lst (aS lives)) (ah▸(show aB (hD _ _ _ _ _ (app r _)) (aH r+6)=_ from eA (k:=1)))).trans (aF (λl=>F5 (Cell.lst l)) xJ)
 ta:=(ah▸b.gP (j:=2) rfl).trans (aF (λl=>F5 (Cell.lst l)) xJ)
 inf:=λk hk=>ah▸b.gP (j:=A k+5) (c:=.inst 7 (eV k (I k))) (ah▸(show aB (hD _ _ _ _ _ (app r _)) (A k+5)=_ from dP (s.at_ hk)))
 nd:=by
  have n6:=V4 (a:=aH r) (l:=K.map λk=>A k+5) (λx m=>by
   obtain⟨k,hk,rfl⟩:=dB.mp m;exact⟨cI _ _,Nat.add_lt_add_right (cY (l:=r)▸fO (s.at_ hk)) 5⟩) (JF s.nd λa b ha hb e=>s.inj ha hb (Ds e))
  have z:=JF (f:=rn [z,gl] H.length) n6 λy y y y e=>Yd hs nd e;rw[cV,cV,cV,cV,cV,cV,gD] at z;exact z
end
@[reducible] def kK(fn:Int)(N gl:Nat)(args:List U.Tm):Cell:=.inst 6 [(100897158637842290,.int fn),(5929854835,.tup (args.map aC)),(1543761914995,.obj gl),(1526583357044,.int (N:Nat))]
inductive DE(H H1:AH)(z gl p N:Nat)(fn:Int)(args:List U.Tm)(goals:List Gl):Prop
 |mk {d lv ch st:Nat} {K:List Nat} {A:Nat->Nat} (pc:Pc H1 z gl p d lv ch st N (oO args goals K).length fn (dR goals) args goals (uJ args goals K) (cF goals 0) K (hU args goals K) A) (pk:Pk (a6 args goals K) K (hU args goals K)) (hK:∀k,k∈K↔(bN args goals k).cnt≠0) (keep:∀{i x},aB H i=F5 x->aB H1 i=F5 x/\∀k,A k≠i)
variable{r:Nat->Nat}
section
variable{z:Nat}
def Ih:mc r (rM (.int fn) (.int (N:Nat)) args)=kK fn N (r 1) args:=aF (λl=>Cell.inst 6 [(100897158637842290,.int fn),(5929854835,.tup l),(1543761914995,.obj (r 1)),(1526583357044,.int (N:Nat))]) (eK λy=>lW)
def Ig:mc r (.lst (goals.map aN))=.lst (goals.map aN):=aF Cell.lst (eK λy=>rT)
def Tn(hz:aB H z=F5 (kK fn N gl args))(hg:aB H gl=F5 (.lst (goals.map aN)))(b:Bg [z,gl] H H1' H')(e0:H1'[0]?=F5 (rM (.int fn) (.int (N:Nat)) args))(e1:H1'[1]?=F5 (.lst (goals.map aN))){x:Cell}(h:aB H i=F5 x):aB H' i=F5 x/\∀j,rn [z,gl] H.length (j+5)≠i:=by
 refine⟨?_,λj e=>?_⟩
 .by_cases m:i∈[z,gl]
  .rcases bD.mp m with rfl|m
   .exact((ah▸b.gP e0:aB H' _=_).trans (aF F5 Ih)).trans (hz.symm.trans h)
   .cases bB.mp m;exact((ah▸b.gP e1:aB H' _=_).trans (aF F5 Ig)).trans (hg.symm.trans h)
  .rw[ah];exact b.out m (ah▸h)
 .have l:=fO h;exact qS.mpr l (e▸(show H.length<=rn [z,gl] H.length (j+5) from aW H.length (j+5-2)))
end
section
variable{z:Nat}{Q:K1}
variable(pr:a9 W)(hz:aB H z=F5 (kK fn N gl args))(hg:aB H gl=F5 (.lst (goals.map aN)))
include hz hg
omit pr in
theorem aBE:(∀i∈[z,gl],i<H.length)/\[z,gl].Nodup:=⟨λi m=>(bD.mp m).elim (λe=>e▸fO hz) λm=>bB.mp m▸fO hg,bo.mpr ⟨λm=>jk hz hg Cell.noConfusion (bB.mp m),bo.mpr ⟨dZ,dU⟩⟩⟩
include pr
def E5(ha:∀t∈args,(∀k,t.has k->k<60)/\t.a7<aJ)(hgl:∀g∈goals,vH g)(hl:goals.length<=100)(q:∀{H1 p},DE H H1 z gl p N fn args goals->Q (.obj p) H1):Fi W (n+6) 63 [.obj z] H Q:=by
 obtain⟨hs,nd⟩:=aBE hz hg;have all:hH (λi c=>aB H i=F5 (mc (rn [z,gl] H.length) c)) [z,gl] [rM (.int fn) (.int (N:Nat)) args,.lst (goals.map aN)]:=⟨hz.trans (aF F5 (Ih (r:=rn [z,gl] H.length)).symm),hg.trans (aF F5 Ig.symm),cC⟩;exact tw (vs:=[.obj 0]) nd all (NX pr (fn:=.int fn) (cnt:=.int (N:Nat)) ha hgl hl λ{K A r st} s nK hK {H'} b=>q ⟨XA b s hs nd,XM s (bp s.len (lz rfl)),hK,λh=>have z:=Tn hz hg b rfl rfl h;⟨z.1,λk=>z.2 (A k)⟩⟩)
end
def oN{s:List Nat}:Vd n (.str s):=by cases n<;>exact cC
def sU{i:Int}:Vd n (.int i):=by cases n<;>exact cC
def aAz:∀{d m:Nat},t.dep<=d->Vd (m+(2*d+2)) (aC t):=by
 induction t with
 |v=>exact λz=>⟨oN,sU,cC⟩|c=>exact λz=>⟨oN,sU,cC⟩|s1 f x ih=>
  intro d m h
  cases d with
  |zero=>exact absurd h (jW _)|succ d=>exact⟨oN,sU,⟨ih (iP h),cC⟩,cC⟩
 |s2 f x y i1 i2=>
  intro d m h
  cases d with
  |zero=>exact absurd h (jW _)|succ d=>
   have h:=vV.mp (iP h);exact⟨oN,sU,⟨i1 h.1,i2 h.2,cC⟩,cC⟩
def Ld{f:α->V}{l:List α}(h:∀x∈l,Vd n (f x)):mO n (l.map f):=by
 induction l with
 |nil=>exact cC|cons x l ih=>exact⟨h x (.head _),ih λy m=>h y (.tail _ m)⟩
def U0:∀{tb:List Nat},(bh tb t).1.dep=t.dep:=by
 induction t with
 |v n=>
  intro tb;rw[kY];by_cases m:n∈tb
  .rw[aI m];rfl
  .rw[aD m];rfl
 |c=>exact rfl|s1 f x ih=>exact aF Nat.succ ih|s2 f x y i1 i2=>exact aF Nat.succ (congr (aF max i1) i2)
def Ux:∀{tb:List Nat},(∀t∈ts,t.dep<=d)->∀t∈(eH tb ts).1,t.dep<=d:=by
 induction ts with
 |nil=>exact λy y m=>memN m|cons t ts ih=>exact λh u m=>(bD.mp m).elim (λe=>e▸U0.symm▸h t (.head _)) λm=>ih (λu m=>h u (.tail _ m)) u m
def yK(h:∀t∈ts,t.dep<=150):mO (m+302) ((eW ts).map aC):=Ld λt mt=>aAz (d:=150) (Ux h t mt)
def uh(h:eM S ts):∀t∈ts.map (U.Tm.app S),t.dep<=150:=λt m=>let ⟨u,mu,e⟩:=dB.mp m;e▸h u mu
def QY:∀{p q:PS},l9 picks gs p q->(∀e∈p.evs,Vd 1200 (dD e))->∀e∈q.evs,Vd 1200 (dD e):=by
 induction gs with
 |nil=>exact λC h=>by cases C;exact h|cons g gs ih=>
  rintro p q ⟨sh,_,S2,_,C⟩ h
  refine ih C λe m=>?_
  cases g with
  |call f as=>exact(cD.mp m).elim (h e) λm=>bB.mp m▸⟨oN,sU,yK (m:=896) (uh sh),cC⟩|bi f as=>exact(cD.mp m).elim (h e) λm=>bB.mp m▸⟨oN,sU,yK (m:=896) (uh sh),cC⟩|ao k=>exact h e m|mk k=>exact h e m|ct k=>exact(cD.mp m).elim (h e) λm=>bB.mp m▸⟨oN,yK (ts:=[(U.Tm.v k).app p.S]) (m:=896) (uh (ts:=[.v k]) sh),cC⟩|cut=>exact(cD.mp m).elim (h e) λm=>bB.mp m▸⟨oN,cC⟩
def Qa{P:U.Tm->Prop}:∀{p q:PS},l9 picks gs p q->(∀t∈p.ks,P t)->(∀g∈gs,(∀t∈dJ g,P t)/\(dJ g).length<=100)->(∀t∈q.ks,P t)/\q.ks.length<=p.ks.length+100*gs.length:=by
 induction gs with
 |nil=>exact λC h y=>by cases C;exact⟨h,au _⟩|cons g gs ih=>
  rintro p q ⟨sh,_,S2,_,C⟩ h hg
  have e:(p.to g picks S2).ks=p.ks++dJ g:=by
   cases g with
   |call f as=>rfl|bi f as=>rfl|ao=>exact(fj _).symm|mk=>exact(fj _).symm|ct=>exact(fj _).symm|cut=>exact(fj _).symm
  have z:=ih C (λt m=>by rw[e] at m;exact(cD.mp m).elim (h t) ((hg g (.head _)).1 t)) λg m=>hg g (.tail _ m)
  refine⟨z.1,aA z.2 ?_⟩;rw[e,a8,dY,y5,bT,bW (100*_)];exact dC (b5 (hg g (.head _)).2 _) _
def f9(ts:List U.Tm):Nat:=(ts.map U.Tm.a7).sum
variable{c:Cs}{ps:List U.Pc}
section
variable{pl:Pl}{la:Nat->Nat}{e:Bool}{lg:Int}
def Fy:(iB n).length<=1:=by
 unfold iB;split
 .exact ba _
 .exact au _
def Yj{p:U.Pc}:(eL pl p c).1.length<=1:=by
 cases p with
 |rg r=>exact au _|tm t=>
  cases t with
  |v k=>
   show(kr pl k c).1.length<=1;unfold kr uf;split
   .split<;>exact au _
   .exact au _
  |c=>exact au _|s1=>exact ba _|s2=>exact ba _
def Yl:∀{n:Nat} {c:Cs},(dH pl ps n c).1.length<=2*ps.length+1:=by
 induction ps with
 |nil=>exact Fy|cons p ps ih=>
  intro n c;show(if lP pl p=F6 then dH pl ps (n+1) c else(iB n++((eL pl p c).1++(dH pl ps 0 (eL pl p c).2).1),(dH pl ps 0 (eL pl p c).2).2):Wr).1.length<=_
  split
  .exact aA ih (b5 (dc 2 (cJ _)) 1)
  .rw[a8,a8,dY,y5,iy,bW _ 2];exact aA (eb Fy (eb Yj ih)) (bX (bT 1 1 _).symm)
def AQ{r:U.Place}(h:ps.length<=2):(U.fin pl t r ps c).1.length<=6:=cP (aA Yl (b5 (dc 2 h) 1))
def Jo:∀{c:Cs},(bG pl t c).1.length+6<=6*t.a7/\(bG pl t c).2.1.length<=2:=by
 have lo:∀{x:U.Tm} {c:Cs},(∀{c:Cs},(bG pl x c).1.length+6<=6*x.a7/\(bG pl x c).2.1.length<=2)->(c5 pl (bG pl x) x c).1.length<=6*x.a7:=λ{x c} ih=>by
  unfold c5;split
  .rw[a8];exact aA (dC (AQ (ih (c:=c)).2) _) (ih (c:=c)).1
  .exact ba _
 have md:∀{x:U.Tm} {c:Cs},(∀{c:Cs},(bG pl x c).1.length+6<=6*x.a7/\(bG pl x c).2.1.length<=2)->(eI pl (bG pl x) x c).1.length<=6*x.a7:=λ{x c} ih=>by
  unfold eI;split
  .rw[a8];exact aA (dC (AQ (ih (c:=c.cS)).2) _) (ih (c:=c.cS)).1
  .exact ba _
 induction t with
 |v=>exact λ{c}=>⟨au _,ba _⟩|c=>exact λ{c}=>⟨au _,ba _⟩|s1 f x ih=>exact λ{c}=>⟨aA (b5 (lo ih) 6) (bX (mG 6 x.a7).symm),cJ 1⟩|s2 f x y i1 i2=>
  intro c;refine⟨?_,au 2⟩;show((c5 pl (bG pl y) y c).1++(eI pl (bG pl x) x (c5 pl (bG pl y) y c).2.2).1).length+6<=6*(x.a7+y.a7+1);rw[a8,mG,Nat.mul_add,bW (6*x.a7)];exact b5 (eb (lo i2) (md i1)) 6
def MV{q:U.Place}:(n3 pl t q lg c).1.length<=6*t.a7:=by
 have b:∀{t:U.Tm},(kO pl t q c).1.length<=6*t.a7:=λ{t}=>by
  unfold kO;rw[a8];exact aA (dC (AQ Jo.2) _) Jo.1
 cases t with
 |v k=>
  show(n4 pl k q lg c).1.length<=6;unfold n4;split
  .exact(by decide:1<=6)
  .split<;>exact(by decide:1<=6)
 |c=>exact(by decide:1<=6)|s1=>exact b|s2=>exact b
def IM:∀{n:Nat} {c:Cs},(ig pl lg as n c).1.length<=6*f9 as:=by
 induction as with
 |nil=>exact au _|cons t as ih=>
  intro n c;show((n3 pl t (aP n) lg c).1++_).length<=6*f9 (t::as);rw[a8,show f9 (t::as)=t.a7+f9 as from yt,Nat.mul_add]
  exact eb MV ih
def CA{i:U.Place->bO}{k:Nat}:(jM pl i k c).1.length<=1:=by
 unfold jM;split
 .exact ba _
 .exact au _
def Qc:(gm pl g i c).1.length<=6*f9 (dJ g)+1:=by
 cases g with
 |call f as=>exact fE IM|bi f as=>
  show((ig pl (-1) as 1 c).1++[bO.jd f]).length<=_;rw[a8];exact cP IM
 |ao=>exact CA|mk=>exact CA|ct=>exact CA|cut=>exact au _
def Qg(h:∀g∈gs,f9 (dJ g)<=21):∀{i:Nat} {c:Cs},(iT pl la e gs i c).length<=129*gs.length:=by
 induction gs with
 |nil=>exact au _|cons g gs ih=>
  intro i c;show((gm pl g i c).1++if gs.isEmpty=F6 then(if e=F6 then[.hZ] else[])++[pD g] else qw (la i) g++iT pl la e gs (i+1) _).length<=129*(gs.length+1)
  have l1:(gm pl g i c).1.length<=127:=aA Qc (cP (dc 6 (h g (.head _))));rw[a8,y5,bW];have l2:(if gs.isEmpty=F6 then(if e=F6 then[bO.hZ] else[])++[pD g] else qw (la i) g++iT pl la e gs (i+1) (gm pl g i c).2).length<=129*gs.length+2:=by
   split
   .cases e
    .exact aA (cJ 1) (cI 2 _)
    .exact cI 2 _
   .rw[a8,bW];refine eb (ih λg m=>h g (.tail _ m)) (aA ?_ (cJ 1))
    cases g with
    |call=>exact au _|bi=>exact ba _|ao=>exact ba _|mk=>exact ba _|ct=>exact ba _|cut=>exact ba _
  exact aA (eb l2 l1) (bX (bT _ 2 127))
def Q0:∀{n:Nat} {c:Cs},(iD pl args n c).1.length<=args.length:=by
 induction args with
 |nil=>exact au _|cons t args ih=>
  intro n c;show((mW pl t (aP n) c).1++(iD pl args (n+1) _).1).length<=args.length+1;have l:(mW pl t (aP n) c).1.length<=1:=by
   cases t with
   |v k=>
    show(if pl.void k=F6 then _ else _:Wr).1.length<=1
    split
    .exact ba _
    .split<;>exact au _
   |c=>exact au _|s1=>exact ba _|s2=>exact ba _
  rw[a8,bW];exact eb ih l
def z5(h:∀g∈gs,f9 (dJ g)<=21)(ha:args.length<=100)(h2:gs.length<=5):(hW pl N la e es args gs).length<=746:=by
 unfold hW;rw[a8,a8];have l1:(if e=F6 then[bO.alloc es] else[]).length<=1:=by cases e;exact ba _;exact au _
 exact eb l1 (eb (aA Q0 ha) (aA (Qg h) (dc 129 h2)))
end
def Ge(hK:∀k,k∈K↔(bN args goals k).cnt≠0){k:Nat}(h:bM k (gO args goals))(p:i6 (gO args goals)):k∈K:=(hK k).mpr (by
 rw[show(bN args goals k).cnt=_ from ua (E:=gO args goals) (k:=k)]
 exact fq (vv p h))
def Jk:i6 (gO args goals):=λm h=>(cD.mp h).elim (λh=>(pE h).1) λh=>(Fg h).1
def OP{k:Nat}(h:cT k g):∀{i c:Nat},g∈gs->bM k (fK gs i c):=by
 induction gs with
 |nil=>exact λm=>memN m|cons a gs ih=>
  intro i c m;rw[wL];exact(bD.mp m).elim (λe=>dg.mpr (.inl (rB (e▸h)))) λm=>dg.mpr (.inr (ih m))
def E9{z p:Nat}(pr:a9 W){s:V}{Q:K1}(c:DE H H1 z gl p N fn args goals)(h1:goals≠[])(h2:goals.length<=5)(ha:args.length<=100)(hs:∀t∈args,aq t=L0)(hg:∀g∈goals,f9 (dJ g)<=21/\∀t∈dJ g,aq t=F6->T2 t)(q:∀{H2 cd K},(∀k,k∈K↔(bN args goals k).cnt≠0)->H.length<=cd->aB H2 cd=F5 (.lst ((hW (a6 args goals K) N (iZ args goals K) (dR goals) (oO args goals K).length args goals).map fz))->(∀{i x},aB H i=F5 x->aB H2 i=F5 x)->Q (.obj cd) H2):Fi W (n+10) 46 [s,.obj z,.obj p] H1 Q:=by
 obtain⟨pc,pk,hK,keep⟩:=c;have inK:∀{g k},g∈goals->cT k g->k∈_:=λm h=>Ge hK (dg.mpr (.inr (OP h m))) Jk;refine Nf pr pc pk (λj hj=>kS (VV (Dx hj))) h1 (aA (z5 (λg m=>(hg g m).1) ha h2) (lz rfl)) (λt m=>⟨hs t m,λx h=>Ge hK (dg.mpr (.inl (mU m h))) Jk⟩) (λg m=>?_) λ{H2} hc hk=>q hK (fE (cY (l:=H1)▸nI λlt=>ed _ (fO (keep (ah▸bu lt)).1))) hc λh=>hk (keep h).1 λm=>(dB.mp m).elim λk ζ'=>ζ'.elim λo e=>(keep h).2 k e;have z:=(hg g m).2
 cases g with
 |call f as=>exact λt mt=>⟨λy h=>inK m ⟨t,mt,h⟩,z t mt⟩|bi f as=>exact λt mt=>⟨λy h=>inK m ⟨t,mt,h⟩,z t mt⟩|ao k=>exact inK m rfl|mk k=>exact inK m rfl|ct k=>exact inK m rfl|cut=>exact cC
def Vy{e:U.Ev}:mv r (dD e)=dD e:=by
 obtain⟨a,f,ts⟩:=e;have z:eT r (ts.map aC)=ts.map aC:=eK λy=>lW;rcases a with _|_|_|a
 .exact aF (λl=>V.tup [.str Aaa,.int f,.lst l]) z
 .exact aF (λl=>V.tup [.str Aac,.int f,.lst l]) z
 .exact aF (λl=>V.tup [.str [99,117,116,116,111],.lst l]) z
 .rfl
def Vs:ik r (dQ b)=dQ b:=by
 unfold ik dQ;rw[gD];exact ix λp y=>aF (Prod.mk _) lW
def hG(c:Cell):Prop:=∀r:Nat->Nat,mc r c=c
def EK:hG (.lst (ts.map aC)):=λy=>aF Cell.lst (eK λy=>lW)
def MK{es:List U.Ev}:hG (.lst (es.map dD)):=λy=>aF Cell.lst (eK λy=>Vy)
def ML:hG (.lst (is.map fz)):=λy=>aF Cell.lst (eK λy=>Ip)
def MJ:hG (.dict (dQ b) st):=λy=>aF (Cell.dict · st) Vs
def EG:hG (.lst (fs.map nV)):=λy=>aF Cell.lst (eK λy=>rfl)
@[reducible] def Kh:Cell:=.inst 0 [(1599430227059,.obj 1),(109388970062261371602777502323,.obj 2),(25829672611287626355,.obj 3),(1861224063156749765404099319326667379,.obj 4)]
@[reducible] def fS(cd hd:Nat):List Nat:=[0,1,2,3,4,cd,hd,7]
structure Fo(X:Fx)(H:AH)(cd hd:Nat):Prop where
 h0:aB H 0=F5 Kh
 h1:aB H 1=F5 X.c1
 h2:aB H 2=F5 X.c2
 h3:aB H 3=F5 (.lst (X.fs.map nV))
 h4:aB H 4=F5 X.c4
 hc:aB H cd=F5 (.lst (X.code.map fz))
 hh:aB H hd=F5 (.dict [] 0)
 h7:aB H 7=F5 (.lst (X.call.map aC))
 cd:8<=cd
 hd:8<=hd
 a1:hG X.c1
 a2:hG X.c2
 a4:hG X.c4
section
variable{cd hd:Nat}(f:Fo X H cd hd)
include f
def Fo.nd:(fS cd hd).Nodup:=by
 have n1:cd≠hd:=jk f.hc f.hh Cell.noConfusion;have c:∀{k},k<8->k≠cd:=λq e=>ed _ (bw q (e▸f.cd));have d:∀{k},k<8->k≠hd:=λq e=>ed _ (bw q (e▸f.hd));have z:∀{k} {l:List Nat},k<8->k∉l->k∉cd::hd::l:=λq n=>dS (c q) (dS (d q) n);have s:∀{k j:Nat},k≠j->k∉[j]:=λh m=>h (bB.mp m);exact bo.mpr ⟨dS (show(0:Nat)≠1 by decide) (dS (show(0:Nat)≠2 by decide) (dS (show(0:Nat)≠3 by decide) (dS (show(0:Nat)≠4 by decide) (z ⋯ (s (show(0:Nat)≠7 by decide)))))),bo.mpr ⟨dS (show(1:Nat)≠2 by decide) (dS (show(1:Nat)≠3 by decide) (dS (show(1:Nat)≠4 by decide) (z ⋯ (s (show(1:Nat)≠7 by decide))))),bo.mpr ⟨dS (show(2:Nat)≠3 by decide) (dS (show(2:Nat)≠4 by decide) (z ⋯ (s (show(2:Nat)≠7 by decide)))),bo.mpr ⟨dS (show(3:Nat)≠4 by decide) (z ⋯ (s (show(3:Nat)≠7 by decide))),bo.mpr ⟨z ⋯ (s (show(4:Nat)≠7 by decide)),bo.mpr ⟨dS n1 (s (c ⋯).symm),bo.mpr ⟨s (d ⋯).symm,bo.mpr ⟨dZ,dU⟩⟩⟩⟩⟩⟩⟩⟩
def Fo.all:hH (λi c=>aB H i=F5 (mc (rn (fS cd hd) H.length) c)) (fS cd hd) (hC X):=⟨f.h0,f.h1.trans (aF F5 (f.a1 _).symm),f.h2.trans (aF F5 (f.a2 _).symm),f.h3.trans (aF F5 (EG _).symm),f.h4.trans (aF F5 (f.a4 _).symm),f.hc.trans (aF F5 (ML _).symm),f.hh,f.h7.trans (aF F5 (EK _).symm),cC⟩
def Fo.bg(g:Bg (fS cd hd) H (hF X b st evs ks G) H'):aB H' (rn (fS cd hd) H.length 8)=F5 (.lst (evs.map dD))/\aB H' (rn (fS cd hd) H.length 9)=F5 (.lst (ks.map aC))/\aB H' hd=F5 (.dict (dQ b) st)/\∀{i x},aB H i=F5 x->i≠hd->aB H' i=F5 x:=by
 have at_:∀{j c},(hF X b st evs ks G)[j]?=F5 c->hG c->aB H' (rn (fS cd hd) H.length j)=F5 c:=λh a=>by rw[ah,g.gP h,a]
 refine⟨at_ (j:=8) rfl MK,at_ (j:=9) rfl EK,at_ (j:=6) rfl MJ,λ{i x} h n=>?_⟩;by_cases m:i∈fS cd hd
 .obtain⟨j,hj⟩:=jS.mp m;have same:∀{c},(hF X b st evs ks G)[j]?=F5 c->aB H i=F5 (mc (rn (fS cd hd) H.length) c)->aB H' i=F5 x:=λa e=>by
   have z:=g.gP a;rw[oL hj] at z;rw[ah,z,<-e,h]
  rcases j with _|_|_|_|_|_|_|_|j
  .exact same rfl (ay hj▸f.all.1)
  .exact same rfl (ay hj▸f.all.2.1)
  .exact same rfl (ay hj▸f.all.2.2.1)
  .exact same rfl (ay hj▸f.all.2.2.2.1)
  .exact same rfl (ay hj▸f.all.2.2.2.2.1)
  .exact same rfl (ay hj▸f.all.2.2.2.2.2.1)
  .exact absurd (ay hj).symm n
  .exact same rfl (ay hj▸f.all.2.2.2.2.2.2.2.1)
  .exact ai hj
 .rw[ah];exact g.out m (ah▸h)
def GC(pr:a9 W){Q:K1}(hc:∀T∈X.call,aU 100000 T/\∀k,T.has k->N<=k)(z:X.call.length<=100)(zc:X.code.length<=900)(hR:∀F,U.Start N 100000 X.call F->F.living=-1->Rd W n X (fQ W n λv H1'=>∀{H'},Bg (fS cd hd) H H1' H'->Q (mv (rn (fS cd hd) H.length) v) H') X.code F):Fi W (n+156) 76 [.obj 0,.obj cd,.obj hd,.obj 7,.lst (eC X.picks)] H Q:=by
 have e:eT (rn (fS cd hd) H.length) [.obj 0,.obj 5,.obj 6,.obj 7,.lst (eC X.picks)]=[.obj 0,.obj cd,.obj hd,.obj 7,.lst (eC X.picks)]:=aF (λl=>[V.obj 0,.obj cd,.obj hd,.obj 7,.lst l]) (eK λy=>rfl);exact e▸tw f.nd f.all (Oy pr hc z zc hR)
end
def Kn{n0:Nat}{call:List U.Tm}{m:Int}(I:U.Start N n0 call F):U.Start N n0 call {F with living:=m}:=⟨I.b,I.rest,I.kept,I.evs,I.sp,I.args,I.ys,I.bL,I.loose⟩
structure Ag(fs:List (Nat×Nat))(N:Nat)(args:List U.Tm)(goals:List Gl)(call:List U.Tm)(picks:List Nat)(sig:Nat->Nat):Prop where
 ar:∀{f},(f=32\/f=0\/f=33)->∃a,aB fs f=F5 (a,U.ar f)
 a:∀t∈args,t.WT/\(∀k,t.has k->k<N)/\t.dep<=3/\aq t=L0
 n8:N<=8
 c:∀t∈call,t.WT/\(∀k,t.has k->500<=k/\k<=501)/\t.dep<=3
 hl:args.length=call.length
 h3:call.length<=3
 g5:goals.length<=5
 ne:goals≠[]
 gp:∀g∈goals,vI sig N g
 gz:∀g∈goals,(∀t∈dJ g,t.dep<=3/\(aq t=F6->T2 t))/\f9 (dJ g)<=21/\(dJ g).length<=100
 nw:jX goals λk=>∃t∈args,t.has k
 ct:nB goals λy=>False
 p:0<picks.length
abbrev iG:List Nat:=[0,1,2,3,4,5,6,7,500,501]
def JD{k:Nat}(h:k<8):k∈iG:=by
 rcases k with _|_|_|_|_|_|_|_|k
 .exact .head _
 .exact .tail _ (.head _)
 .exact .tail _ (.tail _ (.head _))
 .exact .tail _ (.tail _ (.tail _ (.head _)))
 .exact .tail _ (.tail _ (.tail _ (.tail _ (.head _))))
 .exact .tail _ (.tail _ (.tail _ (.tail _ (.tail _ (.head _)))))
 .exact .tail _ (.tail _ (.tail _ (.tail _ (.tail _ (.tail _ (.head _))))))
 .exact .tail _ (.tail _ (.tail _ (.tail _ (.tail _ (.tail _ (.tail _ (.head _)))))))
 .exact absurd h (gF.mpr (cI 8 k))
def WJ{k:Nat}(h1:500<=k)(h2:k<=501):k∈iG:=by
 obtain⟨j,rfl⟩:=yx h1;rcases j with _|_|j
 .exact .tail _ (.tail _ (.tail _ (.tail _ (.tail _ (.tail _ (.tail _ (.tail _ (.head _))))))))
 .exact .tail _ (.tail _ (.tail _ (.tail _ (.tail _ (.tail _ (.tail _ (.tail _ (.tail _ (.head _)))))))))
 .exact absurd h2 (qS.mpr (show 501<500+(j+2) from bw (by decide:501<502) (dC (cI 2 j) 500)))
def QL{k:Nat}(m:t∈jg g)(h:t.has k):cT k g:=by
 cases g with
 |call f as=>exact⟨t,m,h⟩|bi f as=>exact⟨t,m,h⟩|ao=>exact memN m|mk=>exact memN m|ct j=>cases bB.mp m;exact h|cut=>exact memN m
def GV(m:t∈jg g):t∈dJ g\/∃k,t=.v k:=by
 cases g with
 |call f as=>exact .inl m|bi f as=>exact .inl m|ao=>exact memN m|mk=>exact memN m|ct j=>exact .inr ⟨j,bB.mp m⟩|cut=>exact memN m
def QM(h:(dJ g).length<=100):(jg g).length<=100:=by
 cases g with
 |call f as=>exact h|bi f as=>exact h|ao=>exact ba _|mk=>exact ba _|ct j=>exact(by decide:1<=100)|cut=>exact ba _
def WD:∀{Q Q':Nat->Prop},jX gs Q->(∀g∈gs,∀k,g=.ao k\/g=.mk k->Q' k->Q k)->(∀k,Q k->Q' k)->(∀k,k<8->Q' k->Q k)->(∀g∈gs,∀k,cT k g->k<8)->jX gs Q':=by
 induction gs with
 |nil=>exact λy y y y y=>cC|cons g gs ih=>
  intro Q Q' h a up dn lt;refine And.intro (λk e q=>h.1 k e (a g (.head _) k e q)) (ih h.2 (λg m k e q=>q.imp (dn k (lt g (.tail _ m) k (by rcases e with e|e<;>exact e▸rfl))) id) (λk h=>h.imp (up k) id) (λk l h=>h.imp (dn k l) id) λg m=>lt g (.tail _ m))
def ZD(m:t∈ts):t.a7<=f9 ts:=by
 induction ts with
 |nil=>exact memN m|cons u ts ih=>
  rw[show f9 (u::ts)=u.a7+f9 ts from yt]
  exact(bD.mp m).elim (λe=>e▸aW _ _) λm=>aA (ih m) (cI _ _)
def ZC(h:aq t=L0):t.a7=1:=by
 cases t with
 |v=>rfl|c=>rfl|s1=>exact nomatch h
 |s2=>exact nomatch h
section
variable{call:List U.Tm}(h:Ag fs N args goals call picks sig)
include h
def Ag.la:∀t∈args,U.Lt iG 3 t:=λt m=>⟨λk q=>JD (bw ((h.a t m).2.1 k q) h.n8),(h.a t m).2.2.1⟩
def Ag.lc:∀t∈call,U.Lt iG 3 t:=λt m=>⟨λk q=>have z:=(h.c t m).2.1 k q;WJ z.1 z.2,(h.c t m).2.2⟩
def Ag.g8:∀g∈goals,∀k,cT k g->k<8:=λg m k q=>bw ((h.gp g m).lt k q) h.n8
def Ag.lg:∀g∈goals,(∀k,cT k g->k∈iG)/\∀t∈jg g,t.dep<=3:=λg m=>⟨λk q=>JD (h.g8 g m k q),λt mt=>(GV mt).elim (λz=>((h.gz g m).1 t z).1) λζ=>ζ.elim λk e=>by rw[e];exact ba _⟩
def Ag.Uv:∀g∈goals,∀t∈dJ g,U.Lt iG 3 t:=λg m t mt=>⟨λk q=>(h.lg g m).1 k (Ad mt q),((h.gz g m).1 t mt).1⟩
def Ag.qa:∀t∈args,Qz t:=λt m=>⟨λk q=>aA (d9 ((h.a t m).2.1 k q)) (aA h.n8 ⋯),(h.a t m).1,aA (h.a t m).2.2.1 ⋯⟩
def Ag.ic:∀T∈call,aU 100000 T/\∀k,T.has k->N<=k:=λt m=>⟨⟨λk q=>aA ((h.c t m).2.1 k q).2 ⋯,(h.c t m).1,aA (h.c t m).2.2 ⋯⟩,λk q=>aA h.n8 (aA (by decide:8<=500) ((h.c t m).2.1 k q).1)⟩
def Ag.qc:∀t∈call,Qz t:=λt m=>(h.ic t m).1.mono ⋯
def Ag.qg:∀g∈goals,yf g:=λg m=>⟨λt mt=>⟨λk q=>aA (d9 (h.g8 g m k (QL mt q))) ⋯,(GV mt).elim (λz=>(h.gp g m).wt t z) λζ=>ζ.elim λk e=>by rw[e];exact cC,aA ((h.lg g m).2 t mt) ⋯⟩,QM (h.gz g m).2.2,λk e=>aA (d9 (h.g8 g m k (e.elim (λe=>e▸rfl) λe=>e▸rfl))) ⋯⟩
def Ag.gc:∀g∈goals,vH g:=λg m=>⟨λk q=>bw (h.g8 g m k q) ⋯,λt mt=>bp (aA (ZD mt) (h.gz g m).2.1) (lz rfl)⟩
def Ag.ac:∀t∈args,(∀k,t.has k->k<60)/\t.a7<aJ:=λt m=>⟨λk q=>bw ((h.a t m).2.1 k q) (aA h.n8 ⋯),by rw[ZC (h.a t m).2.2.2];exact lz rfl⟩
def Ag.Q(_:Ag fs N args goals call picks sig)(k:Nat):Prop:=(∃t∈args,t.has k)\/500<=k
def Ag.nq:jX goals h.Q:=WD h.nw (λg m k e q=>q.resolve_right λz=>absurd (h.g8 g m k (e.elim (λe=>e▸rfl) λe=>e▸rfl)) (gF.mpr (aA ⋯ z))) (λk=>.inl) (λk l q=>q.resolve_right λz=>absurd l (gF.mpr (aA ⋯ z))) h.g8
def Ag.r8(hK:∀k,k∈K↔(bN args goals k).cnt≠0):U.Plan (a6 args goals K) N sig (iZ args goals K) (dR goals) (oO args goals K).length args goals:=Xa (λt m=>(h.a t m).2.2.2) (λt m=>(h.a t m).2.1) h.gp h.nw h.ct h.ne hK
end
structure Sc where
 c1:Cell
 c2:Cell
 fs:List (Nat×Nat)
 c4:Cell
 a1:hG c1
 a2:hG c2
 a4:hG c4
@[reducible] def pX(s:Sc)(fn:Int)(N:Nat)(args:List U.Tm)(goals:List Gl)(call:List U.Tm):Px:=⟨Kh,s.c1,s.c2,.lst (s.fs.map nV),s.c4,.int fn,.int (N:Nat),args,goals,call⟩
@[reducible] def fX(s:Sc)(code:List bO)(call:List U.Tm)(picks:List Nat):Fx:=⟨s.c1,s.c2,s.fs,s.c4,code,call,picks⟩
def ui(fs:List (Nat×Nat))(f:Nat):Nat:=((aB fs f).map Prod.snd).getD 2000
def Oh(h:∀{b st ks G Fr},QQ (.ret (.tup [.obj 8,.obj 9,.str Aae])) Fr (hF X b st evs ks G)):nD QQ X evs:=h
def N4(h:∀{st G Fr},QQ (.ret (.tup [.obj 8,.obj 9,.str Aah])) Fr (hF X F.b st F.evs F.kept G)):yY QQ X F:=h
def GJ{Q:K1}{F:Fa}(h:Q v H):fQ W n Q (.ret v) F H:=h
def UI{A B:List V}{Q:K1}(e:A=B)(vd:mO 1200 A)(q:Q (.bool F6) H):Seq (Prim W (.cmp .Eq) [.lst A,.lst B] H) Q:=e▸mn (nJ.lst .val .val vd) q
section
variable{s:Sc}{call:List U.Tm}(h:Ag s.fs N args goals call picks (ui s.fs))
include h
variable(pr:a9 W){Q:K1}
theorem KN{code:List bO}(e:code=hW (a6 args goals K) N (iZ args goals K) (dR goals) (oO args goals K).length args goals)(pr:a9 W)(st:U.Start N 100000 call F)(hv:F.living=-1)(hR:Rd W n (fX s code call picks) QQ ((iD (a6 args goals K) args 1 ⟨[],[],N⟩).1++iT (a6 args goals K) (iZ args goals K) (dR goals) goals 0 (iD (a6 args goals K) args 1 ⟨[],[],N⟩).2) {F with living:=if dR goals=F6 then((oO args goals K).length:Int) else -1}):Rd W n (fX s code call picks) QQ code F:=by
 subst e;unfold hW;generalize dR goals=b at hR ⊢
 cases b with
 |true=>exact X2 pr (X:=fX s (bO.alloc (oO args goals K).length::_) call picks) rfl st.rest hv hR|false=>exact(show {F with living:=-1}=F by rw[<-hv])▸hR
include pr
theorem MP(q:∀{H'},Q (.bool F6) H'):Fi W (n+158) 77 [.obj 0,.obj 5,.obj 7,.lst (eC picks)] (hA (pX s fn N args goals call) []) Q:=by
 have z3:args.length<=100:=aA (bX h.hl) (aA h.h3 ⋯)
 have zc:call.length<=100:=aA h.h3 ⋯
 have zg:goals.length<=100:=aA h.g5 ⋯
 have hs:∀t∈args,aq t=L0:=λt m=>(h.a t m).2.2.2;have hgz:∀g∈goals,f9 (dJ g)<=21/\∀t∈dJ g,aq t=F6->T2 t:=λg m=>⟨(h.gz g m).2.1,λt mt=>((h.gz g m).1 t mt).2⟩;have sub:jY λt=>U.Lt iG 3 t/\∀n,t.has n->h.Q n:=⟨λf x z=>⟨(Bf iG 3).1 f x z.1,z.2⟩,λf x y z=>⟨⟨((Bf iG 3).2 f x y z.1).1,λn q=>z.2 n (.inl q)⟩,⟨((Bf iG 3).2 f x y z.1).2,λn q=>z.2 n (.inr q)⟩⟩⟩;refine pr.fe QG rfl (bz 2 (kX (XW pr (n:=n+2) (X:=pX s fn N args goals call) (R:=λt=>U.Lt iG 3 t/\∀n,t.has n->h.Q n) sub (λt m=>⟨h.qa t m,h.la t m,λk q=>.inl ⟨t,m,q⟩⟩) (λt m=>⟨h.qc t m,h.lc t m,λk q=>.inr ((h.c t m).2.1 k q).1⟩) h.qg h.hl zc h.g5 h.p (λno {b st g0}=>bH (bz 1 (kX (bH (bz 1 ?_))))) λ{b S} M bl sat=>?_)))
 .refine E5 pr (n:=n+151) (z:=5) (gl:=6) (N:=N) (fn:=fn) (args:=args) (goals:=goals) rfl rfl h.ac h.gc zg λ{H1 p} c=>E9 pr (n:=n+147) c h.ne h.g5 z3 hs hgz λ{H2 cd K} hK lcd hcd keep=>?_;have fo:Fo (fX s _ call picks) H2 cd (aH (hR (pX s fn N args goals call) b st [] call g0)):=⟨keep (i:=0) rfl,keep (i:=1) rfl,keep (i:=2) rfl,keep (i:=3) rfl,keep (i:=4) rfl,hcd,keep (eA (k:=0)),keep (i:=7) rfl,aA (show 8<=((app g0 [.dict [] 0]).length+3)+8 from cI 8 _) lcd,cI 8 (aH g0+3),s.a1,s.a2,s.a4⟩
  refine GC fo pr (n:=n+1) (N:=N) h.ic zc (aA (z5 (λg m=>(hgz g m).1) z3 h.g5) ⋯) λF st hv=>KN h rfl pr st hv (Q1 (rules pr (X:=fX s _ call picks) h.ar h.p) (Kn st) h.hl (h.r8 hK) no (Oh λ{b st ks G Fr}=>GJ λ{H'} bg=>?_))
  obtain⟨e8,e9,eh,k3⟩:=fo.bg bg;have h9:=k3 (keep (i:=9) rfl) (lY (a:=aH g0) (c:=11) (k:=9) ⋯).symm
  refine bH (mn (kG.lst (l:=([]:List U.Ev).map dD) (.cell (ah▸e8)) (.cell (ah▸h9)) cC) ?_);exact q
 .obtain⟨qs,C,Mq,bl⟩:=QZ (picks:=picks) (gs:=goals) (L:=iG) (d:=3) (by decide:3+3*10<=150) (p:=⟨b,S,call,[]⟩) (Q:=h.Q) M (λp m=>⟨(bl p m).1.1,(bl p m).2.1⟩) (λp m=>⟨(bl p m).1.2,(bl p m).2.2⟩) h.nq h.lg
  have ck:=Qa (P:=U.Lt iG 3) C h.lc λx m=>⟨h.Uv x m,(h.gz x m).2.2⟩;have shq:eM qs.S qs.ks:=λt m=>aA (Be Mq bl t) (aA (b5 (ck.1 t m).2 _) ⋯)
  have lk:qs.ks.length<=600:=aA ck.2 (aA (eb h.h3 (dc 100 h.g5)) ⋯)
  refine⟨qs,C,λ{st g0} M4 hq4=>bH (bz 1 (kX (bH (bz 1 ?_))))⟩;refine E5 pr (n:=n+151) (z:=5) (gl:=6) (N:=N) (fn:=fn) (args:=args) (goals:=goals) rfl rfl h.ac h.gc zg λ{H1 p} c=>E9 pr (n:=n+147) c h.ne h.g5 z3 hs hgz λ{H2 cd K} hK lcd hcd keep=>?_;have fo:Fo (fX s _ call picks) H2 cd (aH (hR (pX s fn N args goals call) qs.b st qs.evs qs.ks g0)):=⟨keep (i:=0) rfl,keep (i:=1) rfl,keep (i:=2) rfl,keep (i:=3) rfl,keep (i:=4) rfl,hcd,keep (eA (k:=0)),keep (i:=7) rfl,aA (show 8<=((app g0 [.dict [] 0]).length+3)+8 from cI 8 _) lcd,cI 8 (aH g0+3),s.a1,s.a2,s.a4⟩
  refine GC fo pr (n:=n+1) (N:=N) h.ic zc (aA (z5 (λg m=>(hgz g m).1) z3 h.g5) ⋯) λF st' hv=>KN h rfl pr st' hv (NZ (rules pr (X:=fX s _ call picks) h.ar h.p) (Kn st') h.hl (h.r8 hK) rfl M sat C λ{G S2 τ ω} ev M2 V=>N4 λ{st G' Fr}=>GJ λ{H'} bg=>?_)
  obtain⟨e8,e9,eh,k3⟩:=fo.bg bg;have nh:∀{k},k<11->k≠aH (hR (pX s fn N args goals call) qs.b st qs.evs qs.ks g0):=λq=>(lY (a:=aH g0) (c:=11) q).symm;have h8:=k3 (keep (i:=8) rfl) (nh ⋯)
  have h9:=k3 (keep (i:=9) rfl) (nh ⋯)
  have h10:=k3 (keep (i:=10) rfl) (nh ⋯)
  rw[ev] at e8;refine bH (mn (kG.lst (l:=qs.evs.map dD) (.cell (ah▸e8)) (.cell (ah▸h9)) (Ld (QY C λo m=>memN m))) ?_);have zn:(bY (qs.ks.map (U.Tm.app qs.S))).length<=10:=mi (r:=iG) (BY (ts:=qs.ks.map (U.Tm.app qs.S)) dU) λx m=>xM Mq (N:=(·∈iG)) (λp m=>⟨(bl p m).1.1,(bl p m).2.1⟩) (λt m=>(ck.1 t m).1) m;have sh2:=V.eM shq;have l2:G.kept.length<=600:=by
   have e:=aF List.length V.to;rw[aQ,aQ,aQ] at e;exact e▸lk
  have z:∀{l:List U.Tm},l.length<=600->l.length<=aJ:=λh=>aA h (lz rfl);have dq:∀{S:Sb} {l:List U.Tm},eM S l->∀t∈l.map (U.Tm.app S),t.dep<=n+155:=λh t m=>aA (uh h t m) (aA (by decide:150<=155) (cI _ _))
  have d1:∀{S:Sb} {l:List U.Tm},eM S l->∀t∈l,(t.app S).dep<=n+155:=λh t m=>dq h _ (s8 m);refine C6 pr Mq h8 (d:=n+155) rfl rfl (d1 shq) (z lk) (.inr ⟨10,rfl,h10⟩) (Ba pr (d:=n+155) (dq shq) (by rw[aQ];exact z lk) (aA zn (lz rfl)) λ{c}=>?_)
  refine C6 pr M2 (dP eh) (d:=n+155) rfl rfl (d1 sh2) (z l2) (.inr ⟨_,rfl,dP e9⟩) (Ba pr (d:=n+155) (dq sh2) (by rw[aQ];exact z l2) (V.names.len▸aA zn (lz rfl)) λ{c'}=>UI (aF (List.map aC) V.eW) (yK (m:=898) (uh shq)) q)
end
def c6(tb:List Nat):Sb:=λn=>.v (tb.idxOf n)
def IG:∀{tb:List Nat},tb <+:(bh tb t).2:=by
 induction t with
 |v n=>
  intro tb;rw[kY];split
  .exact og
  .exact qO _ _
 |c=>exact og|s1 _ x ih=>exact λ{tb}=>ih|s2 _ x y i1 i2=>exact λ{tb}=>i1.trans i2
def Uy:∀{tb:List Nat},tb <+:(eH tb ts).2:=by
 induction ts with
 |nil=>exact og|cons t ts ih=>exact λ{tb}=>IG.trans ih
variable{tf:List Nat}
def Gm(h:tb <+:tf)(m:n∈tb):tf.idxOf n=tb.idxOf n:=by
 obtain⟨e,rfl⟩:=h;rw[Df,aI m]
def U2:∀{tb:List Nat},(bh tb t).2 <+:tf->(bh tb t).1=t.app (c6 tf):=by
 induction t with
 |v n=>
  intro tb h;rw[kY] at h ⊢;by_cases m:n∈tb
  .rw[aI m] at h ⊢;exact aF U.Tm.v (Gm h m).symm
  .rw[aD m] at h ⊢;exact aF U.Tm.v (by rw[Gm h (lE _ (.head _)),Gi m])
 |c=>exact λz=>rfl|s1 f x ih=>exact λh=>aF (U.Tm.s1 f) (ih h)|s2 f x y i1 i2=>exact λ{tb} h=>congr (aF (U.Tm.s2 f) (i1 (IG.trans h))) (i2 h)
def Uz:∀{tb:List Nat},(eH tb ts).2 <+:tf->(eH tb ts).1=ts.map (U.Tm.app (c6 tf)):=by
 induction ts with
 |nil=>exact λy=>rfl|cons t ts ih=>exact λ{tb} h=>congr (aF List.cons (U2 (Uy.trans h))) (ih h)
def kT:Gl->List U.Tm
 | .call _ as=>as| .bi _ as=>as| .ao k=>[.v k]| .mk k=>[.v k]| .ct k=>[.v k]| .cut=>[]
def gT:List Gl->List U.Tm
 | []=>[]|g::gs=>kT g++gT gs
def gw(tb:List Nat):Gl->Gl
 | .call f as=>.call f (as.map (U.Tm.app (c6 tb)))| .bi f as=>.bi f (as.map (U.Tm.app (c6 tb)))| .ao k=>.ao (tb.idxOf k)| .mk k=>.mk (tb.idxOf k)| .ct k=>.ct (tb.idxOf k)| .cut=>.cut
def ZG{pre a b:List α}:((pre++(a++b)).take (pre.length+a.length)).drop pre.length=a:=by
 rw[List.take_append,s9 (aW _ _),qP,List.take_append_of_le_length (au _),yu,List.drop_append_of_le_length (au _),DY,List.nil_append]
section
variable(pr:a9 W){hd:V}{all:List Gl}
include pr
theorem T9{Q:K2}:∀{gs:List Gl} {acc:List U.Tm} {o:Option V},acc.length+(gT gs).length<=1000->
  (∀{o},Q .aK [F5 hd,F5 (.obj 0),F5 (.obj 1),o,L3,L3,L3,L3] [.lst (all.map aN),.lst ((acc++gT gs).map aC)])->
  fh (It .lst (.obj 0) (all.map aN)) 3 (aO W n A7) (gs.map aN) [F5 hd,F5 (.obj 0),F5 (.obj 1),o,L3,L3,L3,L3] [.lst (all.map aN),.lst (acc.map aC)] Q:=by
 intro gs
 induction gs with
 |nil=>exact λ{acc o} y q=>⟨bV rfl,by rw[show gT []=[] from rfl,fj] at q;exact q⟩|cons g gs ih=>
  intro acc o hz q;have e:gT (g::gs)=kT g++gT gs:=rfl;rw[e,<-dw] at q;rw[e,a8,<-bT,<-a8] at hz;have za:acc.length<aJ:=bp (aA (aW _ _) (aA (bX a8.symm) (aA (aW _ _) hz))) (lz rfl);have nx:∀{o} {K:BT},(∀{F H},fh (It .lst (.obj 0) (all.map aN)) 3 (aO W n A7) (gs.map aN) F H Q->K F H Q)->K [F5 hd,F5 (.obj 0),F5 (.obj 1),o,L3,L3,L3,L3] [.lst (all.map aN),.lst ((acc++kT g).map aC)] Q:=λk=>k (ih hz q)
  cases g with
  |call f as=>
   refine de (bV rfl) λK k=>gx (mL.tup .val) ⟨?_,?_⟩
   .rw[aQ,aQ,<-a8];exact aA (aA (aW _ _) hz) (lz rfl)
   .rw[<-b8];exact nx k
  |bi f as=>
   refine de (bV rfl) λK k=>gx (mL.tup .val) ⟨?_,?_⟩
   .rw[aQ,aQ,<-a8];exact aA (aA (aW _ _) hz) (lz rfl)
   .rw[<-b8];exact nx k
  |ao j=>
   refine de (bV rfl) λK k=>?_;have z:=nx (o:=F5 (aN (.ao j))) k;rw[b8] at z;exact dK (W:=W) (i:=1) (H:=[.lst (all.map aN),.lst (acc.map aC)]) (l:=acc.map aC) rfl (by rw[aQ];exact za) z
  |mk j=>
   refine de (bV rfl) λK k=>?_;have z:=nx (o:=F5 (aN (.mk j))) k;rw[b8] at z;exact dK (W:=W) (i:=1) (H:=[.lst (all.map aN),.lst (acc.map aC)]) (l:=acc.map aC) rfl (by rw[aQ];exact za) z
  |ct j=>
   refine de (bV rfl) λK k=>?_;have z:=nx (o:=F5 (aN (.ct j))) k;rw[b8] at z;exact dK (W:=W) (i:=1) (H:=[.lst (all.map aN),.lst (acc.map aC)]) (l:=acc.map aC) rfl (by rw[aQ];exact za) z
  |cut=>
   refine de (bV rfl) λK k=>?_;have z:=nx (o:=F5 (aN .cut)) k;rw[show kT .cut=[] from rfl,fj] at z
   exact z
def T8{C0:Cell}{l0:List V}(x0 x1 x2 x3 x6 x7:Option V):∀{ts:List U.Tm} {tb:List Nat} {st:Nat} {o:Option V} {Q:gW},(∀t∈ts,t.dep<=d)->(eH tb ts).2.length<=aJ->(∀{st},Q ((eH tb ts).1.map aC) [C0,.lst l0,.dict (dE jH 0 (eH tb ts).2) st])->
  qA (It .lst (.obj 1) l0) (bI W (d+1) Hg) 5 [x0,x1,x2,x3,F5 (.obj 2),o,x6,x7] (ts.map aC) [C0,.lst l0,.dict (dE jH 0 tb) st] Q:=by
 intro ts
 induction ts with
 |nil=>exact λ{tb st o Q} y y q=>⟨bV rfl,q⟩|cons t ts ih=>exact λ{tb st o Q} hd hs q=>⟨bV rfl,BZ pr (hd t (.head _)) rfl (aA xA hs) λ{st'}=>ih (λt m=>hd t (.tail _ m)) hs q⟩
end
variable{R:List U.Tm}
section
variable(pr:a9 W){hd:V}{all:List Gl}
theorem zS{pre:List U.Tm}{r:List U.Tm}(e:R=pre++t::r):aB (R.map aC) pre.length=F5 (aC t):=by
 subst e;rw[ah,gC,oX (au _),qT];rfl
theorem Tj{C1 C2:Cell}(hR:R.length<=1000){Q:K2}:∀{gs dd:List Gl} {pre:List U.Tm} {o:Option V} {m:Nat},pre.length=m->R=pre++(gT gs).map (U.Tm.app (c6 tb))->dd.length+gs.length<=1000->
  (∀{o o7},Q .aK [F5 hd,F5 (.obj 0),F5 (.lst (R.map aC)),o,F5 (.obj 2),L3,F5 (.obj 3),o7] [.lst (all.map aN),C1,C2,.lst ((dd++gs.map (gw tb)).map aN)])->
  fh (It .lst (.obj 0) (all.map aN)) 3 (aO W n A8) (gs.map aN) [F5 hd,F5 (.obj 0),F5 (.lst (R.map aC)),o,F5 (.obj 2),L3,F5 (.obj 3),F5 (.int (m:Nat))] [.lst (all.map aN),C1,C2,.lst (dd.map aN)] Q:=by
 intro gs
 induction gs with
 |nil=>exact λ{dd pre o m} y y y q=>⟨bV rfl,by rw[List.map_nil,fj] at q;exact q⟩|cons g gs ih=>
  intro dd pre o m hm eR hz q;subst hm;have e:(gT (g::gs)).map (U.Tm.app (c6 tb))=(kT g).map (U.Tm.app (c6 tb))++(gT gs).map (U.Tm.app (c6 tb)):=by rw[show gT (g::gs)=kT g++gT gs from rfl,b8]
  rw[e] at eR;have zd:dd.length<1000:=bw (tC (om _)) hz;rw[dY,bW gs.length,<-bT] at hz;have zl:(dd.map aN).length<aJ:=by rw[aQ];exact jV zd (lz rfl)
  have q:∀{o o7},Q .aK [F5 hd,F5 (.obj 0),F5 (.lst (R.map aC)),o,F5 (.obj 2),L3,F5 (.obj 3),o7] [.lst (all.map aN),C1,C2,.lst (((dd++[gw tb g])++gs.map (gw tb)).map aN)]:=by rw[dw];exact q
  have nx:∀{o:Option V} {m:Nat} {K:BT},pre.length+(kT g).length=m->(∀{F H},fh (It .lst (.obj 0) (all.map aN)) 3 (aO W n A8) (gs.map aN) F H Q->K F H Q)->K [F5 hd,F5 (.obj 0),F5 (.lst (R.map aC)),o,F5 (.obj 2),L3,F5 (.obj 3),F5 (.int (m:Nat))] [.lst (all.map aN),C1,C2,.lst (dd.map aN++[aN (gw tb g)])] Q:=λ{o m K} em k=>by
   have I:=ih (dd:=dd++[gw tb g]) (pre:=pre++(kT g).map (U.Tm.app (c6 tb))) (o:=o) (m:=m) (by rw[a8,aQ];exact em) (by rw[eR,dw]) (by rw[a8];exact hz) q
   rw[b8] at I;exact k I
  have cl:∀{as:List U.Tm},kT g=as->((R.map aC).take (pre.length+(as.map aC).length)).drop pre.length=(as.map (U.Tm.app (c6 tb))).map aC/\pre.length+(as.map aC).length<=(R.map aC).length:=λ{as} ea=>by
   rw[ea] at eR;refine⟨?_,?_⟩
   .rw[<-List.map_take,<-List.map_drop,eR,aQ]
    have:=ZG (pre:=pre) (a:=as.map (U.Tm.app (c6 tb))) (b:=(gT gs).map (U.Tm.app (c6 tb)))
    rw[aQ] at this;rw[this]
   .rw[eR,aQ,aQ,a8,a8,aQ,<-bT];exact aW _ _
  cases g with
  |call f as=>
   refine de (bV rfl) λK k=>KO (qY.lst (j:=pre.length) (k:=pre.length+(as.map aC).length) .val (aW _ _) (cl (as:=as) rfl).2 .val) ?_;rw[(cl (as:=as) rfl).1];exact dK (W:=W) (i:=3) (H:=[.lst (all.map aN),C1,C2,.lst (dd.map aN)]) (l:=dd.map aN) rfl zl (nx (m:=pre.length+(as.map aC).length) (by rw[aQ];rfl) k)
  |bi f as=>
   refine de (bV rfl) λK k=>KO (qY.lst (j:=pre.length) (k:=pre.length+(as.map aC).length) .val (aW _ _) (cl (as:=as) rfl).2 .val) ?_;rw[(cl (as:=as) rfl).1];exact dK (W:=W) (i:=3) (H:=[.lst (all.map aN),C1,C2,.lst (dd.map aN)]) (l:=dd.map aN) rfl zl (nx (m:=pre.length+(as.map aC).length) (by rw[aQ];rfl) k)
  |ao j=>exact de (bV rfl) λK k=>bJ (zS eR) (dK (W:=W) (i:=3) (H:=[.lst (all.map aN),C1,C2,.lst (dd.map aN)]) (l:=dd.map aN) rfl zl (nx (m:=pre.length+1) rfl k))|mk j=>exact de (bV rfl) λK k=>bJ (zS eR) (dK (W:=W) (i:=3) (H:=[.lst (all.map aN),C1,C2,.lst (dd.map aN)]) (l:=dd.map aN) rfl zl (nx (m:=pre.length+1) rfl k))|ct j=>exact de (bV rfl) λK k=>bJ (zS eR) (dK (W:=W) (i:=3) (H:=[.lst (all.map aN),C1,C2,.lst (dd.map aN)]) (l:=dd.map aN) rfl zl (nx (m:=pre.length+1) rfl k))|cut=>exact de (bV rfl) λK k=>dK (W:=W) (i:=3) (H:=[.lst (all.map aN),C1,C2,.lst (dd.map aN)]) (l:=dd.map aN) rfl zl (nx (m:=pre.length) rfl k)
include pr
theorem UU{l:List V}{Q:K1}(q:Q (.obj (aH H)) (app H [.lst l])):Seq (Prim W (.f1 .list) [.tup l] H) Q:=by rw[cY,cQ] at q;exact gx (mL.tup .cell) q
def Tt{Q:K1}{f:Int}(et:bY (args++gT all)=tb)(hd:∀t∈args++gT all,t.dep<=d)(hz:args.length+(gT all).length<=1000)(hg:all.length<=1000)(ht:tb.length<=1000)
  (q:∀{C1 C2},Q (.obj 4) [.lst (all.map aN),C1,C2,.lst ((all.map (gw tb)).map aN),.inst 6 [(100897158637842290,.int f),(5929854835,.tup ((args.map (U.Tm.app (c6 tb))).map aC)),(1543761914995,.obj 3),(1526583357044,.int (tb.length:Nat))]]):
  Fi W (d+2) 78 [.tup [.int f,.tup (args.map aC)],.obj 0] [.lst (all.map aN)] Q:=by
 have e2:(eH [] (args++gT all)).2=tb:=et;have e1:(eH [] (args++gT all)).1=args.map (U.Tm.app (c6 tb))++(gT all).map (U.Tm.app (c6 tb)):=by rw[Uz (tf:=tb) (by rw[e2];exact og),b8]
 have zR:(args.map (U.Tm.app (c6 tb))++(gT all).map (U.Tm.app (c6 tb))).length<=1000:=by rw[a8,aQ,aQ];exact hz
 refine pr.fe QH rfl (UU pr ⟨bV rfl,T9 pr hz λ{o}=>kX ⟨bV rfl,by rw[aQ,a8];exact aA hz (lz rfl),?_⟩⟩)
 refine T8 pr (tb:=[]) _ _ _ _ _ _ hd (by rw[e2];exact aA ht (lz rfl)) λ{st}=>⟨.val,?_⟩
 rw[e1,e2];refine dN (lz rfl) ?_;refine⟨bV rfl,Tj (gs:=all) (dd:=[]) (pre:=args.map (U.Tm.app (c6 tb))) zR (by rw[aQ,aQ]) rfl (by rw[nF,cW];exact hg) λ{o o7}=>sA (eg.IY (j:=(args.map aC).length) .val .val) (gx (qX.dict rfl (by rw[pA];exact aA ht (lz rfl))) ?_)⟩
 rw[<-List.map_take,aQ,<-aQ (f:=U.Tm.app (c6 tb)),List.take_left,pA];refine pr.fe Pf rfl ?_;exact⟨rfl,q⟩
end
def kh(n:Nat):List Nat:=(Str.ofString (toString (n:Int))).cps.toList
def Wa(h:n<10):(kh n).length<=3:=by
 have e:(toString (n:Int)).length<=1+1:=int_text_length_le10 (k:=1) ⋯ (show n<10 ^ 1 from h)
 have z:(Str.ofString (toString (n:Int))).length<=2:=by rw[PySem.ofString_length];exact e
 exact fE ((show(kh n).length=(Str.ofString (toString (n:Int))).length from oR)▸z)
def D3.int(h:n<10):P1 W (.int (n:Int)) (.str (kh n)) H H (λa=>call (.type "str") [a]):=λ{y A s y y R} K hu c=>
 hu.b7 (P:=λcu=>Wp W A (call (.type "str") [cu]) R s) λt=>P.str_of_int (bp (Nat.log2_le_self n) (jV h ⋯)) (c.here K.N ⟨aF (λx:Str=>Value.str x _) (show Str.ofString (toString (n:Int))=⟨(Str.ofString (toString (n:Int))).cps.toList.toArray⟩ by rw[Array.toArray_toList])⟩)
variable{b:Nat}
def J7:t.WT->(t.app (c6 tb)).WT:=by
 induction t with
 |v=>exact id|c=>exact id|s1 _ x ih=>exact λh=>⟨h.1,ih h.2⟩|s2 _ x y i1 i2=>exact λh=>⟨h.1,i1 h.2.1,i2 h.2.2⟩
def xl:(t.app (c6 tb)).dep=t.dep:=by
 induction t with
 |v=>rfl|c=>rfl|s1 _ x ih=>exact aF (·+1) ih|s2 _ x y i1 i2=>show max _ _+1=max _ _+1;rw[i1,i2]
def YX:(t.app (c6 tb)).a7=t.a7:=by
 induction t with
 |v=>rfl|c=>rfl|s1 _ x ih=>exact aF (·+1) ih|s2 _ x y i1 i2=>show _+_+1=_+_+1;rw[i1,i2]
def Gk(ha:a∈tb)(hb:b∈tb)(e:tb.idxOf a=tb.idxOf b):a=b:=((oY (kA.mpr ha)).symm.trans (by congr 1)).trans (oY (kA.mpr hb))
def CX{k:Nat}(h:(t.app (c6 tb)).has k):∃j,t.has j/\tb.idxOf j=k:=(U.dg.mp h).elim λj ζ'=>ζ'.elim λa b=>⟨j,a,b⟩
def FK(h:t.dep<=0):aq t=L0:=by
 cases t with
 |v=>rfl|c=>rfl|s1=>exact absurd h (jW _)|s2=>exact absurd h (jW _)
def EW(h:t.dep<=d+1)(m:u∈b6 t):u.dep<=d:=by
 cases t with
 |v=>exact memN m|c=>exact memN m|s1 f x=>exact bB.mp m▸iP h|s2 f x y=>
  have h:=vV.mp (iP h);exact(bD.mp m).elim (λe=>e▸h.1) λm=>bB.mp m▸h.2
def Zp(h:t.dep<=2):T2 t:=λu m y w n=>FK (EW (EW h m) n)
section
variable{l l':List α}{x:α}
def Jm(h:l <+:l')(e:aB l i=F5 x):aB l' i=F5 x:=by
 obtain⟨r,rfl⟩:=h;exact cQ (l:=l)▸dP e
variable[DecidableEq α]
def EC:l <+:cf l x:=by
 unfold cf;split
 .exact og
 .exact qO _ _
def MD:x∈cf l x:=by
 unfold cf;split
 .assumption
 .exact lE _ (.head _)
def MC:aB (cf l x) (iU (cf l x) x)=F5 x:=by
 have h:=kA.mpr (MD (l:=l) (x:=x));unfold iU;rw[ah,cW,bu h];exact aF F5 (oY _)
end
abbrev Sy:=List (List Nat)×List (Nat×Nat)
def pT(y:Sy)(r:List Nat×Nat):Nat:=iU (fH y r).2 (iU (fH y r).1 r.1,r.2)
variable{y:Sy}{r:List Nat×Nat}
def WI:aB (fH y r).2 (pT y r)=F5 (iU (fH y r).1 r.1,r.2):=MC
def yA:Sy:=(cf uu.1 [97],uu.2)
def yB:Sy:=fH yA ([102],1)
def yW:Sy:=fH yB ([102],2)
def w32:pT yA ([102],1)=32:=by kernel_rfl
def w33:pT yB ([102],2)=33:=by kernel_rfl
def aBD:yW.1.length+yW.2.length<=100:=lz (by kernel_rfl)
def DB:((aB yW.2 0).map (·.2))=F5 2/\((aB yW.2 32).map (·.2))=F5 1/\((aB yW.2 33).map (·.2))=F5 2:=⟨by kernel_rfl,by kernel_rfl,by kernel_rfl⟩
def yS:uu.1.length<1000/\yA.1.length<1000/\yA.2.length<1000/\yB.1.length<1000/\yB.2.length<1000:=⟨lz (by kernel_rfl),lz (by kernel_rfl),lz (by kernel_rfl),lz (by kernel_rfl),lz (by kernel_rfl)⟩
structure jB(y:Sy)(m:Nat):Prop where
 pre:yW.2 <+:y.2
 z:y.1.length+y.2.length+2*m<=900
def jB.lt(k:jB y m):y.1.length<1000/\y.2.length<1000:=⟨bp (aA (aA (aW _ _) (aW _ _)) k.z) ⋯,bp (aA (aA (cI _ _) (aW _ _)) k.z) ⋯⟩
def jB.func(k:jB y (m+1)):jB (fH y r) m:=⟨k.pre.trans EC,by
 have h1:(fH y r).1.length<=y.1.length+1:=qe;have h2:(fH y r).2.length<=y.2.length+1:=qe;have e:y.1.length+1+(y.2.length+1)+2*m=y.1.length+y.2.length+2*(m+1):=by
  rw[Nat.add_add_add_comm,iy,mG,bT]
 exact aA (b5 (eb h1 h2) (2*m)) (e▸k.z)⟩
def jB.less{k:Nat}(h:jB y m)(l:k<=m):jB y k:=⟨h.pre,aA (dC (dc 2 l) _) h.z⟩
abbrev rX:List Nat:=[0,1,2]
abbrev mh:List Nat:=[0,1,2,3,4,5]
abbrev rY:List Nat:=[0,1,2,3,4,5,10,11]
def qE(fs:List (Nat×Nat))(kk:List Nat)(f:Nat)(as:List U.Tm):Prop:=(∀t∈as,Tz 2 (mh++kk) t)/\as.length<=3/\∃b,aB fs f=F5 (b,as.length)
def Gd(fs:List (Nat×Nat))(kk:List Nat):Gl->Prop
 | .call f as=>qE fs kk f as| .bi f as=>qE fs kk f as| .ao k=>k∈kk| .mk k=>k∈kk| .ct k=>k∈kk| .cut=>True
structure Gs(fs:List (Nat×Nat))(kk:List Nat)(gg:List Gl):Prop where
 gd:∀g∈gg,Gd fs kk g
 kl:∀k∈kk,k=10\/k=11
 kz:kk.length<=2
 km:∀k∈kk,.ao k∈gg\/.mk k∈gg
 nw:jX gg λk=>k<3
 ct:nB gg λy=>False
variable{kk:List Nat}{gg:List Gl}
section
variable{fs':List (Nat×Nat)}{kk':List Nat}{k:Nat}
def Tz.ns{ns ns':List Nat}(h:Tz d ns t)(s:∀x∈ns,x∈ns'):Tz d ns' t:=⟨h.wt,λx q=>s x (h.vs x q),h.dp,h.sz⟩
def Gd.ext(h:Gd fs kk g)(e:fs <+:fs')(s:∀k∈kk,k∈kk'):Gd fs' kk' g:=by
 have a:∀{f as},qE fs kk f as->qE fs' kk' f as:=λh=>⟨λt m=>(h.1 t m).ns λx m=>cD.mpr ((cD.mp m).imp id (s x)),h.2.1,h.2.2.elim λb z=>⟨b,Jm e z⟩⟩
 cases g with
 |call f as=>exact a h|bi f as=>exact a h|ao j=>exact s j h|mk j=>exact s j h|ct j=>exact s j h|cut=>exact cC
def Gd.has(h:Gd fs kk g)(q:cT k g):k∈mh++kk:=by
 cases g with
 |call f as=>exact q.elim λt ζ'=>ζ'.elim λm z=>(h.1 t m).vs k z|bi f as=>exact q.elim λt ζ'=>ζ'.elim λm z=>(h.1 t m).vs k z|ao j=>exact lE _ ((show j=k from q)▸h)|mk j=>exact lE _ ((show j=k from q)▸h)|ct j=>exact lE _ ((show j=k from q)▸h)|cut=>exact q.elim
def I6:∀{Q:Nat->Prop},jX gg Q->(∀k,g=.ao k\/g=.mk k->¬Q k/\∀a∈gg,¬cT k a)->jX (gg++[g]) Q:=by
 induction gg with
 |nil=>exact λy h=>And.intro (λk e=>(h k e).1) cC|cons a gg ih=>exact λn h=>And.intro n.1 (ih n.2 λk e=>⟨λq=>q.elim (h k e).1 ((h k e).2 a (.head _)),λb m=>(h k e).2 b (.tail _ m)⟩)
def FH:∀{M:Nat->Prop},nB gg M->(∀k,g=.ct k->M k\/.ao k∈gg\/.mk k∈gg)->nB (gg++[g]) M:=by
 induction gg with
 |nil=>exact λy h=>And.intro (λk e=>(h k e).resolve_right λq=>q.elim (nomatch ·) (nomatch ·)) cC
 |cons a gg ih=>exact λn h=>And.intro n.1 (ih n.2 λk e=>(h k e).elim (λm=>.inl (.inl m)) λq=>q.elim (λm=>(bD.mp m).elim (λe=>.inl (.inr (.inl e.symm))) λm=>.inr (.inl m)) λm=>(bD.mp m).elim (λe=>.inl (.inr (.inr e.symm))) λm=>.inr (.inr m))
def Gs.snoc(h:Gs fs kk gg)(e:fs <+:fs')(d:Gd fs' kk g)(n:∀k,g≠.ao k/\g≠.mk k):Gs fs' kk (gg++[g]):=⟨λa m=>(cD.mp m).elim (λm=>(h.gd a m).ext e λy=>id) λm=>bB.mp m▸d,h.kl,h.kz,λk m=>(h.km k m).imp (iO _) (iO _),I6 h.nw λk e=>(e.elim (n k).1 (n k).2).elim,FH h.ct λk e=>.inr (h.km k (by rw[e] at d;exact d))⟩
def mk_inj(h:Gl.mk a=.mk b):a=b:=d6 (aF wW h)
def IC(h:Gl.ao a=.ao b):a=b:=d6 (aF wW h)
def Gs.mark(h:Gs fs kk gg)(n:11∉kk)(z:kk.length<=1):Gs fs (kk++[11]) (gg++[.mk 11]):=⟨λa m=>(cD.mp m).elim (λm=>(h.gd a m).ext og λy=>iO _) λm=>bB.mp m▸lE _ (.head _),λk m=>(cD.mp m).elim (h.kl k) λm=>.inr (bB.mp m),by rw[a8];exact cP z,λk m=>(cD.mp m).elim (λm=>(h.km k m).imp (iO _) (iO _)) λm=>.inr (bB.mp m▸lE _ (.head _)),I6 h.nw (λk e=>by
 have e:11=k:=e.elim (λe=>nomatch e) mk_inj;subst e;refine⟨by decide,λa m q=>?_⟩
 exact((cD.mp ((h.gd a m).has q)).elim (λz=>absurd z ⋯) n)),FH h.ct λk e=>nomatch e⟩
def Gs.nil:Gs fs [] []:=⟨(λy m=>memN m),(λy m=>memN m),ba _,(λy m=>memN m),cC,cC⟩
def Gs.level:Gs fs [10] [.ao 10]:=⟨λa m=>bB.mp m▸List.Mem.head _,λk m=>.inl (bB.mp m),cJ 1,λk m=>.inl (bB.mp m▸.head _),And.intro (λk e=>by
 have e:10=k:=e.elim IC λe=>nomatch e;subst e;decide) cC,And.intro (λk e=>nomatch e) cC⟩
end
section
variable{k:Nat}
def KG:dJ (gw tb g)=(dJ g).map (U.Tm.app (c6 tb)):=by cases g<;>rfl
def KH(h:cT k (gw tb g)):∃j,cT j g/\tb.idxOf j=k:=by
 have a:∀{as:List U.Tm},(∃t∈as.map (U.Tm.app (c6 tb)),t.has k)->∃j,(∃t∈as,t.has j)/\tb.idxOf j=k:=λζ=>ζ.elim λt ζ'=>ζ'.elim λm q=>by
  obtain⟨u,mu,rfl⟩:=dB.mp m;obtain⟨j,h1,h2⟩:=CX q;exact⟨j,⟨u,mu,h1⟩,h2⟩
 cases g with
 |call f as=>exact a h|bi f as=>exact a h|ao j=>exact⟨j,rfl,h⟩|mk j=>exact⟨j,rfl,h⟩|ct j=>exact⟨j,rfl,h⟩|cut=>exact h.elim
def WG:∀{Q Q':Nat->Prop},jX gg Q->(∀j∈tb,Q' (tb.idxOf j)->Q j)->(∀g∈gg,∀k,cT k g->k∈tb)->jX (gg.map (gw tb)) Q':=by
 induction gg with
 |nil=>exact λy y y=>cC|cons g gg ih=>
  intro Q Q' n q hv;have new:∀j,g=.ao j\/g=.mk j->¬Q' (tb.idxOf j):=λj e z=>n.1 j e (q j (hv g (.head _) j (e.elim (λe=>e▸rfl) λe=>e▸rfl)) z);refine And.intro (λk e=>?_) (ih n.2 (λj hj z=>z.imp (q j hj) λz=>?_) λg m=>hv g (.tail _ m))
  .cases g with
   |call f as=>exact e.elim (nomatch ·) (nomatch ·)
   |bi f as=>exact e.elim (nomatch ·) (nomatch ·)
   |ao j=>exact(e.elim IC (nomatch ·):tb.idxOf j=k)▸new j (.inl rfl)
   |mk j=>exact(e.elim (nomatch ·) mk_inj:tb.idxOf j=k)▸new j (.inr rfl)
   |ct j=>exact e.elim (nomatch ·) (nomatch ·)
   |cut=>exact e.elim (nomatch ·) (nomatch ·)
  .obtain⟨i,h1,h2⟩:=KH z;exact Gk (hv g (.head _) i h1) hj h2▸h1
def Np:∀{M M':Nat->Prop},nB gg M->(∀j,M j->M' (tb.idxOf j))->nB (gg.map (gw tb)) M':=by
 induction gg with
 |nil=>exact λy y=>cC|cons g gg ih=>
  intro M M' n q;refine And.intro (λk e=>?_) (ih n.2 λj z=>z.imp (q j) λz=>z.imp (λ(e:g=.ao j)=>aF (gw tb) e) λ(e:g=.mk j)=>aF (gw tb) e)
  cases g with
  |call f as=>exact nomatch e
  |bi f as=>exact nomatch e
  |ao j=>exact nomatch e
  |mk j=>exact nomatch e
  |ct j=>exact(d6 (aF wW e):tb.idxOf j=k)▸q j (n.1 j rfl)|cut=>exact nomatch e
def Te(h:cT k g):∃t∈kT g,t.has k:=by
 cases g with
 |call f as=>exact h|bi f as=>exact h|ao j=>exact⟨_,.head _,h⟩|mk j=>exact⟨_,.head _,h⟩|ct j=>exact⟨_,.head _,h⟩|cut=>exact h.elim
def Tf(m:t∈kT g)(h:t.has k):cT k g:=by
 cases g with
 |call f as=>exact⟨t,m,h⟩|bi f as=>exact⟨t,m,h⟩|ao j=>cases bB.mp m;exact h|mk j=>cases bB.mp m;exact h|ct j=>cases bB.mp m;exact h|cut=>exact memN m
def Af:t∈gT gg↔∃g∈gg,t∈kT g:=by
 induction gg with
 |nil=>exact⟨(λm=>memN m),λζ=>ζ.elim λy ζ'=>ζ'.elim λm y=>memN m⟩|cons g gg ih=>
  rw[show gT (g::gg)=kT g++gT gg from rfl,cD,ih]
  exact⟨λh=>h.elim (λm=>⟨g,.head _,m⟩) λζ=>ζ.elim λa ζ'=>ζ'.elim λm z=>⟨a,.tail _ m,z⟩,λ⟨a,m,z⟩=>(bD.mp m).elim (λe=>.inl (e▸z)) λm=>.inr ⟨a,m,z⟩⟩
end
section
variable{k:Nat}
def Zn{ns:List Nat}(h:∀t∈as,Tz 2 ns t):f9 as<=7*as.length:=by
 induction as with
 |nil=>exact ba _|cons t as ih=>
  have h1:t.a7+1<=7+1:=(h t (.head _)).sz;rw[dY,mG,bW (7*_),show f9 (t::as)=t.a7+f9 as from yt]
  exact eb (iP h1) (ih λu m=>h u (.tail _ m))
def Zo:f9 (as.map (U.Tm.app (c6 tb)))=f9 as:=aF List.sum (by rw[gD];exact ix λt y=>YX)
structure yV(t:U.Tm):Prop where
 wt:t.WT
 vs:∀x,t.has x->x∈[500,501]
 dp:t.dep<=1
variable(hts:∀t∈ts,Tz 0 rX t)(hg:Gs fs kk gg)
include hts hg
def Gs.v8(m:t∈ts++gT gg)(h:t.has k):k∈rY:=by
 rcases cD.mp m with m|m
 .exact(by decide:∀x∈rX,x∈rY) k ((hts t m).vs k h)
 .obtain⟨g,mg,m⟩:=Af.mp m;refine(cD.mp ((hg.gd g mg).has (Tf m h))).elim (λz=>(by decide:∀x∈mh,x∈rY) k z) λz=>?_
  rcases hg.kl k z with rfl|rfl
  .exact(by decide:10∈rY)
  .exact(by decide:11∈rY)
def Gs.names:(bY (ts++gT gg)).length<=8:=mi (r:=rY) (BY (ts:=ts++gT gg) dU) λx hx=>(pM.mp hx).elim (λh=>memN h) λζ=>ζ.elim λt ζ'=>ζ'.elim λht h=>hg.v8 hts ht h
def MN{call:List U.Tm}(yk:jB y m)(ef:y.2=fs)(l3:ts.length<=3)(ne:gg≠[])(g5:gg.length<=5)(hc:∀t∈call,yV t)(lc:ts.length=call.length)(p:0<picks.length):
  Ag fs (bY (ts++gT gg)).length (ts.map (U.Tm.app (c6 (bY (ts++gT gg))))) (gg.map (gw (bY (ts++gT gg)))) call picks (ui fs):=by
 subst ef;have n8:=hg.names hts;have mem:∀{t x},t∈ts++gT gg->t.has x->x∈bY (ts++gT gg):=λht hx=>pM.mpr (.inr ⟨_,ht,hx⟩);have mg:∀g∈gg,∀k,cT k g->k∈bY (ts++gT gg):=λg hm k h=>(Te h).elim λt ζ'=>ζ'.elim λa b=>mem (lE _ (Af.mpr ⟨g,hm,a⟩)) b;generalize bY (ts++gT gg)=tb at n8 mem mg ⊢;have get:∀{i r:Nat},((aB yW.2 i).map (·.2))=F5 r->∃a,aB y.2 i=F5 (a,r):=λ{i r} h=>by
  obtain⟨⟨a,b⟩,h1,h2⟩:=qW.mp h;exact⟨a,Jm yk.pre ((show b=r from h2)▸h1)⟩
 have tz:∀g∈gg,(∀t∈dJ g,Tz 2 (mh++kk) t)/\(dJ g).length<=3:=λg m=>by
  have z:=hg.gd g m
  cases g with
  |call f as=>exact⟨z.1,z.2.1⟩|bi f as=>exact⟨z.1,z.2.1⟩|ao=>exact⟨(λo m=>memN m),ba _⟩|mk=>exact⟨(λo m=>memN m),ba _⟩|ct=>exact⟨(λo m=>memN m),ba _⟩|cut=>exact⟨(λo m=>memN m),ba _⟩
 refine⟨λh=>?_,λt ht=>?_,n8,λt ht=>⟨(hc t ht).wt,λk q=>?_,aA (hc t ht).dp ⋯⟩,(aQ _).trans lc,lc▸l3,by rw[aQ];exact g5,λe=>ne (List.map_eq_nil_iff.mp e),λx hx=>?_,λx hx=>?_,WG hg.nw (λj hj ζ=>ζ.elim λt ζ'=>ζ'.elim λht q=>?_) mg,Np hg.ct λj z=>z.elim,p⟩
 .rcases h with rfl|rfl|rfl
  .exact get DB.2.1
  .exact get DB.1
  .exact get DB.2.2
 .obtain⟨u,hu,rfl⟩:=dB.mp ht;have d:=(hts u hu).dp;refine⟨J7 (hts u hu).wt,λk hk=>?_,by rw[xl];exact aA d (ba _),FK (by rw[xl];exact d)⟩
  obtain⟨j,hj,e⟩:=CX hk;exact e▸kA.mpr (mem (iO _ hu) hj)
 .have:=(hc t ht).vs k q
  rcases bD.mp this with rfl|m
  .exact⟨au _,by decide⟩
  .cases bB.mp m;exact⟨by decide,au _⟩
 .obtain⟨g,hm,rfl⟩:=dB.mp hx;have z:=hg.gd g hm;refine⟨λt ht=>?_,λk h=>?_,?_⟩
  .rw[KG] at ht;obtain⟨u,hu,rfl⟩:=dB.mp ht;exact J7 ((tz g hm).1 u hu).wt
  .obtain⟨j,h1,h2⟩:=KH h;exact h2▸kA.mpr (mg g hm j h1)
  .have sg:∀{f as},qE y.2 kk f as->ui y.2 f=(as.map (U.Tm.app (c6 tb))).length/\(as.map (U.Tm.app (c6 tb))).length<=100:=λ{f as} z=>by
    obtain⟨b,hb⟩:=z.2.2;refine⟨?_,by rw[aQ];exact aA z.2.1 ⋯⟩
    unfold ui;rw[hb,aQ];rfl
   cases g with
   |call f as=>exact sg z|bi f as=>exact sg z|ao=>exact cC|mk=>exact cC|ct=>exact cC|cut=>exact cC
 .obtain⟨g,hm,rfl⟩:=dB.mp hx;have z:=tz g hm;rw[KG];refine⟨λt ht=>?_,?_,by rw[aQ];exact aA z.2 ⋯⟩
  .obtain⟨u,hu,rfl⟩:=dB.mp ht;have d:=(z.1 u hu).dp;exact⟨by rw[xl];exact fE d,λo=>Zp (by rw[xl];exact d)⟩
  .rw[Zo];exact aA (Zn z.1) (dc 7 z.2)
 .obtain⟨u,hu,rfl⟩:=dB.mp ht;obtain⟨i,h1,h2⟩:=CX q;have e:=Gk (mem (iO _ hu) h1) hj h2;exact e▸(by decide:∀x∈rX,x<3) i ((hts u hu).vs i h1)
end
@[reducible] def pC(S:List Int)(a:Int)(b:Nat):Cell:=.lst [.int a,.int (b:Int),.lst (S.map .int)]
@[reducible] def hL(P:Cell)(y:Sy)(s s':Nat)(gg:List Gl)(kk:List Nat)(X:AH):AH:=eF P (.lst (gg.map aN)::.lst (aS kk)::X) y.1 y.2 s s'
@[reducible] def fG(na:Nat)(x0 x4 x5 x6:Option V)(cb:Bool)(x10 x11 x12 x13 x14 x15:Option V):Fa:=[x0,F5 (.obj 0),F5 (.obj 1),F5 (m8 na),x4,x5,x6,F5 (.obj 6),F5 (.obj 7),F5 (.bool cb),x10,x11,x12,x13,x14,x15]
variable{R:AH}
def t4(pr:a9 W){s:Nat}{P:Cell}{Q:K1}{t:List Nat}{k:Nat}(h:y.1.length<1000/\y.2.length<1000)(q:∀{s s'},Q (.int (pT y (t,k):Nat)) (eF P R (fH y (t,k)).1 (fH y (t,k)).2 s s')):Fi W (n+2) 7 [.obj 1,.str t,.int (k:Nat)] (eF P R y.1 y.2 s s') Q:=GP pr h.1 h.2 q
variable{X:AH}{l:List V}
section
variable{P:Cell}{s:Nat}
def Mb:at_ L0 (hL P y s s' gg kk (app X [.lst l])) (.obj (aH X+8)) (λz c=>lq .append c)=F6:=iq (i:=aH X+8) (l:=l) bj
def Ma{Q:K1}(z:l.length<aJ)(q:Q .none (hL P y s s' gg kk (app X [.lst (l++[v])]))):i5 W .append (.obj (aH X+8)) Q [v] (hL P y s s' gg kk (app X [.lst l])):=by
 refine dK (i:=aH X+8) (l:=l) bj z ?_;have e:aa (hL P y s s' gg kk (app X [.lst l])) (.lst (l++[v])) (aH X+8)=hL P y s s' gg kk (app X [.lst (l++[v])]):=aF (hL P y s s' gg kk) jO;rw[e];exact q
def H8{Q:K1}(hc:aB H i=F5 (.lst l))(q:Q (.tup l) H):qC W .tuple (.obj i) H Q:=by
 show ob (ob (aB H i) L3 _) _ _;rw[hc];exact q
end
def O0{x:Nat}{b:BT}{F:Fa}{Q:K2}(h:∀K:BT,(∀{F H},dA x b l F H Q->K F H Q)->b (dm F x v) H (gQ K Q)):dA x b (v::l) F H Q:=h _ id
def Vj{P:α->Prop}{l:List α}{x:α}(h:∀t∈l,P t)(p:P x):∀t∈l++[x],P t:=λt m=>(cD.mp m).elim (h t) λm=>(bB.mp m)▸p
def oA:(jj m).length=m:=by rw[mf,aQ,List.length_range']
variable{c:Nat}
def M9{b1 k:Nat}(h1:b1<=b+c)(h:b+c+k<=100000):b1<=1000000/\b1+900000<=1000000/\b1+k<=100000:=
 have t:=aA (b5 h1 k) h;have u:=aA (aW b1 k) t
 ⟨aA u ⋯,b5 u 900000,t⟩
variable{S:List Int}{cb:Bool}
section
variable(pr:a9 W)(hS:S≠[])
include pr hS
def LD{ns:List Nat}(hns:ns≠[])(hn:ns.length<1000){t:Fa}(hel:∀{o:Option V} {H:AH} {Q:K1},Fi W (n+2+d) 79 [.obj 0,m8 na,.int (d:Nat),.lst (aS ns)] H Q->el (x0::F5 (.obj 0)::x2::F5 (m8 na)::x4::o::t) H Q):∀{l:List V} {a:Int} {b:Nat} {o:Option V} {Q:gW},b+3*2 ^ d*l.length<=100000->(∀{ts:List U.Tm} {a':Int} {b':Nat},ts.length=l.length->(∀t∈ts,Tz d ns t)->b'<=b+3*2 ^ d*l.length->Q (ts.map aC) (f3 R S a' b'))->
  qB el 5 (x0::F5 (.obj 0)::x2::F5 (m8 na)::x4::o::t) l (f3 R S a b) Q:=by
 intro l
 induction l with
 |nil=>exact λ{a b o Q} y q=>q (ts:=[]) rfl (λy h=>memN h) (au _)|cons v l ih=>
  intro a b o Q hb q;rw[dY,mG,bW (3*2 ^ d*_),<-bT] at hb q;refine hel (K9 (n:=n) (d:=d) pr hS (ns:=ns) hns hn (aA (aW _ _) (aA hb ⋯)) λ{t a1 b1} ht h1=>?_)
  have h1:b1<=b+3*2 ^ d:=gE h1;exact ih (aA (b5 h1 _) hb) λ{ts a2 b2} hl hts h2=>q (ts:=t::ts) (aF Nat.succ hl) (λu m=>(bD.mp m).elim (λe=>e▸ht) (hts u)) (aA h2 (b5 h1 _))
def W9{s:Nat}{Q:K2}:∀{l:List V} {acc:List U.Tm} {a:Int} {b:Nat} {o5 o13:Option V},b+14*l.length<=100000->acc.length+l.length<=1000->kk.length<=2->(∀t∈acc,Tz 2 (mh++kk) t)->
  (∀{acc':List U.Tm} {a':Int} {b':Nat} {o5 o13:Option V},(∀t∈acc',Tz 2 (mh++kk) t)->acc'.length=acc.length+l.length->b'<=b+14*l.length->Q .aK (fG na x0 x4 o5 x6 cb x10 x11 (F5 (.obj (aH X+8))) o13 L3 L3) (hL (pC S a' b') y s s' gg kk (app X [.lst (acc'.map aC)])))->
  dA 5 (aO W (n+4) BA) l (fG na x0 x4 o5 x6 cb x10 x11 (F5 (.obj (aH X+8))) o13 L3 L3) (hL (pC S a b) y s s' gg kk (app X [.lst (acc.map aC)])) Q:=by
 intro l
 induction l with
 |nil=>exact λ{acc a b o5 o13} z z z ha q=>q ha rfl (au _)|cons v l ih=>
  intro acc a b o5 o13 hb hz hk ha q;rw[dY,mG,bW (14*_),bW l.length,<-bT,<-bT] at q;rw[dY,mG,bW (14*_),<-bT] at hb;rw[dY,bW l.length,<-bT] at hz;have zc:=λ{b1} h1=>M9 (b:=b) (b1:=b1) (c:=14) h1 hb;refine O0 λK kx=>mw (lz rfl) (K9 (n:=n) (d:=2) pr hS (ns:=mh) (qI _ _) ⋯ (aA (dC (by decide:3*2 ^ 2<=900000) b) (zc (aW _ _)).2.1) λ{t a1 b1} ht h1=>?_)
  have h1:b1<=b+11:=iP h1;have put:∀{u:U.Tm} {a2:Int} {b2:Nat},Tz 2 (mh++kk) u->b2<=b+14->Stop (aO W (n+4) (dp 2 BA)) (fG na x0 x4 (F5 v) x6 cb x10 x11 (F5 (.obj (aH X+8))) (F5 (aC u)) L3 L3) (hL (pC S a2 b2) y s s' gg kk (app X [.lst (acc.map aC)])) (gQ K Q):=λ{u a2 b2} hu h2=>by
   have B:=ih (acc:=acc++[u]) (a:=a2) (b:=b2) (o5:=F5 v) (o13:=F5 (aC u)) (aA (b5 h2 _) hb) (by rw[a8];exact hz) hk (Vj ha hu) λh3 h4 h5=>q h3 (h4.trans (by rw[a8];rfl)) (aA h5 (b5 h2 _))
   rw[b8] at B;exact bH (ae Mb (Ma (by rw[aQ];exact bw (dy _) (aA (aA (aW _ _) hz) (lz rfl))) (kx B)))
  have tn:Tz 2 (mh++kk) t:=ht.ns λx m=>iO _ m;refine bz 1 (c7 (t:=!fN (aS kk)) (λe1=>?_) λe1=>put tn (aA h1 (dC ⋯ b)))
  have k0:0<kk.length:=by
   cases kk with
   |nil=>exact(az e1).elim|cons=>exact om _
  refine gi pr (m:=5) hS (zc (aA h1 (dC ⋯ b))).1 ⋯ ⋯ λ{r a2 b2} z h2=>?_
  have h2:b2<=b+12:=aA h2 (cP h1);refine c7 (λz=>?_) λz=>put tn (aA h2 (dC ⋯ b))
  refine(gi pr (m:=(aS kk).length) hS (zc (aA h2 (dC ⋯ b))).1 (by rw[fJ];exact k0) (by rw[fJ];exact bp hk ⋯) λ{r2 a3 b3} hr2 h3=>?_)
  rw[fJ] at hr2;have i2:=kS (bu hr2);refine bJ i2 (put (u:=.v kk[r2]) (.leaf cC (λx h=>(show kk[r2]=x from h)▸lE _ (jR hr2)) rfl rfl) (aA h3 (cP (aA h2 (dC (by decide:12<=13) b)))))
end
def wH:aL->aL
 | .cons (.ite _ _ b) _=>b|_=>.nil
structure Dr(y:Sy)(m:Nat)(kk:List Nat)(gg:List Gl)(cb:Bool):Prop where
 yk:jB y m
 gs:Gs y.2 kk gg
 ne:cb=F6->gg≠[]
 nd:kk.Nodup
def T7(h:Gs fs kk gg)(nd:kk.Nodup)(n:11∉kk):kk.length<=1:=mi (r:=[10]) nd λx m=>(h.kl x m).elim (λe=>e▸.head _) λe=>absurd (e▸m) n
section
variable(pr:a9 W)(hS:S≠[]){s:Nat}{a:Int}
theorem wX(h:gg.length<1000):(gg.map aN).length<aJ:=by rw[aQ];exact jV h (lz rfl)
include pr hS
def YY{Q:K2}(hk:kk.length<=2)(hb:b<=1000000)(zg:gg.length<1000)(q1:∀{k:Nat} {a':Int} {b':Nat},k∈kk->b'<=b+1->Q .aK (fG na x0 x4 x5 x6 cb x10 x11 x12 x13 L3 L3) (hL (pC S a' b') y s s' (gg++[.ct k]) kk X))(q2:Q .aK (fG na x0 x4 x5 x6 cb x10 x11 x12 x13 L3 L3) (hL (pC S a b) y s s' (gg++[.cut]) kk X))(q3:cb=F6->Q .aK (fG na x0 x4 x5 x6 cb x10 x11 x12 x13 L3 L3) (hL (pC S a b) y s s' gg kk X)):
  aO W (n+4) (wH (wH (dp 1 wm))) (fG na x0 x4 x5 x6 cb x10 x11 x12 x13 L3 L3) (hL (pC S a b) y s s' gg kk X) Q:=by
 have zz:=wX zg;refine c7 (t:=!fN (aS kk)) (λe1=>?_) λq=>?_
 .have k0:0<kk.length:=by
   cases kk with
   |nil=>exact(az e1).elim|cons=>exact om _
  refine gi pr (m:=(aS kk).length) hS hb (by rw[fJ];exact k0) (by rw[fJ];exact bp hk ⋯) λ{r a2 b2} hr h2=>?_
  rw[fJ] at hr;have z:=q1 (a':=a2) (jR hr) h2;unfold hL at z;rw[b8] at z;exact bJ (kS (bu hr)) ⟨zz,z⟩
 .cases cb with
  |true=>exact q3 rfl|false=>
   unfold hL at q2;rw[b8] at q2;exact⟨zz,q2⟩
end
def En{b1 b2 b3 r k:Nat}(h:b+60+60*k<=90000)(h1:b1<=b+1)(h2:b2<=b1+1)(hr:r<4)(h3:b3<=b2+14*r):b1<=1000000/\b2+14*r<=100000/\b3<=b+60:=
 have z:b+60<=90000:=aA (aW _ _) h;have s:b2+14*r<=b+2+42:=eb (aA h2 (cP h1)) (dc 14 (qQ hr));have w:b2+14*r<=b+60:=aA s (dC (show 44<=60 by decide) b)
 ⟨aA h1 (aA (dC (show 1<=60 by decide) b) (aA z ⋯)),aA w (aA z ⋯),aA h3 w⟩
def NA{k:Nat}(h:a<=b+k)(h2:b<=c+1):a<=c+(k+1):=by
 rw[bW k 1,<-bT];exact aA h (b5 h2 k)
def NB{k:Nat}(h:a<=b+60*k)(h2:b<=c+60):a<=c+60*(k+1):=by
 rw[mG,bW (60*k),<-bT];exact aA h (b5 h2 _)
section
variable(pr:a9 W)(hS:S≠[])
include pr hS
def Qe{Q:K2}:∀{k i:Nat} {gg:List Gl} {kk:List Nat} {y:Sy} {m:Nat} {cb:Bool} {a:Int} {b s s':Nat} {X:AH} {x5 x10 x11 x12 x13:Option V},Dr y (m+k) kk gg cb->b+60*k<=90000->gg.length+k<=900->i+k<=9->(k=0->gg≠[])->
  (∀{gg':List Gl} {kk':List Nat} {y':Sy} {cb':Bool} {a':Int} {b' s s':Nat} {X:AH} {x5 x10 x11 x12 x13:Option V},Dr y' m kk' gg' cb'->gg'≠[]->gg'.length<=gg.length+k->b'<=b+60*k->Q .aK (fG na x0 x4 x5 x6 cb' x10 x11 x12 x13 L3 L3) (hL (pC S a' b') y' s s' gg' kk' X))->
  dA 10 (aO W (n+4) wm) ((List.range' i k).map λi:Nat=>V.int (i:Int)) (fG na x0 x4 x5 x6 cb x10 x11 x12 x13 L3 L3) (hL (pC S a b) y s s' gg kk X) Q:=by
 intro k
 induction k with
 |zero=>exact λ{i gg kk y m cb a b s s' X x5 x10 x11 x12 x13} d o o o ne q=>q d (ne rfl) (au _) (au _)|succ k ih=>
  intro i gg kk y m cb a b s s' X x5 x10 x11 x12 x13 d hb hz hi _ q;rw[List.range'_succ];rw[mG,bW (60*_),<-bT] at hb;have d:Dr y (m+k+1) kk gg cb:=d;have zg:gg.length<1000:=bp (aA (aW _ _) hz) ⋯
  have i9:i<10:=bp (aA (aW _ _) hi) ⋯
  have bb:b<=1000000:=aA (aA (aW _ _) (aA (aW _ _) hb)) ⋯
  refine fL λK kx=>?_;have nx:∀{gg':List Gl} {kk':List Nat} {y':Sy} {cb':Bool} {a':Int} {b' s s':Nat} {X:AH} {x5 x10 x11 x12 x13:Option V},Dr y' (m+k) kk' gg' cb'->gg'≠[]->gg'.length<=gg.length+1->b'<=b+60->K (fG na x0 x4 x5 x6 cb' x10 x11 x12 x13 L3 L3) (hL (pC S a' b') y' s s' gg' kk' X) Q:=λ{gg' kk' y' cb' a' b' s s' X x5 x10 x11 x12 x13} d' ne' l' h'=>kx (ih d' (aA (b5 h' _) hb) (aA (b5 l' _) (by rw[bT,bW 1];exact hz)) (by rw[bT,bW 1];exact hi) (λo=>ne') λd2 ne2 l2 h2=>q d2 ne2 (NA l2 l') (NB h2 h'))
  have sn:∀{g:Gl},gg++[g]≠[]:=λ{g} e=>qI _ _ (List.append_eq_nil_iff.mp e).2;have ln:∀{g:Gl},(gg++[g]).length<=gg.length+1:=λ{g}=>bX a8;refine gi pr (m:=8) hS bb ⋯ ⋯ λ{r a1 b1} o h1=>?_
  have h60:∀{b'},b'<=b1+1->b'<=b+60:=λh=>aA h (aA (cP h1) (dC (by decide:2<=60) b))
  have rest:∀{Q':K2},(∀{gg':List Gl} {a':Int} {b':Nat},Dr y (m+k) kk gg' cb->gg'≠[]->gg'.length<=gg.length+1->b'<=b+60->Q' .aK (fG na x0 x4 x5 x6 cb (F5 (.int (i:Int))) (F5 (.int (r:Nat))) x12 x13 L3 L3) (hL (pC S a' b') y s s' gg' kk X))->aO W (n+4) (wH (wH (dp 1 wm))) (fG na x0 x4 x5 x6 cb (F5 (.int (i:Int))) (F5 (.int (r:Nat))) x12 x13 L3 L3) (hL (pC S a1 b1) y s s' gg kk X) Q':=λ{Q'} go=>YY pr hS d.gs.kz (aA h1 (aA (dC (by decide:1<=60) b) (aA (aW _ _) (aA hb ⋯)))) zg (λuE h=>go ⟨d.yk.less (cJ _),d.gs.snoc og uE λo=>⟨nofun,nofun⟩,(λo=>sn),d.nd⟩ sn ln (h60 h)) (go ⟨d.yk.less (cJ _),d.gs.snoc og cC λo=>⟨nofun,nofun⟩,(λo=>sn),d.nd⟩ sn ln (h60 (cJ _))) λe=>go ⟨d.yk.less (cJ _),d.gs,d.ne,d.nd⟩ (d.ne e) (cJ _) (h60 (cJ _))
  refine c7 (λo=>?_) λo=>c7 (λo=>?_) λo=>rest λd' ne' l' h'=>nx d' ne' l' h'
  .refine dN (lz rfl) (gi pr (m:=4) hS (aA h1 (aA (dC (by decide:1<=60) b) (aA (aW _ _) (aA hb ⋯)))) ⋯ ⋯ λ{r2 a2 b2} hr2 h2=>⟨aA (d9 hr2) (lz rfl),?_⟩)
   refine W9 pr (n:=n) hS (l:=jj r2) (acc:=[]) ?_ ?_ d.gs.kz (λo m=>memN m) λ{acc a3 b3 o5 o13} ha hl h3=>?_
   .rw[oA];exact(En hb h1 h2 hr2 (au _)).2.1
   .rw[oA];exact aA (bX (cW _)) (aA (d9 hr2) ⋯)
   rw[oA,nF,cW] at hl;rw[oA] at h3;have h4:=(En hb h1 h2 hr2 h3).2.2;have l3:acc.length<=3:=hl▸qQ hr2;have zs:∀{c:Nat},([c]:List Nat).length+(kh i).length<=aJ:=aA (dC (Wa i9) 1) (lz rfl);have fin:∀{g:Gl} {cb':Bool} {s s':Nat} {x11 x12:Option V},(g=.call (pT y ([103]++kh i,(acc.map aC).length)) acc\/g=.bi (pT y ([103]++kh i,(acc.map aC).length)) acc)->K (fG na x0 x4 o5 x6 cb' (F5 (.int (i:Int))) x11 x12 o13 L3 L3) (eF (pC S a3 b3) (.lst (gg.map aN++[aN g])::.lst (aS kk)::app X [.lst (acc.map aC)]) (fH y ([103]++kh i,(acc.map aC).length)).1 (fH y ([103]++kh i,(acc.map aC).length)).2 s s') Q:=λ{g cb' s s' x11 x12} e=>by
    have gd:qE (fH y ([103]++kh i,(acc.map aC).length)).2 kk (pT y ([103]++kh i,(acc.map aC).length)) acc:=⟨ha,l3,_,by rw[WI,aQ]⟩
    have z:=nx (gg':=gg++[g]) (y':=fH y ([103]++kh i,(acc.map aC).length)) (kk':=kk) (cb':=cb') (a':=a3) (b':=b3) (s:=s) (s':=s') (X:=app X [.lst (acc.map aC)]) (x5:=o5) (x10:=F5 (.int (i:Int))) (x11:=x11) (x12:=x12) (x13:=o13) ⟨d.yk.func,d.gs.snoc EC (e.elim (λe=>e▸gd) λe=>e▸gd) λo=>e.elim (λe=>e▸⟨nofun,nofun⟩) λe=>e▸⟨nofun,nofun⟩,(λo=>sn),d.nd⟩ sn ln h4;unfold hL at z;rw[b8] at z;exact z
   refine c7 (λo=>?_) λo=>?_
   .exact gx (D3.int i9) (fP (mJ.str zs) (jJ (i:=aH X+8) (l:=acc.map aC) bj (t4 pr d.yk.lt λ{s s'}=>H8 (i:=aH X+8) (l:=acc.map aC) bj ⟨wX zg,c7 (λo=>fin (.inr rfl)) λo=>fin (.inr rfl)⟩)))
   .exact gx (D3.int i9) (fP (mJ.str zs) (jJ (i:=aH X+8) (l:=acc.map aC) bj (t4 pr d.yk.lt λ{s s'}=>H8 (i:=aH X+8) (l:=acc.map aC) bj ⟨wX zg,c7 (λo=>fin (.inl rfl)) λo=>fin (.inl rfl)⟩)))
  .refine BP (W:=W) (a:=7) (k:=11) (l:=bU kk) (show aB (hL (pC S a1 b1) y s s' gg kk X) 7=F5 (.lst ((bU kk).map V.int)) from rfl) (c7 (λi1=>?_) λo=>rest λd' ne' l' h'=>nx d' ne' l' h')
   have n11:11∉kk:=λh=>by
    rw[show(bU kk).any (· == (11:Int))=F6 from vM.mpr ⟨_,s8 h,jb _⟩] at i1
    exact(az i1).elim
   have z:=nx (gg':=gg++[.mk 11]) (kk':=kk++[11]) (y':=y) (cb':=cb) (a':=a1) (b':=b1) (s:=s) (s':=s') (X:=X) (x5:=x5) (x10:=F5 (.int (i:Int))) (x11:=F5 (.int (r:Nat))) (x12:=x12) (x13:=x13) ⟨d.yk.less (cJ _),d.gs.mark n11 (T7 d.gs d.nd n11),(λo=>sn),fm.mpr ⟨d.nd,bo.mpr ⟨dZ,dU⟩,λx hx w hw e=>n11 (bB.mp hw▸e▸hx)⟩⟩ sn ln (h60 (cJ _));unfold hL at z;rw[b8,<-AI] at z;exact⟨wX zg,⟨by rw[fJ];exact bp d.gs.kz (lz rfl),z⟩⟩
end
def EJ{l:List (List Nat)}:hG (.lst (l.map V.str)):=λy=>aF Cell.lst (eK λy=>rfl)
def Im{r:Nat->Nat}{K:Type}{key:α->K}{l:List α}:∀{i:Nat},ik r (dE key i l)=dE key i l:=by
 induction l with
 |nil=>exact rfl|cons x l ih=>exact λ{i}=>aF (List.cons _) ih
def EH{l:List (List Nat)}{s:Nat}:hG (.dict (dE ng 0 l) s):=λy=>aF (Cell.dict · s) Im
def EI{l:List (Nat×Nat)}{s:Nat}:hG (.aX (dE nc 0 l) s):=λy=>aF (Cell.aX · s) Im
def KW(y:Sy)(s s':Nat):Sc:=⟨.lst (y.1.map V.str),.dict (dE ng 0 y.1) s,y.2,.aX (dE nc 0 y.2) s',EJ,EH,EI⟩
section
variable(pr:a9 W){Q:K1}
include pr
def Tr{f:Int}{all:List Gl}(h7:aB H gl=F5 (.lst (all.map aN)))(et:bY (args++gT all)=tb)(hd:∀t∈args++gT all,t.dep<=d)(hz:args.length+(gT all).length<=1000)(hg:all.length<=1000)(ht:tb.length<=1000)
  (q:∀{H' z},H.length<=z->aB H' (z+1)=F5 (.inst 6 [(100897158637842290,.int f),(5929854835,.tup ((args.map (U.Tm.app (c6 tb))).map aC)),(1543761914995,.obj z),(1526583357044,.int (tb.length:Nat))])->aB H' z=F5 (.lst ((all.map (gw tb)).map aN))->(∀{i c},i≠gl->aB H i=F5 c->aB H' i=F5 c)->Q (.obj (z+1)) H'):
  Fi W (d+2) 78 [.tup [.int f,.tup (args.map aC)],.obj gl] H Q:=by
 have e:∀{r:Nat->Nat} {l:List U.Tm},eT r (l.map aC)=l.map aC:=eK λy=>lW;have F:=tw (vs:=[.tup [.int f,.tup (args.map aC)],.obj 0]) (σ:=[gl]) (H:=H) (H1:=[.lst (all.map aN)]) (Q:=Q) (n:=d+2) (f:=78) (bo.mpr ⟨dZ,dU⟩) ⟨h7.trans (aF (λl=>F5 (Cell.lst l)) (eK λy=>rT).symm),cC⟩ (Tt pr et hd hz hg ht λ{C1 C2 H'} b=>?_)
 .rw[show eT (rn [gl] H.length) [.tup [.int f,.tup (args.map aC)],.obj 0]=[.tup [.int f,.tup (eT (rn [gl] H.length) (args.map aC))],.obj gl] from rfl,e] at F
  exact F
 .have b4:=b.gP (j:=4) rfl;have b3:=b.gP (j:=3) rfl;rw[show mc (rn [gl] H.length) (.inst 6 [(100897158637842290,.int f),(5929854835,.tup ((args.map (U.Tm.app (c6 tb))).map aC)),(1543761914995,.obj 3),(1526583357044,.int (tb.length:Nat))])=.inst 6 [(100897158637842290,.int f),(5929854835,.tup (eT (rn [gl] H.length) ((args.map (U.Tm.app (c6 tb))).map aC))),(1543761914995,.obj (H.length+2)),(1526583357044,.int (tb.length:Nat))] from rfl,e] at b4
  rw[show mc (rn [gl] H.length) (.lst ((all.map (gw tb)).map aN))=.lst ((all.map (gw tb)).map aN) from aF Cell.lst (eK λy=>rT)] at b3
  exact q (z:=H.length+2) (aW _ _) (ah.trans b4) (ah.trans b3) λn h=>ah.trans (b.out (λm=>n (bB.mp m)) (ah▸h))
omit pr in
theorem V5(h1:8<=c)(h2:c<b)(h3:b<a):[1,2,3,4,5,a,b,c].Nodup:=by
 have hb:8<=b:=aA h1 (d9 h2);have ha:8<=a:=aA hb (d9 h3);have f:∀{k:Nat},k<8->k∉[a,b,c]:=λq m=>by
  rcases bD.mp m with e|m
  .exact Dy ha (e▸q)
  rcases bD.mp m with e|m
  .exact Dy hb (e▸q)
  .exact Dy h1 (bB.mp m▸q)
 exact(fm (l₁:=[1,2,3,4,5]) (l₂:=[a,b,c])).mpr ⟨by decide,bo.mpr ⟨λm=>(bD.mp m).elim (fq h3) λm=>fq (jV h2 h3) (bB.mp m),bo.mpr ⟨λm=>fq h2 (bB.mp m),bo.mpr ⟨dZ,dU⟩⟩⟩,λx hx y hy e=>f (bp ((by decide:∀x∈[1,2,3,4,5],x<=5) x hx) ⋯) (e▸hy)⟩
def MO{z cl s:Nat}{f:Int}{call:List U.Tm}(h:Ag y.2 N args goals call picks (ui y.2))(c8:8<=cl)(cz:cl<z)
  (h1:aB H 1=F5 (.inst 0 [(1599430227059,.obj 2),(109388970062261371602777502323,.obj 3),(25829672611287626355,.obj 4),(1861224063156749765404099319326667379,.obj 5)])) (h2:aB H 2=F5 (.lst (y.1.map V.str))) (h3:aB H 3=F5 (.dict (dE ng 0 y.1) s)) (h4:aB H 4=F5 (.lst (y.2.map nV))) (h5:aB H 5=F5 (.aX (dE nc 0 y.2) s'))
  (hk:aB H (z+1)=F5 (.inst 6 [(100897158637842290,.int f),(5929854835,.tup (args.map aC)),(1543761914995,.obj z),(1526583357044,.int (N:Nat))])) (hz:aB H z=F5 (.lst (goals.map aN))) (hc:aB H cl=F5 (.lst (call.map aC))) (q:∀{H'},Q (.bool F6) H'):
  Fi W (n+158) 77 [.obj 1,.obj (z+1),.obj cl,.lst (eC picks)] H Q:=by
 have e:∀{r:Nat->Nat} {l:List U.Tm},eT r (l.map aC)=l.map aC:=eK λo=>lW;have F:=tw (vs:=[.obj 0,.obj 5,.obj 7,.lst (eC picks)]) (σ:=[1,2,3,4,5,z+1,z,cl]) (H:=H) (Q:=Q) (V5 c8 cz (dy z)) (H1:=hA (pX (KW y s s') f N args goals call) []) ⟨h1,h2.trans (aF F5 (EJ _).symm),h3.trans (aF F5 (EH _).symm),h4.trans (aF F5 (EG _).symm),h5.trans (aF F5 (EI _).symm),hk.trans (aF (λl=>F5 (Cell.inst 6 [(100897158637842290,.int f),(5929854835,.tup l),(1543761914995,.obj z),(1526583357044,.int (N:Nat))])) e.symm),hz.trans (aF (λl=>F5 (Cell.lst l)) (eK λo=>rT).symm),hc.trans (aF (λl=>F5 (Cell.lst l)) e.symm),cC⟩ (MP (n:=n) (s:=KW y s s') h pr λ{H1' H'} o=>q);rw[show eT (rn [1,2,3,4,5,z+1,z,cl] H.length) [.obj 0,.obj 5,.obj 7,.lst (eC picks)]=[.obj 1,.obj (z+1),.obj cl,.lst (eT (rn [1,2,3,4,5,z+1,z,cl] H.length) (eC picks))] from rfl,show eT (rn [1,2,3,4,5,z+1,z,cl] H.length) (eC picks)=eC picks from eK λo=>rfl] at F
 exact F
end
def Vr{Q:K1}(q:Q (.obj (aH H)) (app H [.lst ws])):uB Q ws H:=by
 rw[cY,cQ] at q;exact⟨.cell,q⟩
def Ng(h:Tz 1 [500,501] t):yV t:=⟨h.wt,h.vs,h.dp⟩
def QK(h:∀g∈gg,Gd fs kk g):(gT gg).length<=3*gg.length:=by
 induction gg with
 |nil=>exact ba _|cons g gg ih=>
  rw[show gT (g::gg)=kT g++gT gg from rfl,a8,dY,mG,bW (3*_)]
  refine eb ?_ (ih λx m=>h x (.tail _ m));have z:=h g (.head _)
  cases g with
  |call f as=>exact z.2.1|bi f as=>exact z.2.1|ao=>exact(by decide:1<=3)|mk=>exact(by decide:1<=3)|ct=>exact(by decide:1<=3)|cut=>exact ba _
def QJ(h:∀g∈gg,Gd fs kk g)(m:t∈gT gg):t.dep<=2:=by
 obtain⟨g,mg,m⟩:=Af.mp m;have z:=h g mg
 cases g with
 |call f as=>exact(z.1 t m).dp|bi f as=>exact(z.1 t m).dp|ao=>cases bB.mp m;exact ba _|mk=>cases bB.mp m;exact ba _|ct=>cases bB.mp m;exact ba _|cut=>exact memN m
section
variable(pr:a9 W)(hS:S≠[])(hts:∀t∈ts,Tz 0 rX t)(l3:ts.length<=3){f:Int}{Q:K2}(q:∀{F H},Q (.ret (.bool F6)) F H)
include pr hS hts l3 q
def Up{s s' a b m X x4 x5 x10 x11 x12 x13}{call:List U.Tm}(d:Dr y m kk gg cb)(ne:gg≠[])(g5:gg.length<=5)(hc:∀t∈call,yV t)(lc:ts.length=call.length)(hb:b<=1000):
  aO W 199 (dp 11 pG) (fG na x0 x4 x5 (F5 (.tup [.int f,.tup (ts.map aC)])) cb x10 x11 x12 x13 (F5 (.obj (aH X+8))) L3) (hL (pC S a b) y s s' gg kk (app X [.lst (call.map aC)])) Q:=by
 have b1:∀{b'},b'<=b+3->b'<=1000000:=λh=>aA h (aA (b5 hb 3) ⋯)
 refine bz 1 ⟨lz rfl,gi pr (m:=4) hS (b1 (aW _ _)) ⋯ ⋯ λ{r1 a1 b1'} o h1=>gi pr (m:=4) hS (b1 (aA h1 (dC (by decide:1<=3) b))) ⋯ ⋯ λ{r2 a2 b2'} o h2=>gi pr (m:=4) hS (b1 (fE (aA h2 (cP h1)))) ⋯ ⋯ λ{r3 a3 b3'} o h3=>gi pr (m:=4) hS (b1 (aA h3 (cP (aA h2 (cP h1))))) ⋯ ⋯ λ{r4 a4 b4'} o o=>⟨.val,bH ?_⟩⟩
 have n8:=d.gs.names hts;have zT:(gT gg).length<=15:=aA (QK d.gs.gd) (dc 3 g5);refine Tr pr (gl:=6) (d:=197) (args:=ts) (all:=gg) rfl rfl (λt mt=>(cD.mp mt).elim (λmt=>aA (hts t mt).dp (ba _)) λmt=>aA (QJ d.gs.gd mt) ⋯) (aA (eb l3 zT) ⋯) (aA g5 ⋯) (aA n8 ⋯) λ{H' z} lz hk hz keep=>?_
 refine MO pr (n:=41) (cl:=aH X+8) (MN hts d.gs d.yk rfl l3 ne g5 hc lc (picks:=[r1,r2,r3,r4]) (om 3)) (cI _ _) (bw ?_ lz) (keep ⋯ rfl) (keep ⋯ rfl) (keep ⋯ rfl) (keep ⋯ rfl) (keep ⋯ rfl) hk hz (keep ?_ bj) λ{H'}=>q
 .show aH X+8<(app X [_]).length+8;rw[cQ,a8,cY];exact dy _
 .exact fq (bw (by decide:6<8) (cI 8 _))
def Uo{s s' a b m X x5 x10 x11 x12 x13}(d:Dr y m kk gg cb)(ne:gg≠[])(g5:gg.length<=5)(hb:b<=900):
  aO W 199 (dp 10 pG) (fG na x0 (F5 (.int (ts.length:Nat))) x5 (F5 (.tup [.int f,.tup (ts.map aC)])) cb x10 x11 x12 x13 L3 L3) (hL (pC S a b) y s s' gg kk X) Q:=by
 have l18:3*2 ^ 1*ts.length<=18:=dc 6 l3;refine bz 1 ⟨aA l3 (lz rfl),LD pr (n:=196) hS (d:=1) (ns:=[500,501]) (qI _ _) ⋯ (el:=bI W 199 Hi) (λ{o H Q} q=>mw (lz rfl) q) (l:=jj ts.length) ?_ λ{call a' b'} hl hc hb'=>Vr ?_⟩
 .rw[oA];exact aA (eb hb l18) ⋯
 rw[oA] at hl hb';exact bH (Up pr hS hts l3 q d ne g5 (λt m=>Ng (hc t m)) hl.symm (aA hb' (aA (eb hb l18) ⋯)))
def IA{s s' a b m x5}(d:Dr y (m+4) kk gg L0)(g1:gg.length<=1)(hb:b<=50):aO W 199 (dp 9 pG) (fG na x0 (F5 (.int (ts.length:Nat))) x5 (F5 (.tup [.int f,.tup (ts.map aC)])) L0 L3 L3 L3 L3 L3 L3) (hL (pC S a b) y s s' gg kk []) Q:=by
 refine bz 1 (gi pr (m:=4) hS (aA hb ⋯) ⋯ ⋯ λ{r a1 b1} hr h1=>⟨show 1+r<=aJ from aA (dC (d9 hr) 1) (lz rfl),?_⟩)
 have r4:1+r<=4:=by rw[bW];exact hr
 have hb1:b1<=51:=aA h1 (cP hb);have G:=Qe pr (n:=195) hS (na:=na) (x0:=x0) (x4:=F5 (.int (ts.length:Nat))) (x6:=F5 (.tup [.int f,.tup (ts.map aC)])) (Q:=lQ (Stop (aO W 199 (dp 10 pG))) Q) (k:=1+r) (i:=0) (gg:=gg) (kk:=kk) (y:=y) (m:=m) (cb:=L0) (a:=a1) (b:=b1) (s:=s) (s':=s') (X:=[]) (x5:=x5) (x10:=L3) (x11:=L3) (x12:=L3) (x13:=L3) ⟨d.yk.less (dC r4 m),d.gs,d.ne,d.nd⟩ (aA (eb hb1 (dc 60 r4)) ⋯) (aA (eb g1 r4) ⋯) (aA (bX (cW _)) (aA r4 ⋯)) (λe=>absurd e (fq (bw Nat.one_pos (aW _ _)))) λ{gg' kk' y' cb' a' b' s s' X x5 x10 x11 x12 x13} d' ne' l' h'=>bH (Uo pr hS hts l3 q d' ne' (aA l' (eb g1 r4)) (aA h' (aA (eb hb1 (dc 60 r4)) ⋯)))
 rw[<-mf] at G;exact G
end
section
variable(pr:a9 W)(hS:S≠[]){f:Int}{Q:K2}(q:∀{F H},Q (.ret (.bool F6)) F H)
include pr hS q
def Un(hts:∀t∈ts,Tz 0 rX t)(l3:ts.length<=3){s s' a b x5}(yk:jB y 4)(hb:b<=40):aO W 199 (dp 8 pG) (fG na x0 (F5 (.int (ts.length:Nat))) x5 (F5 (.tup [.int f,.tup (ts.map aC)])) L0 L3 L3 L3 L3 L3 L3) (hL (pC S a b) y s s' [] [] []) Q:=by
 refine bz 1 (gi pr (m:=3) hS (aA hb ⋯) ⋯ ⋯ λ{r a1 b1} o h1=>c7 (λo=>?_) λo=>?_)
 .have z:=IA (m:=0) (gg:=[.ao 10]) (kk:=[10]) (y:=y) (s:=s) (s':=s') (a:=a1) (b:=b1) (x5:=x5) (x0:=x0) (f:=f) (na:=na) pr hS hts l3 q ⟨yk,.level,(λe=>(az e).elim),bo.mpr ⟨dZ,dU⟩⟩ (au 1) (aA h1 (aA (cP hb) ⋯))
  exact⟨lz rfl,⟨lz rfl,bH z⟩⟩
 .exact bH (IA (m:=0) pr hS hts l3 q ⟨yk,.nil,(λe=>(az e).elim),dU⟩ (ba 1) (aA h1 (aA (cP hb) ⋯)))
def Um{s:Nat}:aO W 199 (dp 3 pG) [x0,F5 (.obj 0),F5 (.obj 1),F5 (m8 na),L3,L3,L3,L3,L3,L3,L3,L3,L3,L3,L3,L3] (eF (pC S 0 0) [] yW.1 yW.2 s s') Q:=by
 have yk:jB yW 100:=⟨og,aA (b5 aBD _) ⋯⟩
 refine bz 1 (gi pr (m:=4) hS (ba _) ⋯ ⋯ λ{r a b} hr hb=>bH (bz 1 (t4 pr (k:=r) yk.lt λ{s s'}=>⟨aA (d9 hr) (lz rfl),LD pr (n:=197) hS (d:=0) (ns:=rX) (qI _ _) ⋯ (el:=bI W 199 Hh) (λ{o H Q} q=>mw (lz rfl) q) (l:=jj r) ?_ λ{ts a1 b1} hl hts h1=>⟨.val,?_⟩⟩)))
 .rw[oA];exact aA (eb hb (dc 3 (d9 hr))) ⋯
 .rw[oA] at hl h1;subst hl;exact bH (bz 3 (dN (lz rfl) (dN (lz rfl) (bH (Un pr hS q hts (qQ hr) (y:=fH yW ([104],ts.length)) ((jB.func (m:=99) yk).less ⋯) (aA h1 (aA (eb hb (dc 3 (d9 hr))) ⋯)))))))
end
def O9(pr:a9 W){s:Nat}{P:Cell}{Q:K1}(q:∀{s s'},Q (.int 32) (eF P [] yB.1 yB.2 s s')):Fi W (n+2) 7 [.obj 1,.str [102],.int 1] (eF P [] yA.1 yA.2 s s') Q:=t4 pr (k:=1) ⟨yS.2.1,yS.2.2.1⟩ (w32▸q)
def PA(pr:a9 W){s:Nat}{P:Cell}{Q:K1}(q:∀{s s'},Q (.int 33) (eF P [] yW.1 yW.2 s s')):Fi W (n+2) 7 [.obj 1,.str [102],.int 2] (eF P [] yB.1 yB.2 s s') Q:=t4 pr (k:=2) yS.2.2.2 (w33▸q)
variable{xs:List Int}
def Xi:(xs.map V.int++[V.int 0]).take 40=((xs++[0]).take 40).map V.int:=by rw[List.map_take,b8];rfl
def Xj:(xs++[0]).take 40≠[]:=by
 cases xs with
 |nil=>exact qI _ _|cons x l=>exact qI _ _
def Ul(pr:a9 W){Q:K1}(q:∀{H},Q (.bool F6) H)(hx:xs.length<=63):Fi W 200 80 [.lst (xs.map .int)] [] Q:=by
 refine pr.fe (n:=199) QI rfl ?_;refine mw (lz rfl) (fP (mJ.lst .val .val (by rw[a8,aQ];exact aA (b5 hx _) (lz rfl)) .val) (sA (eg.IY (j:=40) .val .val) ?_))
 rw[Xi];refine dN (lz rfl) (Zi pr λ{s s'}=>⟨rfl,?_⟩);refine zU pr yS.1 λ{s}=>O9 pr λ{s s'}=>PA pr λ{s s'}=>mw (lz rfl) ?_;exact Um pr Xj λ{F H}=>q
def aBG:rg.Holds:=S6 λpr xs h=>rC.mp (Ul pr (λ{H}=>rfl) h)
end Mine
end
end
theorem PySem.Challenge.cw_no0186_02_holds : PySem.Challenge.rw_no0186_02.Holds :=
  Mine.aBG
