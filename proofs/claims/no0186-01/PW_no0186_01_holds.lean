import PyProof.Rows.All
import Wide.All
import OpenK.AllK
import Wide.FinOn
import KE.KRevIter
import KE.KDictSum
import Lean
import PySem.Challenge.RW_no0186_01
set_option autoImplicit false
set_option linter.all false
set_option genCtorIdx false
set_option maxRecDepth 100000
set_option Elab.async false
set_option maxHeartbeats 8000000
open Nat renaming le_trans→aA,le_add_right→aT,le_refl→ai,add_assoc→bP,add_comm→bR,le_of_eq→bS,zero_le→bW,lt_of_le_of_lt→bb,lt_of_lt_of_le→bj,add_le_add_right→bp,le_add_left→b9,le_succ→cB,succ_le_succ→cI,zero_add→cP,add_le_add_left→cq,mul_le_mul_left→dO,lt_succ_self→dY,le_of_lt→dk,add_le_add→d9,lt_irrefl→eA,ne_of_lt→eB,le_succ_of_le→eI,ne_of_gt→eb,le_of_succ_le→fK,not_lt→fL,le_of_succ_le_succ→gY,add_right_comm→hE,le_max_left→iS,le_max_right→iT,lt_trans→iU,not_succ_le_zero→iV,lt_succ_of_le→jI,mul_succ→kb,le_of_not_lt→lh,sub_le→nA,succ_pos→nB,add_sub_cancel_left→og,le_of_lt_succ→oh,min_le_right→oj,not_le→om,sub_self→oo,eq_zero_of_add_eq_zero_right→qx,lt_add_of_pos_right→qy,min_eq_left→qz,mod_lt→q4,not_lt_zero→q5,eq_of_beq_eq_true→tW,le_antisymm→tX,max_le→tY,pos_of_ne_zero→tZ,succ_add_eq_add_succ→ta,exists_eq_add_of_le→wK,lt_succ_of_lt→wL,min_eq_right→wM,min_self→wN,mul_add_one→wO,mul_comm→wQ,ne_of_beq_eq_false→wR,pow_succ→wU,sub_add_cancel→wV,add_right_cancel→BY,eq_zero_of_add_eq_zero_left→BZ,le_mul_of_pos_right→Ba,le_of_ble_eq_true→Bb,lt_of_not_le→Bc,lt_of_succ_lt→Be,not_lt_of_le→Bf,one_le_of_lt→Bh
open PySem renaming wpAny_bind→aF,wpAny_pure→ae,wpAny_standAt→d8,wpAny_holding→eG,wpAny_of_eq→gR,wpAny_newObj_type→i8,wpAny_mono→lT,builtinLookup_eq_fast→lx,typeLookup_type→md,wpAny_call_entry→me,isSubtype_type→pS,wpAny_field→qS,wpAny_specialOf→qT,slot_list_getitem→vR,wpAny_attempt→vl,wpAny_isInstance→vm,wpAny_rule→vo,wpAny_setField→vp,wpAny_assign_Name→An,wpAny_callSpecial?_slot→Ao,wpAny_comprehension_free→Ap,wpAny_updateSeq→Aq,wpAny_getItem_list_slice→Ip,wpAny_typeNameOfWhole_keyiter→Iq,wpAny_typeNameOf_keyiter→Ir
open List renaming length_map→aN,length_append→a5,mem_singleton→a6,mem_cons→a8,size_toArray→bM,nodup_cons→ba,getElem?_eq_getElem→bh,map_append→bt,mem_append→b6,map_cons→cO,mem_map→cg,getElem?_eq_some_iff→dE,nodup_nil→dF,length_cons→dK,not_mem_nil→dM,append_assoc→dX,all_eq_true→dh,mem_of_getElem?→dj,append_nil→eY,nodup_append→eZ,getElem?_map→fI,map_map→fJ,mem_filter→fz,mem_append_left→gX,map_congr_left→g8,getElem_mem→iQ,mem_iff_getElem?→iR,idxOf_lt_length_iff→jG,length_range→jH,contains_iff_mem→jj,length_reverse→jk,mem_append_right→jl,getElem?_toArray→kX,mem_flatMap→kY,reverse_cons→kZ,length_eq_zero_iff→lW,length_nil→lX,prefix_refl→lY,getElem?_append_right→mw,getElem_idxOf→mz,lookup_cons→m5,mem_cons_self→m6,mem_range→m7,prefix_rfl→m8,any_cons→oU,cons_ne_nil→oW,getElem?_append_left→oX,getElem?_eq_none→oY,length_drop→oZ,length_filter_le→oa,prefix_append→oe,all_cons→qj,drop_nil→qk,filter_cons→ql,mem_map_of_mem→qm,take_of_length_le→qo,toList_toArray→qw,any_eq_true→tN,filterMap_cons→tO,find?_cons→tQ,flatMap_append→tR,getElem?_set→tS,getLast?_eq_getElem?→tU,cons_append→wB,getElem?_eq_none_iff→wC,length_pos_iff→wD,length_take→wF,sum_cons→wG,take_length→wH,append_toArray→BC,contains_cons→BD,drop_eq_nil_iff→BE,drop_eq_nil_of_le→BF,drop_length→BG,ext_getElem?→BH,find?_eq_none→BI,getElem?_inj→BJ,getElem?_range→BK,idxOf_append→BL,idxOf_cons_self→BN,isEmpty_iff→BO,length_erase_of_mem→BP,mem_cons_of_mem→BR,push_toArray→BS,set_append_right→BU,zip_cons_cons→BV
open Option.some renaming inj→av
open Bool renaming false_ne_true→ax,and_eq_true→de,and_eq_true_iff→gS,eq_false_iff→jA,eq_iff_iff→mi,not_eq_true'→tE,or_eq_true→tF
open LawfulBEq renaming eq_of_beq→bY
open PySem.Heap renaming get?_push_size→dW,lt_size→gE,get?_update_self→kT,get?_push_of_some→mq,get?_update_other→oT,size_push→tL
open Int.ofNat renaming inj→dg
open Int renaming natCast_nonneg→eH,ofNat_lt→fu,le_trans→jF,not_lt→kU,ofNat_le→kW,toNat_natCast→qh,lt_of_le_of_lt→v7,add_sub_cancel→BA
open Prod renaming ext→gZ
open Ne renaming symm→jJ
open PySem.Heap.SameBut renaming update→ji
open Array renaming length_toList→mh
open Classical renaming em→ml,byContradiction→qX
open Prod.mk renaming inj→nE
open List.cons renaming inj→oV
open Nat.succ renaming inj→oq
open Option renaming map_eq_some_iff→ou,isSome_iff_exists→wY,map_some→wZ,isNone_iff_eq_none→Bj,map_eq_none_iff→Bk
open PyProof.Rows renaming args_cons→o6,args_nil→rF
open PySem.Obj renaming data_mapFields→q6,isFreed_of_fields→Bi
open PySem.F renaming plain_extend_loop→tK,plainAttrs_list→vy,slot_dict_get→vz,slot_tuple_getitem→wc,plainAttrs_dict→A0,slot_dict_keyiterator_next→A1,slot_list_extend→A2
open List.Pairwise renaming filter→BB
open PySem.Calls renaming Name_function_global→BX
open PySem.Value renaming isInt_shape→Br
namespace Mine
noncomputable def aD:=@if_neg
noncomputable def aE:=@congrArg
noncomputable def aG:=@if_pos
noncomputable def a7:=@decide_eq_false
noncomputable def a9:=@decide_eq_true
noncomputable def bx:=@trivial
noncomputable def c6:=@of_decide_eq_true
noncomputable def dm:=@beq_iff_eq
noncomputable def ig:=@beq_self_eq_true
noncomputable def lu:=@bne_iff_ne
noncomputable def l5:=@decide_eq_decide
noncomputable def l6:=@decide_eq_true_iff
noncomputable def rJ:=@beq_eq_false_iff_ne
noncomputable def sJ:=@of_decide_eq_false
noncomputable def xN:=@decide_eq_true_eq
end Mine
section
open PySem PySem.W PySem.Calls PyProof.Rows PySem.SeqAt
namespace Mine
set_option genSizeOf false
set_option genCtorIdx true in
inductive V where
 |none
 |bool (b:Bool)
 |int (i:Int)
 |str (s:List Nat)
 |tup (l:List V)
 |lst (l:List V)
 |obj (i:Nat)
set_option genCtorIdx true in
inductive Atom where
 |int (i:Int)
 |str (s:List Nat)
 deriving DecidableEq
set_option genCtorIdx true in
inductive Cell where
 |lst (l:List V)
 |dict (kvs:List (Atom×V)) (st:Nat)
 |aY (kvs:List (List Atom×V)) (st:Nat)
 |set (p:List Int)
 |inst (c:Nat) (flds:List (Nat×V))
noncomputable abbrev AH:=List Cell
noncomputable abbrev aO:=Nat→Option V
noncomputable def upd(F:aO)(x:Nat)(v:V):aO:=fun y=>if y=x then some v else F y
set_option genInjectivity false in
set_option genCtorIdx true in
inductive F1 where
 |len|list|tuple|sorted|str
set_option genInjectivity false in
set_option genCtorIdx true in
inductive Mt where
 |append|pop|insert|add|discard|eP|fV
set_option genInjectivity false in
inductive Op where
 |tup|lst|e5|mS
 |sub|i6|gj|cut
 |attr (a:Nat)
 |bin (op:Operator)|cmp (op:CmpOp)
 |lG|fh|eE (l:List (List Nat))
 |f1 (f:F1)|listRev
set_option genInjectivity false in
mutual
inductive IE where
 |const (v:V)
 |var (x:Nat)
 |op (o:Op) (es:c9)
 |call (f:Nat) (es:c9)
 |aV (e:IE) (m:Nat) (es:c9)
 |bm (m:Mt) (e:IE) (es:c9)
 |hZ (e a:IE)
 |new (c:Nat) (es:c9)
 |and (a b:IE)
 |or (a b:IE)
 |not (a:IE)
 |ite (c a b:IE)
 |comp (e:IE) (x:Nat) (it:IE)
 |f7 (e:IE) (x:Nat) (n:IE)
inductive c9 where
 |nil
 |cons (e:IE) (es:c9)
end
set_option genInjectivity false in
mutual
inductive IS where
 |asg (x:Nat) (e:IE)
 |fR (xs:List Nat) (e:IE)
 |swap (x y:Nat) (a b:IE)
 |bw (a i e:IE)
 |setAttr (o:IE) (a:Nat) (e:IE)
 |aug (x:Nat) (op:Operator) (e:IE)
 |jo (t:IE) (a:Nat) (op:Operator) (e:IE)
 |expr (e:IE)
 |ite (c:IE) (a b:aK)
 |da (c:IE) (b:aK)
 |forIn (x:Nat) (e:IE) (b:aK)
 |forR (x:Nat) (n:IE) (b:aK)
 |ret (e:IE)
 |cont
 |pass
inductive aK where
 |nil
 |cons (s:IS) (ss:aK)
end
inductive Fl where
 |aL|brk|cnt
 |ret (v:V)
noncomputable def aJ:Nat:=16000000
noncomputable def cG:Atom→V
 | .int i=>.int i
 | .str s=>.str s
section
variable{K W:Type}[DecidableEq K]
noncomputable def aR(l:List (K×W))(k:K):Option W:=(l.find? fun p=>decide (p.1=k)).map (·.2)
noncomputable def bc(l:List (K×W))(k:K)(v:W):List (K×W):=
 if l.any (fun p=>decide (p.1=k)) then l.map (fun p=>if p.1=k then(p.1,v) else p) else l++[(k,v)]
noncomputable def nV(l:List (K×W))(k:K):List (K×W):=l.filter fun p=>decide (p.1≠k)
end
noncomputable def fU(c a:Nat):Bool:=c == 0&&(a == 1526583357044||a == 100897158637842290)
inductive iX(H:AH)(t:Bool):V→Prop
 |none (e:false=t):iX H t .none
 |bool {b:Bool} (e:b=t):iX H t (.bool b)
 |int {i:Int} (e:(i != 0)=t):iX H t (.int i)
 |lst {i:Nat} {l:List V} (hc:H[i]?=some (.lst l)) (e:(!l.isEmpty)=t):iX H t (.obj i)
noncomputable def oD(l:List Int):List Int:=l.mergeSort (fun a b=>decide (a≤b))
noncomputable def stampOf:Cell→Option Nat
 | .dict _ st=>some st
 | .aY _ st=>some st
 |_=>none
noncomputable def gw(F:aO):List Nat→List V→aO
 |x::xs,v::vs=>gw (upd F x v) xs vs
 |_,_=>F
structure Bo where
 nj:Nat→Nat→Option Nat
 init:Nat→Option Nat
structure mn where
 params:List Nat
 body:aK
inductive Sm{α:Type}(o:Option α)(P:α→Prop):Prop
 |mk {v:α} (h:o=some v) (p:P v)
inductive Ex{α:Type}(P:α→Prop):Prop
 |mk {v:α} (p:P v)
inductive au(P Q:Prop):Prop
 |mk (p:P) (q:Q)
inductive Tq(v:V)(H:AH)(P:Bool→Prop):Prop
 |mk {t:Bool} (h:iX H t v) (p:P t)
noncomputable def rG:Atom→Value→Bool
 | .int i,v=>Value.isInt i v
 | .str s,v=>Value.isStrOf ⟨s.toArray⟩ v
noncomputable def Jl(w:World):Atom→Int
 | .int i=>hashInt i
 | .str s=>hashStr w ⟨s.toArray⟩
theorem str_inj{s r:List Nat}(h:(⟨s.toArray⟩:Str)=⟨r.toArray⟩):s=r:=List.toArray_inj (aE Str.cps h)
theorem Ks{p q:Prop}[Decidable p][Decidable q](h:p↔q):decide p=decide q:=l5.mpr h
theorem CT{α:Type}[BEq α][LawfulBEq α]{a b:α}{q:Prop}[Decidable q](h:a=b↔q):(a == b)=decide q:=by
 rw[mi,dm,l6];exact h
inductive i9:Atom→Value→Prop
 |int {i:Int} {t:Tok}:i9 (.int i) (.int i t)
 |str {s:List Nat} {t:Tok}:i9 (.str s) (.str ⟨s.toArray⟩ t)
theorem lr:∀{k:Atom} {v:Value},rG k v=true→i9 k v
 | .int _,_,h=>let ⟨_,e⟩:=Br h;e▸.int
 | .str _,_,h=>let ⟨_,e⟩:=Value.isStrOf_shape h;e▸.str
theorem i9.is{k:Atom}{v:Value}(h:i9 k v):rG k v=true:=by
 cases h
 ·exact ig _
 ·exact ig _
noncomputable def Jm:Value→Option Atom
 | .int i _=>some (.int i)
 | .str s _=>some (.str s.cps.toList)
 |_=>none
theorem i9.of{k:Atom}{v:Value}(h:i9 k v):Jm v=some k:=by cases h<;>rfl
noncomputable def cE(prog:Program)(w:World):KeyKind prog w Atom where
 is:=rG
 hash:=Jl w
 inj:=fun v a b ha hb=>av ((lr ha).of.symm.trans (lr hb).of)
 byValue:=fun k v h=>by cases lr h<;>rfl
 pyHash:=fun{A E s k v Q} h q=>by
  cases lr h
  ·exact wpAny_pyHash_int q
  ·exact wpAny_pyHash_str q
 eqBool:=fun{A E s a b u v Q} h1 h2 q=>by
  cases lr h1<;>cases lr h2
  ·exact wpAny_eqBool_int (by rw[CT (q:=Atom.int _=Atom.int _) ⟨aE Atom.int,Atom.int.inj⟩];exact q)
  ·exact EqAt.int_str _ _ _ _ prog w E Q (by rw[a7 (fun e=>nomatch e)] at q;exact q)
  ·exact EqAt.str_int _ _ _ _ prog w E Q (by rw[a7 (fun e=>nomatch e)] at q;exact q)
  ·exact wpAny_eqBool_str (by rw[Ks (q:=Atom.str _=Atom.str _) ⟨fun e=>aE Atom.str (str_inj e),fun e=>aE (fun l:List Nat=>(⟨l.toArray⟩:Str)) (Atom.str.inj e)⟩];exact q)
 «strs»:=fun k x t v h=>by
  cases lr h;cases v<;>rfl
structure Wd where
 prog:Program
 w:World
 K:Frag
 h₀:Heap
 cls:Nat→Option Addr
 mg:Str→Option Value
 mb:Str→Option Value
 attrs:List Str
 jU:List Str
 eK:List Str
 T:Bo
 jt:Str→Option Int
 js:Str→Option Nat
 jr:Str→Option Nat
 k6:Nat→Option Addr
theorem ao{α:Type}{x:α}{P:Prop}(h:(none:Option α)=some x):P:=nomatch h
theorem n9{α:Type}{o:Option α}{x y:α}{P:α→Prop}(h:o=some x)(h':o=some y)(p:P x):P y:=av (h.symm.trans h')▸p
theorem jY{α:Type}{l l':List α}(h:l <+:l'){i:Nat}{x:α}(e:l[i]?=some x):l'[i]?=some x:=by
 obtain⟨t,rfl⟩:=h;rw[oX (dE.mp e).1];exact e
theorem CJ{α:Type}{l:List α}{x y:α}{i:Nat}(h:(l++[x])[i]?=some y):l[i]?=some y∨(i=l.length∧x=y):=by
 rw[List.getElem?_append] at h;split at h
 ·exact .inl h
 ·rename_i q;have hi:=(dE.mp h).1;have e:i=l.length:=tX (Nat.le_of_sub_eq_zero (Nat.lt_one_iff.mp hi)) (lh q);subst e;rw[oo] at h;exact .inr ⟨rfl,av h⟩
theorem VZ{α:Type}{l:List α}{x y:α}{i j:Nat}(h:(l.set i x)[j]?=some y):(i≠j∧l[j]?=some y)∨(i=j∧x=y):=by
 rw[tS] at h;split at h
 ·rename_i e;split at h
  ·exact .inr ⟨e,av h⟩
  ·exact ao h
 ·rename_i e;exact .inl ⟨e,h⟩
theorem uo{α:Type}(l:List α)(x:α):(l++[x])[l.length]?=some x:=by rw[mw (ai _),oo];rfl
structure Mu where
 g:List Addr
 l:List (Addr×Option Addr)
 st:Nat→Nat
noncomputable def Mu.push(μ:Mu)(p:Addr×Option Addr):Mu:=⟨μ.g,μ.l++[p],fun j=>if j=μ.l.length then 0 else μ.st j⟩
noncomputable def Mu.bump(μ:Mu)(i:Nat):Mu:=⟨μ.g,μ.l,fun j=>if j=i then μ.st j+1 else μ.st j⟩
noncomputable def adr(p:Addr×Option Addr):List Addr:=p.1::p.2.toList
noncomputable def foot(μ:Mu):List Addr:=μ.g++μ.l.flatMap adr
noncomputable def XL(h:Heap)(a:Addr)(items:List Value):Prop:=Ex fun n=>h.get? a=some {cls:=.type "list",data:=.seq items.toArray n}
noncomputable def XT(h:Heap)(a:Addr)(items:List Value):Prop:=Ex fun n=>h.get? a=some {cls:=.type "tuple",data:=.seq items.toArray n}
section
variable{h h':Heap}{a:Addr}{items:List Value}
theorem XL.is(x:XL h a items):h.IsList a items.toArray:=let ⟨e⟩:=x;⟨_,e,rfl,_,rfl⟩
theorem XT.is(x:XT h a items):h.IsTuple a items.toArray:=let ⟨e⟩:=x;⟨_,e,rfl,_,rfl⟩
theorem XL.at(x:XL h a items)(k:∀o,h.get? a=some o→h'.get? a=some o):XL h' a items:=let ⟨e⟩:=x;⟨k _ e⟩
theorem XL.some(x:XL h a items):∃o,h.get? a=some o:=let ⟨e⟩:=x;⟨_,e⟩
end
inductive Bn(μ:Mu)(X:Addr→List Value→Prop)(v:Value)(n:Nat)(P:List Value→Prop):Prop
 |mk {a:Addr} {items:List Value} (e:v=.ref a) (nf:a∉foot μ) (x:X a items) (z:n≤aJ) (r:P items)
inductive I0(P:Value→Prop)(Q:List Value→Prop)(vs:List Value):Prop
 |mk {v:Value} {r:List Value} (e:vs=v::r) (p:P v) (q:Q r)
mutual
noncomputable def VR(μ:Mu)(h:Heap):V→Value→Prop
 | .none,v=>v=.none
 | .bool b,v=>v=.bool b
 | .int i,v=>Ex fun t=>v=.int i t
 | .str s,v=>Ex fun t=>v=.str ⟨s.toArray⟩ t
 | .tup l,v=>Bn μ (XT h) v l.length (fun items=>aM μ h l items)
 | .lst l,v=>Bn μ (XL h) v l.length (fun items=>aM μ h l items)
 | .obj i,v=>Ex fun p=>au (μ.l[i]?=some p) (v=.ref p.1)
noncomputable def aM(μ:Mu)(h:Heap):List V→List Value→Prop
 | [],vs=>vs=[]
 |x::l,vs=>I0 (fun v=>VR μ h x v) (fun r=>aM μ h l r) vs
end
section
variable{μ:Mu}{h:Heap}
theorem aM.cons{x:V}{v:Value}{l:List V}{vs:List Value}(hv:VR μ h x v)(e:aM μ h l vs):aM μ h (x::l) (v::vs):=⟨rfl,hv,e⟩
theorem aM.nil:aM μ h [] []:=rfl
theorem aM.one{x:V}{v:Value}(hv:VR μ h x v):aM μ h [x] [v]:=⟨rfl,hv,rfl⟩
theorem aM.d7{x:V}{l:List V}{vs:List Value}{P:List Value→Prop}(h:aM μ h (x::l) vs)(k:∀v r,VR μ ‹_› x v→aM μ ‹_› l r→P (v::r)):P vs:=let ⟨e,p,q⟩:=h;e▸k _ _ p q
theorem aM.iP{vs:List Value}{P:List Value→Prop}(e:aM μ h [] vs)(k:P []):P vs:=(show vs=[] from e)▸k
theorem aM.IY{x:V}{vs:List Value}{P:List Value→Prop}(e:aM μ h [x] vs)(k:∀v,VR μ h x v→P [v]):P vs:=e.d7 fun v _ hv r=>r.iP (P:=fun r=>P (v::r)) (k v hv)
theorem aM.qJ{x y:V}{vs:List Value}{P:List Value→Prop}(e:aM μ h [x,y] vs)(k:∀v w,VR μ h x v→VR μ h y w→P [v,w]):P vs:=e.d7 fun v _ hv r=>r.IY (P:=fun r=>P (v::r)) fun w=>k v w hv
theorem aM.Ah{x y z:V}{vs:List Value}{P:List Value→Prop}(e:aM μ h [x,y,z] vs)(k:∀v w u,VR μ h x v→VR μ h y w→VR μ h z u→P [v,w,u]):P vs:=e.d7 fun v _ hv r=>r.qJ (P:=fun r=>P (v::r)) fun w u=>k v w u hv
theorem VR.bz{i:Int}{v:Value}{P:Value→Prop}(e:VR μ h (.int i) v)(k:∀t,P (.int i t)):P v:=let ⟨e⟩:=e;e▸k _
theorem VR.fm{s:List Nat}{v:Value}{P:Value→Prop}(e:VR μ h (.str s) v)(k:∀t,P (.str ⟨s.toArray⟩ t)):P v:=let ⟨e⟩:=e;e▸k _
theorem VR.oJ{b:Bool}{v:Value}{P:Value→Prop}(e:VR μ h (.bool b) v)(k:P (.bool b)):P v:=(show v=.bool b from e)▸k
theorem VR.qM{v:Value}{P:Value→Prop}(e:VR μ h .none v)(k:P .none):P v:=(show v=.none from e)▸k
theorem VR.fq{l:List V}{v:Value}{P:Value→Prop}(e:VR μ h (.tup l) v)(k:∀a items,a∉foot μ→XT h a items→l.length≤aJ→aM μ h l items→P (.ref a)):P v:=let ⟨e,a,b,c,d⟩:=e;e▸k _ _ a b c d
theorem VR.qK{l:List V}{v:Value}{P:Value→Prop}(e:VR μ h (.lst l) v)(k:∀a items,a∉foot μ→XL h a items→l.length≤aJ→aM μ h l items→P (.ref a)):P v:=let ⟨e,a,b,c,d⟩:=e;e▸k _ _ a b c d
theorem VR.oK{i:Nat}{v:Value}{P:Value→Prop}(e:VR μ h (.obj i) v)(k:∀p,μ.l[i]?=some p→P (.ref p.1)):P v:=let ⟨⟨hp,e⟩⟩:=e;e▸k _ hp
theorem VR.e7{i:Int}{t:Tok}:VR μ h (.int i) (.int i t):=⟨rfl⟩
theorem VR.vD{i:List Nat}{t:Tok}:VR μ h (.str i) (.str ⟨i.toArray⟩ t):=⟨rfl⟩
theorem VR.sI{i:Bool}:VR μ h (.bool i) (.bool i):=rfl
theorem VR.of_none:VR μ h .none .none:=rfl
theorem VR.sL{i:Nat}{p:Addr×Option Addr}(e:μ.l[i]?=some p):VR μ h (.obj i) (.ref p.1):=⟨⟨e,rfl⟩⟩
theorem aM.length:∀{l:List V} {vs:List Value},aM μ h l vs→vs.length=l.length
 | [],_,e=>e.iP (P:=fun vs=>vs.length=0) rfl
 |_::l,_,e=>e.d7 (P:=fun vs=>vs.length=l.length+1) fun _ _ _ r=>aE (·+1) r.length
theorem aM.get:∀{l:List V} {vs:List Value},aM μ h l vs→∀{n:Nat} {x:V},l[n]?=some x→Ex fun v=>au (vs[n]?=some v) (VR μ h x v)
 | [],_,_,n,x,g=>ao g
 |y::l,_,e,0,x,g=>e.d7 (P:=fun vs=>Ex fun v=>au (vs[0]?=some v) (VR μ h x v)) fun v r hv _=>⟨⟨rfl,av g▸hv⟩⟩
 |y::l,_,e,n+1,x,g=>e.d7 (P:=fun vs=>Ex fun v=>au (vs[n+1]?=some v) (VR μ h x v)) fun v r _ hr=>hr.get (n:=n) g
theorem aM.append:∀{l r:List V} {vs ws:List Value},aM μ h l vs→aM μ h r ws→aM μ h (l++r) (vs++ws)
 | [],r,_,ws,e,e'=>e.iP (P:=fun vs=>aM μ h r (vs++ws)) e'
 |x::l,r,vs,ws,e,e'=>e.d7 (P:=fun vs=>aM μ h (x::(l++r)) (vs++ws)) fun v q hv hq=>.cons hv (aM.append hq e')
theorem aM.take:∀{l:List V} {vs:List Value} (n:Nat),aM μ h l vs→aM μ h (l.take n) (vs.take n)
 | [],_,n,e=>e.iP (P:=fun vs=>aM μ h (List.take n []) (List.take n vs)) (by rw[List.take_nil,List.take_nil];rfl)
 |x::l,_,0,e=>rfl
 |x::l,_,n+1,e=>e.d7 (P:=fun vs=>aM μ h (x::l.take n) (List.take (n+1) vs)) fun v q hv hq=>.cons hv (aM.take n hq)
theorem aM.drop:∀{l:List V} {vs:List Value} (n:Nat),aM μ h l vs→aM μ h (l.drop n) (vs.drop n)
 | [],_,n,e=>e.iP (P:=fun vs=>aM μ h (List.drop n []) (List.drop n vs)) (by rw[qk,qk];rfl)
 |x::l,_,0,e=>e
 |x::l,_,n+1,e=>e.d7 (P:=fun vs=>aM μ h (l.drop n) (List.drop (n+1) vs)) fun v q hv hq=>aM.drop n hq
theorem aM.rev:∀{l:List V} {vs:List Value},aM μ h l vs→aM μ h l.reverse vs.reverse
 | [],_,e=>e.iP (P:=fun vs=>aM μ h [] (List.reverse vs)) rfl
 |x::l,_,e=>e.d7 (P:=fun vs=>aM μ h (x::l).reverse (List.reverse vs)) fun v q hv hq=>by
  rw[kZ,kZ];exact aM.append (aM.rev hq) (.one hv)
theorem aM.set:∀{l:List V} {vs:List Value} (n:Nat) {x:V} {v:Value},aM μ h l vs→VR μ h x v→aM μ h (l.set n x) (vs.set n v)
 | [],_,n,x,v,e,_=>e.iP (P:=fun vs=>aM μ h [] (List.set vs n v)) rfl
 |y::l,_,0,x,v,e,hx=>e.d7 (P:=fun vs=>aM μ h (x::l) (List.set vs 0 v)) fun u q _ hq=>.cons hx hq
 |y::l,_,n+1,x,v,e,hx=>e.d7 (P:=fun vs=>aM μ h (y::l.set n x) (List.set vs (n+1) v)) fun u q hv hq=>.cons hv (aM.set n hq hx)
end
structure bf(X:Addr→Prop)(μ:Mu)(h:Heap)(μ':Mu)(h':Heap):Prop where
 pre:μ.l <+:μ'.l
 gs:μ'.g=μ.g
 new:∀a∈foot μ',a∈foot μ∨h.get? a=none
 keep:∀b o,h.get? b=some o→b∉foot μ→¬X b→h'.get? b=some o
 live:∀b o,h.get? b=some o→Ex fun o'=>au (h'.get? b=some o') (b∈foot μ→o'.cls=o.cls∧o'.dict=o.dict)
 eT:∀(i:Nat) (p:Addr×Option Addr),μ.l[i]?=some p→μ.st i≤μ'.st i∧(μ'.st i=μ.st i→∀o,h.get? p.1=some o→h'.get? p.1=some o)
 gk:∀a∈μ.g,∀o,h.get? a=some o→h'.get? a=some o
noncomputable abbrev Ext:=bf fun _=>False
section
variable{X Y:Addr→Prop}{μ μ' μ'':Mu}{h h' h'':Heap}{a:Addr}{i:Nat}{p:Addr×Option Addr}
theorem uP(h:μ.l[i]?=some p)(ha:a∈adr p):a∈foot μ:=jl _ (kY.mpr ⟨p,dj h,ha⟩)
theorem uQ(h:μ.l[i]?=some p):p.1∈foot μ:=uP h (.head _)
theorem xm(μ:Mu)(p:Addr×Option Addr):foot (μ.push p)=foot μ++adr p:=by simp only[foot,Mu.push,tR,List.flatMap_singleton,dX]
theorem xl(m:a∈foot (μ.push p)):a∈foot μ∨a∈adr p:=b6.mp (xm μ p▸m)
theorem bf.refl:bf X μ h μ h:=⟨lY _,rfl,fun _ m=>.inl m,fun _ _ e _ _=>e,fun _ o e=>⟨⟨e,fun _=>⟨rfl,rfl⟩⟩⟩,fun _ _ _=>⟨ai _,fun _ _ e=>e⟩,fun _ _ _ e=>e⟩
theorem Dh(h:μ.l <+:μ'.l)(g:μ'.g=μ.g)(m:a∈foot μ):a∈foot μ':=
 (b6.mp m).elim (fun m=>gX _ (g▸m)) fun m=>jl _ (let ⟨p,hp,ha⟩:=kY.mp m;kY.mpr ⟨p,h.subset hp,ha⟩)
theorem bf.none(a:bf X μ h μ' h'){x:Addr}(m:h'.get? x=none):h.get? x=none:=by
 cases e:h.get? x with
 |none=>rfl
 |some o=>obtain⟨⟨e',_⟩⟩:=a.live x o e;exact ao (m.symm.trans e')
theorem bf.nf(E:bf X μ h μ' h'){o:Obj}(ha:a∉foot μ)(ho:h.get? a=some o):a∉foot μ':=fun q=>(E.new a q).elim ha fun z=>ao (z.symm.trans ho)
theorem bf.trans(a:bf X μ h μ' h')(b:bf X μ' h' μ'' h''):bf X μ h μ'' h'' where
 pre:=a.pre.trans b.pre
 gs:=b.gs.trans a.gs
 new:=fun x m=>(b.new x m).elim (a.new x) fun m=>.inr (a.none m)
 keep:=fun x o e n1 n2=>b.keep x o (a.keep x o e n1 n2) (a.nf n1 e) n2
 live:=fun x o e=>let ⟨⟨e₁,c₁⟩⟩:=a.live x o e;let ⟨⟨e₂,c₂⟩⟩:=b.live x _ e₁;⟨⟨e₂,fun m=>⟨(c₂ (Dh a.pre a.gs m)).1.trans (c₁ m).1,(c₂ (Dh a.pre a.gs m)).2.trans (c₁ m).2⟩⟩⟩
 eT:=fun i p hp=>⟨aA (a.eT i p hp).1 (b.eT i p (jY a.pre hp)).1,fun q o e=>(b.eT i p (jY a.pre hp)).2 (tX (aA (bS q) (a.eT i p hp).1) (b.eT i p (jY a.pre hp)).1) o
  ((a.eT i p hp).2 (tX (aA (b.eT i p (jY a.pre hp)).1 (bS q)) (a.eT i p hp).1) o e)⟩
 gk:=fun x m o e=>b.gk x (a.gs▸m) o (a.gk x m o e)
theorem bf.weaken(hXY:∀a,X a→Y a)(a:bf X μ h μ' h'):bf Y μ h μ' h':=
 ⟨a.pre,a.gs,a.new,fun b o e n1 n2=>a.keep b o e n1 fun q=>n2 (hXY b q),a.live,a.eT,a.gk⟩
theorem bf.any(a:Ext μ h μ' h'):bf X μ h μ' h':=a.weaken fun _=>False.elim
theorem bf.one{b:Addr}(nf:b∉foot μ)(hX:X b)(k:∀a o,a≠b→h.get? a=some o→h'.get? a=some o)(hl:∃o,h'.get? b=some o):bf X μ h μ h':=
 ⟨lY _,rfl,fun _ m=>.inl m,fun a o e _ n=>k a o (fun q=>n (q▸hX)) e,fun a o e=>(ml (a=b)).elim (fun q=>let ⟨o',ho'⟩:=hl;q▸⟨⟨ho',fun m=>absurd m nf⟩⟩) fun q=>⟨⟨k a o q e,fun _=>⟨rfl,rfl⟩⟩⟩,
  fun j p hp=>⟨ai _,fun _ o e=>k _ o (fun q=>nf (q▸uQ hp)) e⟩,fun a m o e=>k a o (fun q=>nf (q▸gX _ m)) e⟩
noncomputable def hG(X:Addr→Prop)(h:Heap):Prop:=∀a o,X a→h.get? a=some o→∀xs n,o.data≠.seq xs n
theorem hG.none:hG (fun _=>False) h:=fun _ _ q=>q.elim
structure Kp(μ:Mu)(h:Heap)(μ':Mu)(h':Heap):Prop where
 pre:μ.l <+:μ'.l
 new:∀a∈foot μ',a∈foot μ∨h.get? a=none
 seq:∀b o xs n,h.get? b=some o→o.data=.seq xs n→b∉foot μ→h'.get? b=some o
theorem bf.kp(E:bf X μ h μ' h')(hX:hG X h):Kp μ h μ' h':=
 ⟨E.pre,E.new,fun b o xs n e d nf=>E.keep b o e nf fun q=>hX b o q e xs n d⟩
theorem Kp.nf(E:Kp μ h μ' h'){o:Obj}(ha:a∉foot μ)(ho:h.get? a=some o):a∉foot μ':=fun q=>(E.new a q).elim ha fun z=>ao (z.symm.trans ho)
mutual
theorem VR.kp(E:Kp μ h μ' h'):∀(x:V) {v:Value},VR μ h x v→VR μ' h' x v
 | .none,_,r=>r
 | .bool b,_,r=>r
 | .int i,_,r=>r
 | .str s,_,r=>r
 | .tup l,_,⟨e,nf,⟨ho⟩,z,r⟩=>⟨e,E.nf nf ho,⟨E.seq _ _ _ _ ho rfl nf⟩,z,aM.kp E l r⟩
 | .lst l,_,⟨e,nf,⟨ho⟩,z,r⟩=>⟨e,E.nf nf ho,⟨E.seq _ _ _ _ ho rfl nf⟩,z,aM.kp E l r⟩
 | .obj i,_,⟨⟨hp,e⟩⟩=>⟨⟨jY E.pre hp,e⟩⟩
theorem aM.kp(E:Kp μ h μ' h'):∀(l:List V) {vs:List Value},aM μ h l vs→aM μ' h' l vs
 | [],_,r=>r
 |x::l,_,⟨e,p,q⟩=>⟨e,VR.kp E x p,aM.kp E l q⟩
end
theorem VR.ext(E:bf X μ h μ' h')(hX:hG X h)(x:V){v:Value}(r:VR μ h x v):VR μ' h' x v:=VR.kp (E.kp hX) x r
theorem aM.ext(E:bf X μ h μ' h')(hX:hG X h)(l:List V){vs:List Value}(r:aM μ h l vs):aM μ' h' l vs:=aM.kp (E.kp hX) l r
end
noncomputable def aS(s:Str):Nat:=s.cps.toList.foldl (fun n c=>n*256+c) 1
inductive PR(μ:Mu)(h:Heap):List (Atom×V)→List (Atom×Value)→Prop
 |nil:PR μ h [] []
 |cons {k:Atom} {x:V} {v:Value} {r:List (Atom×V)} {r':List (Atom×Value)}:VR μ h x v→PR μ h r r'→PR μ h ((k,x)::r) ((k,v)::r')
inductive TR(μ:Mu)(h:Heap):List (List Atom×V)→List (List Atom×Addr×Value)→Prop
 |nil:TR μ h [] []
 |cons {k:List Atom} {x:V} {a:Addr} {v:Value} {r:List (List Atom×V)} {r':List (List Atom×Addr×Value)}:VR μ h x v→VR μ h (.tup (k.map cG)) (.ref a)→TR μ h r r'→TR μ h ((k,x)::r) ((k,a,v)::r')
noncomputable def dJ(s:Str):Prop:=∀c∈s.cps.toList,c<256∧c≠46
inductive FR(P:Params)(μ:Mu)(h:Heap):List (Nat×V)→List DictEntry→Prop
 |nil:FR P μ h [] []
 |cons {nm:Str} {t:Tok} {x:V} {v:Value} {r:List (Nat×V)} {r':List DictEntry}:dJ nm→VR μ h x v→FR P μ h r r'→
   FR P μ h ((aS nm,x)::r) (⟨PyData.keyHash P nm,.str nm t,v⟩::r')
section
variable(W:Wd)(μ:Mu)(h:Heap)(p:Addr×Option Addr)
inductive BW(l:List V):Prop
 |mk {items:List Value} (e:p.2=none) (z:l.length≤aJ) (x:XL h p.1 items) (r:aM μ h l items):BW l
inductive Az(kvs:List (Atom×V)):Prop
 |mk {cv:List (Atom×Value)} (e:p.2=none) (d:h.DictOf (cE W.prog W.w) p.1 cv) (r:PR μ h kvs cv):Az kvs
inductive Bp(kvs:List (List Atom×V)):Prop
 |mk {cv:List (List Atom×Addr×Value)} (e:p.2=none) (d:h.DictOfH (tupleKind (cE W.prog W.w)) p.1 cv) (r:TR μ h kvs cv):Bp kvs
inductive Bm(q:List Int):Prop
 |mk (e:p.2=none) (d:h.SetOf (intKind W.prog W.w) p.1 (fun k=>q.contains k) q.length) (n:q.Nodup):Bm q
inductive A9(c:Nat)(fl:List (Nat×V)):Prop
 |mk {cA d:Addr} {ox:Obj} {es:List DictEntry} {n:Nat} (e:p.2=some d) (hc:W.cls c=some cA) (hd:ox.dict=some d) (i:PySem.W.InstAt h p.1 ox cA (some (dictOf es n))) (f:FR W.w.params μ h fl es) (nd:(fl.map (·.1)).Nodup):A9 c fl
noncomputable def CR:Cell→Prop
 | .lst l=>BW μ h p l
 | .dict kvs _=>Az W μ h p kvs
 | .aY kvs _=>Bp W μ h p kvs
 | .set q=>Bm W h p q
 | .inst c fl=>A9 W μ h p c fl
inductive tI(i:Nat)(c:Cell):Prop
 |mk {p:Addr×Option Addr} (hp:μ.l[i]?=some p) (r:CR W μ h p c) (st:∀k,stampOf c=some k→μ.st i=k)
end
structure aW(W:Wd)(μ:Mu)(H:AH)(h:Heap):Prop where
 base:∀b o,W.h₀.get? b=some o→h.get? b=some o
 fresh:∀a∈foot μ,W.h₀.get? a=none
 apart:(foot μ).Nodup
 iA:∀a∈μ.g,∃o,h.get? a=some o
 len:μ.l.length=H.length
 cS:∀{i:Nat} {c:Cell},H[i]?=some c→tI W μ h i c
section
variable{X:Addr→Prop}{W:Wd}{μ μ':Mu}{h h':Heap}
theorem PR.kp(E:Kp μ h μ' h'){l:List (Atom×V)}{r:List (Atom×Value)}(x:PR μ h l r):PR μ' h' l r:=by
 induction x with
 |nil=>exact .nil
 |cons a _ ih=>exact .cons (VR.kp E _ a) ih
theorem FR.kp{P:Params}(E:Kp μ h μ' h'){l:List (Nat×V)}{r:List DictEntry}(x:FR P μ h l r):FR P μ' h' l r:=by
 induction x with
 |nil=>exact .nil
 |cons o a _ ih=>exact .cons o (VR.kp E _ a) ih
theorem XE{l:List V}{a:Addr}(x:VR μ h (.tup l) (.ref a)):a∉foot μ:=let ⟨e,nf,_,_,_⟩:=x;Value.ref.inj e▸nf
theorem IsTupleKey.kp{prog:Program}{w:World}(E:Kp μ h μ' h'){a:Addr}{k:List Atom}(ha:a∉foot μ)(x:IsTupleKey (cE prog w) h k a):IsTupleKey (cE prog w) h' k a:=by
 obtain⟨o,items,n,ho,hc,hd,hi⟩:=x;exact⟨o,items,n,E.seq a o _ _ ho hd ha,hc,hd,hi⟩
theorem TR.kp(E:Kp μ h μ' h'){l:List (List Atom×V)}{r:List (List Atom×Addr×Value)}(x:TR μ h l r)(hk:∀y∈r,IsTupleKey (cE W.prog W.w) h y.1 y.2.1):TR μ' h' l r:=by
 induction x with
 |nil=>exact .nil
 |cons hv ha _ ih=>exact .cons (VR.kp E _ hv) (VR.kp E _ ha) (ih fun y q=>hk y (.tail _ q))
theorem TR.keys(E:Kp μ h μ' h'){l:List (List Atom×V)}{r:List (List Atom×Addr×Value)}(x:TR μ h l r)(hk:∀y∈r,IsTupleKey (cE W.prog W.w) h y.1 y.2.1):∀y∈r,IsTupleKey (cE W.prog W.w) h' y.1 y.2.1:=by
 induction x with
 |nil=>exact fun _ q=>nomatch q
 |cons hv ha _ ih=>exact fun y q=>(a8.mp q).elim (fun e=>e▸IsTupleKey.kp E (XE ha) (hk _ (.head _))) (ih (fun y q=>hk y (.tail _ q)) y)
inductive kf(h:Heap)(a:Addr)(T:String):Prop
 |mk {o:Obj} (ho:h.get? a=some o) (c:o.cls=.type T) (d:o.dict=none)
section
variable{K:Type}[DecidableEq K]{prog:Program}{w:World}{kd:KeyKind prog w K}{a:Addr}
theorem Kq{cv:List (K×Value)}(d:h.DictOf kd a cv)(k:∀o,h.get? a=some o→h'.get? a=some o):h'.DictOf kd a cv:=by
 obtain⟨o,es,ep,ho,r⟩:=d;exact⟨o,es,ep,k o ho,r⟩
theorem rP{cv:List (K×Value)}(d:h.DictOf kd a cv):kf h a "dict":=by obtain⟨o,_,_,ho,x,_⟩:=d;exact⟨ho,x.1,x.2.1⟩
theorem Va{q:K→Bool}{n:Nat}(d:h.SetOf kd a q n)(k:∀o,h.get? a=some o→h'.get? a=some o):h'.SetOf kd a q n:=by
 obtain⟨o,es,ep,t,ho,r⟩:=d;exact⟨o,es,ep,t,k o ho,r⟩
theorem sT{q:K→Bool}{n:Nat}(d:h.SetOf kd a q n):kf h a "set":=by obtain⟨o,_,_,_,ho,x,_⟩:=d;exact⟨ho,x.1,x.2.1⟩
theorem sr{cs:List (List Atom×Addr×Value)}(d:h.DictOfH (tupleKind (cE W.prog W.w)) a cs):kf h a "dict":=by obtain⟨o,_,_,ho,x,_⟩:=d;exact⟨ho,x.1,x.2.1⟩
theorem Aa{cs:List (List Atom×Addr×Value)}(d:h.DictOfH (tupleKind (cE W.prog W.w)) a cs):∀y∈cs,IsTupleKey (cE W.prog W.w) h y.1 y.2.1:=by obtain⟨_,_,_,_,_,_,_,r4,_⟩:=d;exact r4
theorem WN{cs:List (List Atom×Addr×Value)}(d:h.DictOfH (tupleKind (cE W.prog W.w)) a cs)(k:∀o,h.get? a=some o→h'.get? a=some o)(r:∀y∈cs,IsTupleKey (cE W.prog W.w) h' y.1 y.2.1):h'.DictOfH (tupleKind (cE W.prog W.w)) a cs:=by
 obtain⟨o,es,ep,ho,r1,r2,r3,_,r5⟩:=d;exact⟨o,es,ep,k o ho,r1,r2,r3,r,r5⟩
end
theorem uZ{p d:Addr}{ox:Obj}{cA:Addr}{es:List DictEntry}{n:Nat}(I:PySem.W.InstAt h p ox cA (some (dictOf es n)))(hd:ox.dict=some d):h.get? d=some (dictOf es n):=by
 have:=I.dict;rw[hd] at this;exact this
theorem N3{p d:Addr}{ox:Obj}{cA:Addr}{es:List DictEntry}{n:Nat}(I:PySem.W.InstAt h p ox cA (some (dictOf es n)))(hd:ox.dict=some d)(k1:∀o,h.get? p=some o→h'.get? p=some o)(k2:∀o,h.get? d=some o→h'.get? d=some o):PySem.W.InstAt h' p ox cA (some (dictOf es n)):=
 ⟨k1 _ I.at_,I.cls,I.no,by rw[hd];exact k2 _ (uZ I hd)⟩
theorem JS{p:Addr×Option Addr}{d:Addr}(e:p.2=some d):d∈adr p:=by unfold adr;rw[e];exact .tail _ (.head _)
theorem CR.kp(E:Kp μ h μ' h'){p:Addr×Option Addr}(hk:∀a∈adr p,∀o,h.get? a=some o→h'.get? a=some o){c:Cell}(r:CR W μ h p c):CR W μ' h' p c:=by
 cases c with
 |lst l=>cases r with|mk q z x hv=>exact⟨q,z,x.at (hk _ (.head _)),aM.kp E l hv⟩
 |dict kvs _=>cases r with|mk q d r=>exact⟨q,Kq d (hk _ (.head _)),r.kp E⟩
 |aY kvs _=>cases r with|mk q d r=>exact⟨q,WN d (hk _ (.head _)) (TR.keys E r (Aa d)),TR.kp E r (Aa d)⟩
 |set s=>cases r with|mk q d n=>exact⟨q,Va d (hk _ (.head _)),n⟩
 |inst c fl=>cases r with|mk q hc hd I hf hn=>exact⟨q,hc,hd,N3 I hd (hk _ (.head _)) (hk _ (JS q)),hf.kp E,hn⟩
end
theorem GZ{β:Type}{f:β→List Addr}:∀{l:List β},(l.flatMap f).Nodup→∀{i j:Nat} {p q:β},l[i]?=some p→l[j]?=some q→∀a,a∈f p→a∈f q→i=j
 | [],_,_,_,_,_,hi,_,_,_,_=>ao hi
 |m::l,hn,i,j,p,q,hi,hj,a,h1,h2=>by
  rw[List.flatMap_cons,eZ] at hn
  cases i with
  |zero=>
   cases j with
   |zero=>rfl
   |succ j=>exact absurd rfl (hn.2.2 a (av hi▸h1) a (kY.mpr ⟨q,dj hj,h2⟩))
  |succ i=>
   cases j with
   |zero=>exact absurd rfl (hn.2.2 a (av hj▸h2) a (kY.mpr ⟨p,dj hi,h1⟩))
   |succ j=>exact aE _ (GZ hn.2.1 hi hj a h1 h2)
theorem Dg{μ:Mu}(hn:(foot μ).Nodup){i j:Nat}{p q:Addr×Option Addr}(hi:μ.l[i]?=some p)(hj:μ.l[j]?=some q)(a:Addr)(h1:a∈adr p)(h2:a∈adr q):i=j:=
 GZ (eZ.mp hn).2.1 hi hj a h1 h2
section
variable{W:Wd}{μ μ':Mu}{H:AH}{h h':Heap}
theorem tI.kp{i:Nat}{c:Cell}(x:tI W μ h i c)(E:Kp μ h μ' h')(hk:∀p,μ.l[i]?=some p→∀a∈adr p,∀o,h.get? a=some o→h'.get? a=some o)(hs:μ'.st i=μ.st i):tI W μ' h' i c:=
 let ⟨hp,r,st⟩:=x;⟨jY E.pre hp,r.kp E (hk _ hp),fun k e=>hs.trans (st k e)⟩
theorem aW.to(N:aW W μ H h)(kp:Kp μ h μ h')(hf:∀a o,a∈foot μ→h.get? a=some o→h'.get? a=some o)(hb:∀b o,W.h₀.get? b=some o→h.get? b=some o→h'.get? b=some o):aW W μ H h':=
 ⟨fun b o e=>hb b o e (N.base b o e),N.fresh,N.apart,fun a m=>(let ⟨o,e⟩:=N.iA a m;⟨o,hf a o (gX _ m) e⟩),N.len,fun e=>(N.cS e).kp kp (fun p hp a ha o=>hf a o (uP hp ha)) rfl⟩
theorem aW.nL(N:aW W μ H h){I:Addr}(hI:h.get? I=none):W.h₀.get? I=none:=by
 cases q:W.h₀.get? I with
 |none=>rfl
 |some o=>exact ao (hI.symm.trans (N.base I o q))
theorem vF{P:Addr→Prop}{p:Addr×Option Addr}(e:p.2=none)(x:P p.1):∀a∈adr p,P a:=fun a m=>by
 unfold adr at m;rw[e] at m;exact(a6.mp m)▸x
theorem IV{P:Addr→Prop}{p:Addr×Option Addr}{d:Addr}(e:p.2=some d)(x:P p.1)(y:P d):∀a∈adr p,P a:=fun a m=>by
 unfold adr at m;rw[e] at m;exact(a8.mp m).elim (fun m=>m▸x) fun m=>(a6.mp m)▸y
theorem kf.some{a:Addr}{T:String}(x:kf h a T):∃o,h.get? a=some o:=by cases x with|mk ho _ _=>exact⟨_,ho⟩
theorem CR.alive{p:Addr×Option Addr}{c:Cell}(r:CR W μ h p c):∀a∈adr p,∃o,h.get? a=some o:=by
 cases c with
 |lst l=>cases r with|mk e _ x _=>exact vF e x.some
 |dict l st=>cases r with|mk e d _=>exact vF e (rP d).some
 |aY l st=>cases r with|mk e d _=>exact vF e (sr d).some
 |set l=>cases r with|mk e d _=>exact vF e (sT d).some
 |inst c fl=>cases r with|mk e hc hd I _ _=>exact IV e ⟨_,I.at_⟩ ⟨_,uZ I hd⟩
theorem aW.alive(N:aW W μ H h):∀a∈foot μ,∃o,h.get? a=some o:=fun a ha=>
 (b6.mp ha).elim (N.iA a) fun ha=>by
  obtain⟨q,hq,ha⟩:=kY.mp ha;obtain⟨i,hi⟩:=iR.mp hq;obtain⟨hp,r,_⟩:=N.cS (bh (N.len▸(dE.mp hi).1));exact r.alive a (av (hi.symm.trans hp)▸ha)
theorem aW.out(N:aW W μ H h){a:Addr}(ha:h.get? a=none):a∉foot μ:=fun m=>let ⟨_,e⟩:=N.alive a m;ao (ha.symm.trans e)
theorem l8(k:∀b o,h.get? b=some o→h'.get? b=some o):Ext μ h μ h':=⟨lY _,rfl,fun _ m=>.inl m,fun b o e _ _=>k b o e,fun b o e=>⟨⟨k b o e,fun _=>⟨rfl,rfl⟩⟩⟩,fun _ _ _=>⟨ai _,fun _ o e=>k _ o e⟩,fun _ _ o e=>k _ o e⟩
theorem aW.grow(N:aW W μ H h)(k:∀b o,h.get? b=some o→h'.get? b=some o):aW W μ H h':=N.to ((l8 k).kp .none) (fun _ o _ e=>k _ o e) (fun _ o _ e=>k _ o e)
theorem uN(k:∀b o,h.get? b=some o→h'.get? b=some o){p:Addr×Option Addr}(hn:∀a∈adr p,h.get? a=none):Ext μ h (μ.push p) h':=
 ⟨oe _ _,rfl,fun a m=>(xl m).imp id (hn a),fun b o e _ _=>k b o e,fun b o e=>⟨⟨k b o e,fun _=>⟨rfl,rfl⟩⟩⟩,fun i q hq=>
  have e:(μ.push p).st i=μ.st i:=aD (eB (dE.mp hq).1)
  ⟨bS e.symm,fun _ o e=>k _ o e⟩,fun _ _ o e=>k _ o e⟩
theorem aW.push(N:aW W μ H h)(k:∀b o,h.get? b=some o→h'.get? b=some o){p:Addr×Option Addr}{c:Cell}(hn:∀a∈adr p,h.get? a=none)(hd:(adr p).Nodup)(hc:CR W (μ.push p) h' p c)(hst:∀st,stampOf c=some st→0=st):aW W (μ.push p) (H++[c]) h' where
 base:=fun b o e=>k b o (N.base b o e)
 fresh:=fun a m=>(xl m).elim (N.fresh a) fun m=>N.nL (hn a m)
 apart:=xm μ p▸eZ.mpr ⟨N.apart,hd,fun a ha b hb e=>by obtain⟨o,ho⟩:=N.alive a ha;exact ao ((hn a (e▸hb)).symm.trans ho)⟩
 iA:=fun a m=>let ⟨o,e⟩:=N.iA a m;⟨o,k a o e⟩
 len:=by show(μ.l++[p]).length=_;rw[a5,a5,N.len];rfl
 cS:=fun{i c'} e=>by
  rcases CJ e with e|⟨hi,e⟩
  ·exact(N.cS e).kp ((uN k hn).kp .none) (fun p hp a ha o=>k a o) (aD (eB (N.len▸(dE.mp e).1)))
  ·rw[hi,←e];exact⟨by rw[←N.len];exact uo _ _,hc,fun st q=>(aG N.len.symm).trans (hst st q)⟩
theorem LV(N:aW W μ H h){i:Nat}{p:Addr×Option Addr}(hp:μ.l[i]?=some p){b:Addr}(hbp:b∈adr p)(hs:∀a o,a≠b→h.get? a=some o→h'.get? a=some o){o o':Obj}(ho:h.get? b=some o)(ho':h'.get? b=some o')(h1:o'.cls=o.cls)(h2:o'.dict=o.dict):Ext μ h (μ.bump i) h' where
 pre:=lY _
 gs:=rfl
 new:=fun _ m=>.inl m
 keep:=fun x o e n _=>hs x o (fun q=>n (q▸uP hp hbp)) e
 live:=fun x o₁ e=>(ml (x=b)).elim (fun q=>⟨⟨q▸ho',fun _=>av (ho.symm.trans (q▸e))▸⟨h1,h2⟩⟩⟩) fun q=>⟨⟨hs x o₁ q e,fun _=>⟨rfl,rfl⟩⟩⟩
 eT:=fun j q hq=>by
  show μ.st j≤(if j=i then μ.st j+1 else μ.st j)∧((if j=i then μ.st j+1 else μ.st j)=μ.st j→_)
  split
  ·exact⟨cB _,fun z=>absurd z (Nat.succ_ne_self _)⟩
  ·rename_i hj;exact⟨ai _,fun _ o e=>hs _ o (fun z=>hj (Dg N.apart hp hq b hbp (z▸m6)).symm) e⟩
 gk:=fun a m o e=>hs a o (fun q=>(eZ.mp N.apart).2.2 a m b (kY.mpr ⟨p,dj hp,hbp⟩) q) e
theorem aW.set(N:aW W μ H h){i:Nat}{p:Addr×Option Addr}(hp:μ.l[i]?=some p){b:Addr}(hbp:b∈adr p)(hs:∀a o,a≠b→h.get? a=some o→h'.get? a=some o)(E:Ext μ h (μ.bump i) h'){c:Cell}
  (hc:CR W (μ.bump i) h' p c) (hst:∀st,stampOf c=some st→μ.st i+1=st):aW W (μ.bump i) (H.set i c) h' where
 base:=fun x o e=>hs x o (fun q=>ao ((N.fresh _ (uP hp hbp)).symm.trans (q▸e))) (N.base x o e)
 fresh:=N.fresh
 apart:=N.apart
 iA:=fun a m=>let ⟨o,e⟩:=N.iA a m;⟨o,E.gk a m o e⟩
 len:=by rw[List.length_set];exact N.len
 cS:=fun{j c'} e=>by
  rcases VZ e with ⟨hij,e⟩|⟨hij,e⟩
  ·exact(N.cS e).kp (E.kp .none) (fun q hq a ha o=>hs a o fun z=>hij (Dg N.apart hp hq b hbp (z▸ha))) (aD (jJ hij))
  ·rw[←hij,←e];exact⟨hp,hc,fun st q=>(aG rfl).trans (hst st q)⟩
end
set_option genInjectivity false
noncomputable abbrev F0:Value→Shared→Prop:=fun _ _=>False
noncomputable abbrev Wp(W:Wd)(A:Around){α:Type}(m:Sem α)(R:α→Shared→Prop)(s:Shared):Prop:=wpAny (model W.prog W.w) A m R F0 s
structure jO(W:Wd):Prop where
 yp:W.K.In W.h₀
 g:W.h₀.Ns mainGlobals W.mg
 b:W.h₀.Ns builtinsNs W.mb
 lim:W.h₀.NoLimit
 H6:W.h₀.get? sysModules≠none
 blt:∀x:Str,x≠"__name__"→W.mb x=bootBuiltins x
 xB:∀c cA,W.cls c=some cA→hasDictIn W.K cA=true
 cover:∀c cA,W.cls c=some cA→plainOver W.K cA=true
 C6:∀c cA,W.cls c=some cA→findIn W.K (.ref cA) "__setattr__"=some (some (.builtin "object.__setattr__"))
 xE:∀c cA (nm:Str),W.cls c=some cA→plainGet W.K cA nm=true
 Cr:∀c cA,W.cls c=some cA→makesIn W.K cA=true
 xA:∀c cA nm,W.cls c=some cA→nm∈W.attrs→fU c (aS nm)=false→findIn W.K (.ref cA) nm=some none
 tg:∀nm∈W.attrs,dJ nm
 int:∀x i,W.jt x=some i→∃t,W.mg x=some (.int i t)
 fn:∀x f,W.js x=some f→∃a,W.k6 f=some a∧W.mg x=some (.ref a)
 xk:∀f a,W.k6 f=some a→keepIn W.K (.ref a)=true
 Cf:∀x c,W.jr x=some c→∃cA,W.cls c=some cA∧W.mg x=some (.ref cA)∧keepIn W.K (.ref cA)=true
 free:∀x∈W.eK,W.mg x=none∧x≠"__name__"
 nj:∀c nm f cA,W.cls c=some cA→nm∈W.jU→W.T.nj c (aS nm)=some f→∃a,W.k6 f=some a∧findIn W.K (.ref cA) nm=some (some (.ref a))∧isFn W.K (.ref a)=true
 GH:∀nm∈W.jU,dJ nm
 init:∀c f cA,W.cls c=some cA→W.T.init c=some f→∃a,W.k6 f=some a∧findIn W.K (.ref cA) "__init__"=some (some (.ref a))∧isFn W.K (.ref a)=true
structure Rm(A:Around)(n:Nat):Prop where
 u:A.units+20*n+1300<cLine
 d:A.depth+3*n+2<recursionLimit
 hd:A.handled=none
structure Ok(W:Wd)(n:Nat)(A:Around)(μ:Mu)(H:AH)(s:Shared):Prop where
 wk:jO W
 rm:Rm A n
 N:aW W μ H s.heap
structure bO(W:Wd)(μ:Mu)(s:Shared)(H':AH)(μ':Mu)(s':Shared):Prop where
 g:s'.gens=s.gens
 o:s'.os=s.os
 E:Ext μ s.heap μ' s'.heap
 N:aW W μ' H' s'.heap
noncomputable def Kc(W:Wd)(μ:Mu)(s:Shared)(H':AH)(v:V)(R:Value→Shared→Prop):Prop:=∀{cv:Value} {s':Shared} {μ':Mu},bO W μ s H' μ' s'→VR μ' s'.heap v cv→R cv s'
noncomputable def Ku(W:Wd)(μ:Mu)(s:Shared)(H':AH)(R:Unit→Shared→Prop):Prop:=∀{s':Shared} {μ':Mu},bO W μ s H' μ' s'→R () s'
theorem AM:aJ≤sizeLine:=by decide
theorem eS{n:Nat}(h:n≤aJ):n≤sizeLine:=aA h AM
theorem lO{n:Nat}(h:n≤aJ):(n:Int)<2 ^ 63:=v7 (kW.mpr h) (by decide)
section
variable{W:Wd}{n:Nat}{A:Around}{μ μ' μ'':Mu}{H H' H'':AH}{s s' s'':Shared}{h':Heap}{v:V}{cv:Value}{R:Value→Shared→Prop}{i:Nat}{l l':List V}{tk:Nat}{a:Addr}{items items':List Value}
theorem Rm.lt(r:Rm A n):A.units<cLine:=bb (aA (aT _ _) (aT _ _)) r.u
theorem bO.of(N:aW W μ' H' h')(E:Ext μ s.heap μ' h'):bO W μ s H' μ' {s with heap:=h',toks:=tk}:=⟨rfl,rfl,E,N⟩
theorem bO.refl(N:aW W μ H s.heap):bO W μ s H μ {s with toks:=tk}:=⟨rfl,rfl,.refl,N⟩
theorem bO.grow(N:aW W μ H s.heap)(k:∀b o,s.heap.get? b=some o→h'.get? b=some o):bO W μ s H μ {s with heap:=h',toks:=tk}:=.of (N.grow k) (l8 k)
theorem bO.trans(x:bO W μ s H μ' s')(y:bO W μ' s' H' μ'' s''):bO W μ s H' μ'' s'':=⟨y.g.trans x.g,y.o.trans x.o,x.E.trans y.E,y.N⟩
theorem bO.up(x:bO W μ s H μ' s')(r:VR μ s.heap v cv):VR μ' s'.heap v cv:=VR.ext x.E .none v r
theorem bO.ups(x:bO W μ s H μ' s')(r:aM μ s.heap l items):aM μ' s'.heap l items:=aM.ext x.E .none l r
theorem Kc.here(k:Kc W μ s H v R)(N:aW W μ H s.heap)(r:VR μ s.heap v cv):R cv {s with toks:=tk}:=k (bO.refl N) r
inductive LR(l:List V)(H:AH):V→AH→Prop
 |val:LR l H (.lst l) H
 |cell:LR l H (.obj H.length) (H++[.lst l])
theorem Hp(a:Addr):(adr (a,none)).Nodup:=ba.mpr ⟨dM,dF⟩
theorem AK{h:Heap}(hn:h.get? a=none):∀b∈adr (a,none),h.get? b=none:=fun b m=>(a6.mp m)▸hn
theorem HG(N:aW W μ H s.heap)(p:Addr×Option Addr):(μ.push p).l[H.length]?=some p:=by rw[←N.len];exact uo _ _
theorem ux(N:aW W μ H s.heap){c:Cell}(k:∀b o,s.heap.get? b=some o→h'.get? b=some o)(hn:s.heap.get? a=none)(hc:CR W (μ.push (a,none)) h' (a,none) c)(hst:∀st,stampOf c=some st→0=st)(K:Kc W μ s (H++[c]) (.obj H.length) R):R (.ref a) {s with heap:=h',toks:=tk}:=
 K (.of (N.push k (AK hn) (Hp a) hc hst) (uN k (AK hn))) (.sL (HG N (a,none)))
theorem lD(q:LR l H v H')(N:aW W μ H s.heap)(hl:aM μ s.heap l items)(z:l.length≤aJ)(k:∀b o,s.heap.get? b=some o→h'.get? b=some o)(hn:s.heap.get? a=none)(ho:XL h' a items)(K:Kc W μ s H' v R):R (.ref a) {s with heap:=h',toks:=tk}:=by
 cases q with
 |val=>exact K (.grow N k) ⟨rfl,N.out hn,ho,z,aM.ext (l8 k) .none l hl⟩
 |cell=>exact ux (c:=.lst l) N k hn ⟨rfl,z,ho,aM.ext (uN k (AK hn)) .none l hl⟩ (fun _ e=>ao e) K
theorem zJ(N:aW W μ H s.heap)(hl:aM μ s.heap l items)(z:l.length≤aJ)(k:∀b o,s.heap.get? b=some o→h'.get? b=some o)(hn:s.heap.get? a=none)(ho:XT h' a items)(K:Kc W μ s H (.tup l) R):R (.ref a) {s with heap:=h',toks:=tk}:=
 K (.grow N k) ⟨rfl,N.out hn,ho,z,aM.ext (l8 k) .none l hl⟩
theorem none_of{p:Addr×Option Addr}(e:p.2=none):p=(p.1,none):=gZ rfl e
theorem gq(N:aW W μ H s.heap)(hc:H[i]?=some (.lst l))(hv:VR μ s.heap (.obj i) cv){P:Value→Prop}(k:∀a items,μ.l[i]?=some (a,none)→XL s.heap a items→aM μ s.heap l items→l.length≤aJ→P (.ref a)):P cv:=
 hv.oK fun p hp=>let ⟨hp',⟨e,z,x,r⟩,_⟩:=N.cS hc;n9 hp' hp (P:=fun p=>P (.ref p.1)) (k _ _ (none_of e▸hp') x r z)
theorem jQ{kvs:List (Atom×V)}{st:Nat}(N:aW W μ H s.heap)(hc:H[i]?=some (.dict kvs st))(hv:VR μ s.heap (.obj i) cv){P:Value→Prop}(k:∀a cs,μ.l[i]?=some (a,none)→s.heap.DictOf (cE W.prog W.w) a cs→PR μ s.heap kvs cs→P (.ref a)):P cv:=
 hv.oK fun p hp=>let ⟨hp',⟨e,d,r⟩,_⟩:=N.cS hc;n9 hp' hp (P:=fun p=>P (.ref p.1)) (k _ _ (none_of e▸hp') d r)
theorem oF{kvs:List (List Atom×V)}{st:Nat}(N:aW W μ H s.heap)(hc:H[i]?=some (.aY kvs st))(hv:VR μ s.heap (.obj i) cv){P:Value→Prop}(k:∀a cs,μ.l[i]?=some (a,none)→s.heap.DictOfH (tupleKind (cE W.prog W.w)) a cs→TR μ s.heap kvs cs→P (.ref a)):P cv:=
 hv.oK fun p hp=>let ⟨hp',⟨e,d,r⟩,_⟩:=N.cS hc;n9 hp' hp (P:=fun p=>P (.ref p.1)) (k _ _ (none_of e▸hp') d r)
theorem qA{q:List Int}(N:aW W μ H s.heap)(hc:H[i]?=some (.set q))(hv:VR μ s.heap (.obj i) cv){P:Value→Prop}(k:∀a,μ.l[i]?=some (a,none)→s.heap.SetOf (intKind W.prog W.w) a (fun k=>q.contains k) q.length→q.Nodup→P (.ref a)):P cv:=
 hv.oK fun p hp=>let ⟨hp',⟨e,d,r⟩,_⟩:=N.cS hc;n9 hp' hp (P:=fun p=>P (.ref p.1)) (k _ (none_of e▸hp') d r)
theorem turn(N:aW W μ H s.heap){p:Addr×Option Addr}(hp:μ.l[i]?=some p){b:Addr}(hb:b∈adr p)(hs:∀x o,x≠b→s.heap.get? x=some o→h'.get? x=some o){o o':Obj}(ho:s.heap.get? b=some o)(ho':h'.get? b=some o')(h1:o'.cls=o.cls)(h2:o'.dict=o.dict){c:Cell}
  (hc:Ext μ s.heap (μ.bump i) h'→CR W (μ.bump i) h' p c) (hst:∀st,stampOf c=some st→μ.st i+1=st):bO W μ s (H.set i c) (μ.bump i) {s with heap:=h',toks:=tk}:=
 have E:=LV N hp hb hs ho ho' h1 h2;.of (N.set hp hb hs E (hc E) hst) E
theorem lK{h h':Heap}{b:Addr}(hs:Heap.SameBut b h h'):∀x o,x≠b→h.get? x=some o→h'.get? x=some o:=fun x _ n e=>(hs.2 x n).trans e
theorem Ae{T:String}(N:aW W μ H s.heap)(hp:μ.l[i]?=some (a,none))(hs:Heap.SameBut a s.heap h')(x:kf s.heap a T)(x':kf h' a T){c:Cell}(hc:Ext μ s.heap (μ.bump i) h'→CR W (μ.bump i) h' (a,none) c)(hst:∀st,stampOf c=some st→μ.st i+1=st):
  bO W μ s (H.set i c) (μ.bump i) {s with heap:=h',toks:=tk}:=by
 cases x with|mk ho c1 d1=>cases x' with|mk ho' c2 d2=>exact turn N hp (.head _) (lK hs) ho ho' (c2.trans c1.symm) (d2.trans d1.symm) hc hst
theorem qI(N:aW W μ H s.heap)(hp:μ.l[i]?=some (a,none))(hx:XL s.heap a items)(hs:∀x o,x≠a→s.heap.get? x=some o→h'.get? x=some o)(hx':XL h' a items')(hr:aM μ s.heap l' items')(z:l'.length≤aJ):bO W μ s (H.set i (.lst l')) (μ.bump i) {s with heap:=h',toks:=tk}:=
 let ⟨ho⟩:=hx;let ⟨ho'⟩:=hx';turn N hp (.head _) hs ho ho' rfl rfl (fun E=>⟨rfl,z,⟨ho'⟩,aM.ext E .none l' hr⟩) fun _ e=>ao e
theorem Hv{c c':Cell}{k:Nat}(N:aW W μ H s.heap)(hc:H[i]?=some c)(h1:stampOf c=some k)(h2:stampOf c'=some (k+1)):∀st,stampOf c'=some st→μ.st i+1=st:=fun st e=>
 let ⟨_,_,q⟩:=N.cS hc;(aE (·+1) (q k h1)).trans (av (h2.symm.trans e))
theorem IQ{cs:List (Atom×Value)}{kvs:List (Atom×V)}{cs₁:List (Atom×Value)}{c:Cell}{st:Nat}(N:aW W μ H s.heap)(hc:H[i]?=some c)(hst:stampOf c=some st)(hp:μ.l[i]?=some (a,none))(hd:s.heap.DictOf (cE W.prog W.w) a cs)(hs:Heap.SameBut a s.heap h')(hd':h'.DictOf (cE W.prog W.w) a cs₁)(hr:PR μ s.heap kvs cs₁):
  bO W μ s (H.set i (.dict kvs (st+1))) (μ.bump i) {s with heap:=h',toks:=tk}:=
 Ae N hp hs (rP hd) (rP hd') (fun E=>⟨rfl,hd',hr.kp (E.kp .none)⟩) (Hv N hc hst rfl)
theorem IT{q q':List Int}(N:aW W μ H s.heap)(hp:μ.l[i]?=some (a,none))(hd:s.heap.SetOf (intKind W.prog W.w) a (fun k=>q.contains k) q.length)(hs:Heap.SameBut a s.heap h')(hd':h'.SetOf (intKind W.prog W.w) a (fun k=>q'.contains k) q'.length)(hn:q'.Nodup):
  bO W μ s (H.set i (.set q')) (μ.bump i) {s with heap:=h',toks:=tk}:=
 Ae N hp hs (sT hd) (sT hd') (fun _=>⟨rfl,hd',hn⟩) fun _ e=>ao e
theorem XG{kvs:List (List Atom×V)}{cs cs':List (List Atom×Addr×Value)}{c:Cell}{st:Nat}(N:aW W μ H s.heap)(hc:H[i]?=some c)(hst:stampOf c=some st)(hp:μ.l[i]?=some (a,none))(hd:s.heap.DictOfH (tupleKind (cE W.prog W.w)) a cs)(hs:Heap.SameBut a s.heap h')(hd':h'.DictOfH (tupleKind (cE W.prog W.w)) a cs')(hr:Ext μ s.heap (μ.bump i) h'→TR (μ.bump i) h' kvs cs'):
  bO W μ s (H.set i (.aY kvs (st+1))) (μ.bump i) {s with heap:=h',toks:=tk}:=
 Ae N hp hs (sr hd) (sr hd') (fun E=>⟨rfl,hd',hr E⟩) (Hv N hc hst rfl)
end
section
variable(W:Wd)(u v x:V)(H H':AH)
noncomputable def P1(f:Value→Sem Value):Prop:=∀{n:Nat} {A:Around} {s:Shared} {μ:Mu} {cu:Value} {R:Value→Shared→Prop},Ok W n A μ H s→VR μ s.heap u cu→Kc W μ s H' v R→Wp W A (f cu) R s
noncomputable def P2(f:Value→Value→Sem Value):Prop:=∀{n:Nat} {A:Around} {s:Shared} {μ:Mu} {cu cx:Value} {R:Value→Shared→Prop},Ok W n A μ H s→VR μ s.heap u cu→VR μ s.heap x cx→Kc W μ s H' v R→Wp W A (f cu cx) R s
end
inductive cN(W:Wd)(A:Around)(s:Shared)(cu:Value)(g:Sem Value)(R:Value→Shared→Prop):Prop
 |mk {T id:String} (hT:s.TypeIs cu T) (hl:typeLookup (.type T) "__getitem__"=pure (some (.builtin id))) (w:Wp W A g R s)
noncomputable def dy(W:Wd)(u x:V)(H:AH)(v:V):Prop:=∀{n:Nat} {A:Around} {s:Shared} {μ:Mu} {cu cx:Value} {R:Value→Shared→Prop},Ok W n A μ H s→VR μ s.heap u cu→VR μ s.heap x cx→Kc W μ s H v R→cN W A s cu (getItem cu cx) R
noncomputable def gG(W:Wd)(u x v:V)(H H':AH):Prop:=∀{n:Nat} {A:Around} {s:Shared} {μ:Mu} {cu cx cv:Value} {R:Unit→Shared→Prop},Ok W n A μ H s→VR μ s.heap u cu→VR μ s.heap x cx→VR μ s.heap v cv→Ku W μ s H' R→Wp W A (setItem cu cx cv) R s
theorem Hh{k n:Nat}(h:k<n):seqIndex? (k:Int) n=some k:=by
 unfold seqIndex?;rw[aD (kU.mpr (eH k)),aG (by rw[de,l6,l6];exact⟨eH k,fu.mpr h⟩)]
 rfl
theorem GR:∀{n:Nat},1≤n→((-1:Int)+(n:Int)).toNat=n-1
 |n+1,_=>by rw[Int.natCast_add,Int.add_comm (n:Int),←Int.add_assoc];exact(aE Int.toNat (Int.zero_add _)).trans (qh n)
theorem jd{s:Shared}{a:Addr}{items:List Value}(x:XL s.heap a items):s.TypeIs (.ref a) "list":=let ⟨e⟩:=x;⟨_,e,rfl⟩
theorem IW{s:Shared}{a:Addr}{items:List Value}(x:XT s.heap a items):s.TypeIs (.ref a) "tuple":=let ⟨e⟩:=x;⟨_,e,rfl⟩
theorem nc{α:Type}{l:List α}{k:Nat}{x:α}(h:l[k]?=some x):k<l.length:=(dE.mp h).1
theorem ur{k n:Nat}(h:k<n)(z:n≤aJ):(k:Int)<2 ^ 63:=Int.lt_trans (fu.mpr h) (lO z)
theorem GS(k:Nat):-(2 ^ 63:Int)≤(k:Int):=jF (by decide) (eH k)
section
variable{W:Wd}{μ:Mu}{H:AH}{s:Shared}{A:Around}{h:Heap}
theorem Dz{a:Addr}{items:List Value}{k:Nat}{t:Tok}{x:Value}{R:Value→Shared→Prop}(hx:XL s.heap a items)(z:items.length≤aJ)(e:items[k]?=some x)(q:R x s):cN W A s (.ref a) (getItem (.ref a) (.int k t)) R:=
 ⟨jd hx,vR.lookup,wpAny_getItem_list hx.is (eH k) (ur (nc e) z) (by rw[qh,kX];exact e) q⟩
theorem NH{a:Addr}{items:List Value}{k:Nat}{t:Tok}{x:Value}{R:Value→Shared→Prop}(hx:XT s.heap a items)(z:items.length≤aJ)(e:items[k]?=some x)(q:R x s):cN W A s (.ref a) (getItem (.ref a) (.int k t)) R:=
 ⟨IW hx,wc.lookup,getItem_tuple hx.is (GS k) (ur (nc e) z) (Hh (by rw[bM];exact nc e)) (by rw[kX];exact e) q⟩
theorem NF{a:Addr}{items:List Value}{t:Tok}{x:Value}{R:Value→Shared→Prop}(hx:XL s.heap a items)(z:items.length≤aJ)(e:items.getLast?=some x)(q:R x s):cN W A s (.ref a) (getItem (.ref a) (.int (-1) t)) R:=by
 rw[tU] at e;have h1:1≤items.length:=Bh (bb (bW _) (nc e));refine⟨jd hx,vR.lookup,wpAny_getItem_list_neg hx.is (by decide) (Int.neg_le_neg (kW.mpr h1)) (by decide) ?_ q⟩
 rw[bM,GR h1,kX];exact e
theorem dy.tup{l:List V}{k:Nat}{v:V}(e:l[k]?=some v):dy W (.tup l) (.int k) H v:=fun{_ A s _ _ _ R} K hu hx c=>
 hx.bz (P:=fun cx=>cN W A s _ (getItem _ cx) R) fun _=>hu.fq (P:=fun cu=>cN W A s cu (getItem cu _) R) fun _ _ nf x z r=>let ⟨⟨e',hv⟩⟩:=r.get e;NH x (r.length▸z) e' (c.here K.N hv)
theorem dy.lst{l:List V}{k:Nat}{v:V}(e:l[k]?=some v):dy W (.lst l) (.int k) H v:=fun{_ A s _ _ _ R} K hu hx c=>
 hx.bz (P:=fun cx=>cN W A s _ (getItem _ cx) R) fun _=>hu.qK (P:=fun cu=>cN W A s cu (getItem cu _) R) fun _ _ nf x z r=>let ⟨⟨e',hv⟩⟩:=r.get e;Dz x (r.length▸z) e' (c.here K.N hv)
theorem dy.cell{i:Nat}{l:List V}{k:Nat}{v:V}(hc:H[i]?=some (.lst l))(e:l[k]?=some v):dy W (.obj i) (.int k) H v:=fun{_ A s _ _ _ R} K hu hx c=>
 hx.bz (P:=fun cx=>cN W A s _ (getItem _ cx) R) fun _=>gq K.N hc hu (P:=fun cu=>cN W A s cu (getItem cu _) R) fun _ _ _ x r z=>let ⟨⟨e',hv⟩⟩:=r.get e;Dz x (r.length▸z) e' (c.here K.N hv)
theorem dy.last{i:Nat}{l:List V}{v:V}(hc:H[i]?=some (.lst l))(e:l.getLast?=some v):dy W (.obj i) (.int (-1)) H v:=fun{_ A s _ _ _ R} K hu hx c=>
 hx.bz (P:=fun cx=>cN W A s _ (getItem _ cx) R) fun _=>gq K.N hc hu (P:=fun cu=>cN W A s cu (getItem cu _) R) fun _ _ _ x r z=>
  let ⟨⟨e',hv⟩⟩:=r.get (tU.symm.trans e)
  NF x (r.length▸z) (tU.trans (r.length▸e')) (c.here K.N hv)
theorem key_is{prog:Program}{w:World}{a:Atom}{ck:Value}(hv:VR μ h (cG a) ck):(cE prog w).is a ck=true:=by
 cases a
 ·exact hv.bz (P:=fun ck=>rG _ ck=true) fun _=>i9.int.is
 ·exact hv.fm (P:=fun ck=>rG _ ck=true) fun _=>i9.str.is
theorem EJ{prog:Program}{w:World}:∀{k:List Atom} {vs:List Value},aM μ h (k.map cG) vs→ItemsAre (cE prog w) k vs
 | [],_,hv=>hv.iP (P:=fun vs=>ItemsAre (cE prog w) [] vs) .nil
 |_::k,_,hv=>hv.d7 (P:=fun vs=>ItemsAre (cE prog w) (_::k) vs) fun _ _ h1 h2=>.cons (key_is h1) (EJ h2)
theorem s6{prog:Program}{w:World}{k:List Atom}{ck:Value}(hv:VR μ h (.tup (k.map cG)) ck){P:Value→Prop}(q:∀a,(tupleKind (cE prog w)).is h k a→VR μ h (.tup (k.map cG)) (.ref a)→P (.ref a)):P ck:=
 hv.fq fun a items nf x z r=>q a (let ⟨ho⟩:=x;⟨_,items.toArray,_,ho,rfl,rfl,by rw[qw];exact EJ r⟩) ⟨rfl,nf,x,z,r⟩
section
variable{K B:Type}[DecidableEq K]{l:List (K×B)}{k k':K}{v:B}
theorem rd:aR ((k,v)::l) k=some v:=by
 unfold aR;rw[List.find?_cons_of_pos (p:=fun p:K×B=>decide (p.1=k)) (a9 (p:=k=k) rfl)];rfl
theorem rf(e:k'≠k):aR ((k',v)::l) k=aR l k:=by
 unfold aR;rw[List.find?_cons_of_neg (p:=fun p:K×B=>decide (p.1=k)) (fun q=>e (c6 q))]
end
theorem XY{K:Type}[DecidableEq K]{r:List (K×Value)}{k:K}{v:Value}:valueAt ((k,v)::r) k=some v:=rd
theorem XZ{K:Type}[DecidableEq K]{r:List (K×Value)}{k k':K}{v:Value}(e:k'≠k):valueAt ((k',v)::r) k=valueAt r k:=rf (l:=r) e
theorem CC{K:Type}[DecidableEq K]{r:List (K×Addr×Value)}{k:K}{p:Addr×Value}:atKey ((k,p)::r) k=some p:=rd
theorem CD{K:Type}[DecidableEq K]{r:List (K×Addr×Value)}{k k':K}{p:Addr×Value}(e:k'≠k):atKey ((k',p)::r) k=atKey r k:=rf (l:=r) e
inductive kS(μ:Mu)(h:Heap):Option V→Option Value→Prop
 |no:kS μ h none none
 |yes {v:V} {c:Value}:VR μ h v c→kS μ h (some v) (some c)
theorem kS.is{a:Option V}{b:Option Value}(x:kS μ h a b):b.isSome=a.isSome:=by cases x<;>rfl
theorem kS.or{a:Option V}{b:Option Value}(x:kS μ h a b){d:V}{c:Value}(r:VR μ h d c):VR μ h (a.getD d) (b.getD c):=by
 cases x with
 |no=>exact r
 |yes r=>exact r
theorem PR.get{l:List (Atom×V)}{r:List (Atom×Value)}(x:PR μ h l r)(k:Atom):kS μ h (aR l k) (valueAt r k):=by
 induction x with
 |nil=>exact .no
 |@cons k' y cv r r' hv _ ih=>
  by_cases hk:k'=k
  ·rw[hk,rd,XY];exact .yes hv
  ·rw[rf hk,XZ hk];exact ih
theorem TR.get{l:List (List Atom×V)}{r:List (List Atom×Addr×Value)}(x:TR μ h l r)(k:List Atom):kS μ h (aR l k) ((atKey r k).map (·.2)):=by
 induction x with
 |nil=>exact .no
 |@cons k' y a cv r r' hv ha _ ih=>
  by_cases hk:k'=k
  ·rw[hk,rd,CC];exact .yes hv
  ·rw[rf hk,CD hk];exact ih
theorem PR.find{l:List (Atom×V)}{r:List (Atom×Value)}(x:PR μ h l r){k:Atom}{v:V}(e:aR l k=some v):Ex fun c=>au (valueAt r k=some c) (VR μ h v c):=by
 have g:=x.get k;rw[e] at g;generalize valueAt r k=q at g;cases g with|yes hv=>exact⟨⟨rfl,hv⟩⟩
theorem TR.find{l:List (List Atom×V)}{r:List (List Atom×Addr×Value)}(x:TR μ h l r){k:List Atom}{v:V}(e:aR l k=some v):Ex fun p=>au (atKey r k=some p) (VR μ h v p.2):=by
 have g:=x.get k;rw[e] at g;generalize atKey r k=q at g
 cases q with
 |none=>cases g
 |some p=>cases g with|yes hv=>exact⟨⟨rfl,hv⟩⟩
theorem lC(wk:jO W)(N:aW W μ H h){i:Nat}{p:Addr×Option Addr}(hp:μ.l[i]?=some p):(p.1 == sysModules)=false:=
 rJ.mpr fun e=>wk.H6 (e▸N.fresh _ (uQ hp))
theorem Rm.Rw{n:Nat}(r:Rm A n):A.units+1<cLine:=bb (d9 (aT _ _) (by decide)) r.u
theorem room{n:Nat}(r:Rm A n):(tupleKind (cE W.prog W.w)).room A.in1:=tupleKind_room_in1 r.Rw
theorem IG{a:Addr}{cs:List (List Atom×Addr×Value)}(d:s.heap.DictOfH (tupleKind (cE W.prog W.w)) a cs):s.TypeIs (.ref a) "dict":=let ⟨ho,c,_⟩:=sr d;⟨_,ho,c⟩
theorem dy.dict{i st:Nat}{kvs:List (Atom×V)}{k:Atom}{v:V}(hc:H[i]?=some (.dict kvs st))(e:aR kvs k=some v):dy W (.obj i) (cG k) H v:=fun{_ A s _ _ _ R} K hu hx c=>
 jQ K.N hc hu (P:=fun cu=>cN W A s cu (getItem cu _) R) fun _ _ _ d r=>let ⟨⟨hq,hv⟩⟩:=r.find e;⟨d.typeIs,slot_dict_getitem.lookup,wpAny_getItem_of (key_is hx) d.mapOf hq (c.here K.N hv)⟩
theorem dy.aY{i st:Nat}{kvs:List (List Atom×V)}{k:List Atom}{v:V}(hc:H[i]?=some (.aY kvs st))(e:aR kvs k=some v):dy W (.obj i) (.tup (k.map cG)) H v:=fun{_ A s _ _ _ R} K hu hx c=>
 s6 hx (P:=fun cx=>cN W A s _ (getItem _ cx) R) fun a hk _=>oF K.N hc hu (P:=fun cu=>cN W A s cu (getItem cu _) R) fun _ _ _ d r=>let ⟨⟨hq,hv⟩⟩:=r.find e;⟨IG d,slot_dict_getitem.lookup,wpAny_getItem_heap (room K.rm) hk d hq (c.here K.N hv)⟩
end
section
variable{W:Wd}{μ:Mu}{H:AH}{s:Shared}{A:Around}{h:Heap}
theorem PR.length{l:List (Atom×V)}{r:List (Atom×Value)}(x:PR μ h l r):r.length=l.length:=by
 induction x with
 |nil=>rfl
 |cons _ _ ih=>exact aE (·+1) ih
theorem TR.length{l:List (List Atom×V)}{r:List (List Atom×Addr×Value)}(x:TR μ h l r):r.length=l.length:=by
 induction x with
 |nil=>rfl
 |cons _ _ _ ih=>exact aE (·+1) ih
theorem PR.any{l:List (Atom×V)}{r:List (Atom×Value)}(x:PR μ h l r)(k:Atom):(r.any fun kv=>decide (kv.1=k))=l.any fun p=>decide (p.1=k):=by
 induction x with
 |nil=>rfl
 |cons _ _ ih=>exact aE (_||·) ih
theorem PR.append{l l':List (Atom×V)}{r r':List (Atom×Value)}(x:PR μ h l r)(y:PR μ h l' r'):PR μ h (l++l') (r++r'):=by
 induction x with
 |nil=>exact y
 |cons a _ ih=>exact .cons a ih
theorem PR.map{l:List (Atom×V)}{r:List (Atom×Value)}(x:PR μ h l r){k:Atom}{v:V}{cv:Value}(hv:VR μ h v cv):
  PR μ h (l.map fun p=>if p.1=k then(p.1,v) else p) (r.map fun kv=>if kv.1=k then(kv.1,cv) else kv):=by
 induction x with
 |nil=>exact .nil
 |@cons k' y c r r' hy _ ih=>
  rw[cO,cO];by_cases e:k'=k
  ·rw[aG e,aG e];exact .cons hv ih
  ·rw[aD e,aD e];exact .cons hy ih
theorem PR.put{l:List (Atom×V)}{r:List (Atom×Value)}(x:PR μ h l r){k:Atom}{v:V}{cv:Value}(hv:VR μ h v cv):PR μ h (bc l k v) (stored r k cv):=by
 unfold bc stored;rw[x.any k];split
 ·exact x.map hv
 ·exact x.append (.cons hv .nil)
theorem PR.del{l:List (Atom×V)}{r:List (Atom×Value)}(x:PR μ h l r)(k:Atom):PR μ h (nV l k) (without r k):=by
 unfold nV without
 induction x with
 |nil=>exact .nil
 |@cons k' y c r r' hy _ ih=>
  by_cases hk:k'=k
  ·rw[ql,ql,a7 (p:=k'≠k) fun q=>q hk];exact ih
  ·rw[ql,ql,a9 (p:=k'≠k) hk];exact .cons hy ih
theorem TR.append{l l':List (List Atom×V)}{r r':List (List Atom×Addr×Value)}(x:TR μ h l r)(y:TR μ h l' r'):TR μ h (l++l') (r++r'):=by
 induction x with
 |nil=>exact y
 |cons a b _ ih=>exact .cons a b ih
theorem TR.any{l:List (List Atom×V)}{r:List (List Atom×Addr×Value)}(x:TR μ h l r)(k:List Atom):(atKey r k).isSome=l.any fun p=>decide (p.1=k):=by
 induction x with
 |nil=>rfl
 |@cons k' y a c r r' _ _ _ ih=>
  rw[oU];by_cases hk:k'=k
  ·rw[hk,CC,a9 rfl];rfl
  ·rw[CD hk,ih,a7 hk];rfl
theorem TR.map{l:List (List Atom×V)}{r:List (List Atom×Addr×Value)}(x:TR μ h l r){k:List Atom}{v:V}{cv:Value}(hv:VR μ h v cv):
  TR μ h (l.map fun p=>if p.1=k then(p.1,v) else p) (r.map (putAt k cv)):=by
 induction x with
 |nil=>exact .nil
 |@cons k' y b c r r' hy hb _ ih=>
  rw[cO,cO];unfold putAt;by_cases e:k'=k
  ·rw[aG e,aG e];exact .cons hv hb ih
  ·rw[aD e,aD e];exact .cons hy hb ih
theorem TR.put{l:List (List Atom×V)}{r:List (List Atom×Addr×Value)}(x:TR μ h l r){k:List Atom}{v:V}{a:Addr}{cv:Value}(hv:VR μ h v cv)(ha:VR μ h (.tup (k.map cG)) (.ref a)):TR μ h (bc l k v) (storedH r k a cv):=by
 unfold bc storedH;rw[x.any k];split
 ·exact x.map hv
 ·exact x.append (.cons hv ha .nil)
theorem tA{a:Addr}{n:Nat}{items items':List Value}{f:Array Value→Array Value}(ho:h.get? a=some {cls:=.type "list",data:=.seq items.toArray n})(hf:f items.toArray=items'.toArray):
  XL (h.update a (Obj.mapSeq f)) a items':=
 ⟨(kT (Obj.mapSeq f) ho rfl).trans (aE some (by unfold Obj.mapSeq;dsimp only;rw[hf]))⟩
theorem VY{a:Addr}{items:List Value}{k:Int}{j:Nat}{t:Tok}{v:Value}{R:Unit→Shared→Prop}(e:k=j)(hl:XL s.heap a items)(hz:items.length≤aJ)(hj:j<items.length)
  (hQ:∀h',XL h' a (items.set j v)→Heap.SameBut a s.heap h'→R () {s with heap:=h'}):wpAny (model W.prog W.w) A (setItem (.ref a) (.int k t) v) R F0 s:=by
 obtain⟨ho⟩:=hl;have hT:s.TypeIs (.ref a) "list":=⟨_,ho,rfl⟩;have fin:=tA (f:=(·.setIfInBounds j v)) (items':=items.set j v) ho (by rw[List.setIfInBounds_toArray])
 have hx:items.toArray[j]?=some items[j]:=by rw[kX];exact bh hj
 unfold setItem
 try with_reducible refine eG ?_
 first|refine aF (ae ?_)|skip
 refine aF (wpAny_sequenceKey hT (by decide) ?_)
 refine aF (Ao (name:=Str.ofString "__setitem__") hT slot_list_setitem
  (me slot_list_setitem hT entry_list_setitem ?_ (args_list_setitem _ _ _)))
 show wpAny _ _ (Builtin.List.listSubscript? (.int k t) >>= _) _ _ s;refine aF (wpAny_listSubscript_int (fitsIndex_of (e▸eH j) (e▸ur hj hz)) ?_);subst e;show wpAny _ _ ((seqItemAt a j >>= fun r=>pure (r.map (j,·))) >>= _) _ _ s;refine aF (aF (wpAny_seqItemAt ho rfl (ae ?_)));rw[hx];show wpAny _ _ (setSeqItemAt a j v >>= _) _ _ s;refine aF (wpAny_setSeqItemAt ho rfl ?_)
 first
  |exact aF (ae (ae ⟨.none,rfl,ae (hQ _ fin (ji ..))⟩))
  |exact ae ⟨.none,rfl,ae (hQ _ fin (ji ..))⟩
theorem gG.lst{i k:Nat}{l:List V}{v:V}(hc:H[i]?=some (.lst l))(hk:k<l.length):gG W (.obj i) (.int k) v H (H.set i (.lst (l.set k v))):=fun{_ A s _ _ _ cv R} K hu hx hv c=>
 hx.bz (P:=fun cx=>Wp W A (setItem _ cx cv) R s) fun _=>gq K.N hc hu (P:=fun cu=>Wp W A (setItem cu _ cv) R s) fun _ _ hp x r z=>
  VY rfl x (r.length▸z) (r.length▸hk) fun _ hl' hs=>c (qI (tk:=s.toks) K.N hp x (lK hs) hl' (r.set k hv) (by rw[List.length_set];exact z))
theorem gG.dict{i st:Nat}{k:Atom}{kvs:List (Atom×V)}{v:V}(hc:H[i]?=some (.dict kvs st))(z:kvs.length≤aJ):gG W (.obj i) (cG k) v H (H.set i (.dict (bc kvs k v) (st+1))):=fun{_ A s _ _ cx cv R} K hu hx hv c=>
 jQ K.N hc hu (P:=fun cu=>Wp W A (setItem cu cx cv) R s) fun _ _ hp d r=>
  wpAny_setItem_pairs (key_is hx) d (fun _ hd' hs=>c (IQ K.N hc rfl hp d hs hd' (r.put hv))) (r.length▸eS z)
theorem gG.aY{i st:Nat}{k:List Atom}{kvs:List (List Atom×V)}{v:V}(hc:H[i]?=some (.aY kvs st))(z:kvs.length≤aJ):gG W (.obj i) (.tup (k.map cG)) v H (H.set i (.aY (bc kvs k v) (st+1))):=fun{_ A s _ _ _ cv R} K hu hx hv c=>
 s6 hx (P:=fun cx=>Wp W A (setItem _ cx cv) R s) fun a hk ha=>oF K.N hc hu (P:=fun cu=>Wp W A (setItem cu _ cv) R s) fun _ _ hp d r=>
  wpAny_setItem_heap (room K.rm) hk d (fun _ hd' hs=>c (XG K.N hc rfl hp d hs hd' fun E=>(r.kp (E.kp .none) (Aa d)).put (VR.ext E .none v hv) (VR.ext E .none _ ha))) (r.length▸eS z)
end
mutual
noncomputable def Vd:Nat→V→Prop
 |_,.obj _=>False
 |n+1,.tup l=>kj n l
 |n+1,.lst l=>kj n l
 |0,.tup _=>False
 |0,.lst _=>False
 |_,_=>True
noncomputable def kj:Nat→List V→Prop
 |_,[]=>True
 |n,v::l=>Vd n v∧kj n l
end
section
variable{W:Wd}{μ:Mu}{H:AH}{s:Shared}{A:Around}
theorem jn{xs:List Value}{k:Nat}(h:k<xs.toArray.size):xs[k]?=some xs.toArray[k]:=by rw[←kX];exact Array.getElem?_eq_getElem h
theorem all_true:∀(n:Nat),(List.range n).all (fun _=>true)=true:=fun n=>dh.mpr fun _ _=>rfl
theorem D8{n:Nat}(h:A.units+(n+1)<cLine):A.in1.units+n<cLine:=by show A.units+1+n<cLine;rw[bP,bR 1 n];exact h
theorem IZ{n:Nat}(h:A.units+n<cLine):A.units<cLine:=bb (aT _ _) h
theorem VS{p q:Addr}{xs ys:List Value}{A:Around}(hp:XT s.heap p xs)(hq:XT s.heap q ys)(hl:xs.length=ys.length)(hu:A.units<cLine)(h:∀(j:Nat) (x y:Value),xs[j]?=some x→ys[j]?=some y→EqAt A.in1 s x y true):RcAt A s (.ref p) (.ref q) true:=by
 have:=RcAt.tuples (e:=fun _=>true) hp.is hq.is hu fun j h1 h2=>h j _ _ (jn h1) (jn h2)
 rw[all_true,bM,bM,hl,ig] at this;exact this
theorem Hc{p q:Addr}{xs ys:List Value}{A:Around}(hp:XL s.heap p xs)(hq:XL s.heap q ys)(hl:xs.length=ys.length)(hu:A.units<cLine)(h:∀(j:Nat) (x y:Value),xs[j]?=some x→ys[j]?=some y→EqAt A.in1 s x y true):RcAt A s (.ref p) (.ref q) true:=by
 have:=RcAt.lists (e:=fun _=>true) hp.is hq.is (by rw[bM,bM,hl]) hu fun j h1 h2=>h j _ _ (jn h1) (jn h2)
 rw[all_true] at this;exact this
mutual
theorem VT:∀(n:Nat) (v:V) {A:Around} {ca cb:Value},Vd n v→A.units+n<cLine→VR μ s.heap v ca→VR μ s.heap v cb→EqAt A s ca cb true
 |n,.none,A,ca,cb,_,_,ra,rb=>ra.qM (P:=fun ca=>EqAt A s ca cb true) <| rb.qM (P:=fun cb=>EqAt A s _ cb true) <| EqAt.same _
 |n,.bool b,A,ca,cb,_,_,ra,rb=>ra.oJ (P:=fun ca=>EqAt A s ca cb true) <| rb.oJ (P:=fun cb=>EqAt A s _ cb true) <| EqAt.same _
 |n,.int i,A,ca,cb,_,_,ra,rb=>ra.bz (P:=fun ca=>EqAt A s ca cb true) fun t=>rb.bz (P:=fun cb=>EqAt A s _ cb true) fun u=>(ig i)▸EqAt.int_int i t i u
 |n,.str x,A,ca,cb,_,_,ra,rb=>ra.fm (P:=fun ca=>EqAt A s ca cb true) fun t=>rb.fm (P:=fun cb=>EqAt A s _ cb true) fun u=>(ig (⟨x.toArray⟩:Str))▸EqAt.str_str _ t _ u
 |n,.obj i,A,ca,cb,h,_,_,_=>by cases n<;>exact h.elim
 |0,.tup l,A,ca,cb,h,_,_,_=>h.elim
 |0,.lst l,A,ca,cb,h,_,_,_=>h.elim
 |n+1,.tup l,A,ca,cb,h,hu,ra,rb=>ra.fq (P:=fun ca=>EqAt A s ca cb true) fun p xs _ hp _ hx=>rb.fq (P:=fun cb=>EqAt A s (.ref p) cb true) fun q ys _ hq _ hy=>
  (ml (p=q)).elim (fun e=>e▸EqAt.same _) fun e=>EqAt.of_refs e (VS hp hq (hx.length.trans hy.length.symm) (IZ hu) (sQ n l h (D8 hu) hx hy))
 |n+1,.lst l,A,ca,cb,h,hu,ra,rb=>ra.qK (P:=fun ca=>EqAt A s ca cb true) fun p xs _ hp _ hx=>rb.qK (P:=fun cb=>EqAt A s (.ref p) cb true) fun q ys _ hq _ hy=>
  (ml (p=q)).elim (fun e=>e▸EqAt.same _) fun e=>EqAt.of_refs e (Hc hp hq (hx.length.trans hy.length.symm) (IZ hu) (sQ n l h (D8 hu) hx hy))
theorem sQ:∀(n:Nat) (l:List V) {A:Around} {xs ys:List Value},kj n l→A.units+n<cLine→aM μ s.heap l xs→aM μ s.heap l ys→∀(j:Nat) (x y:Value),xs[j]?=some x→ys[j]?=some y→EqAt A s x y true
 |n,[],A,xs,ys,_,_,hx,_=>hx.iP (P:=fun xs=>∀(j:Nat) (x y:Value),xs[j]?=some x→ys[j]?=some y→EqAt A s x y true) fun _ _ _ e=>ao e
 |n,v::l,A,xs,ys,h,hu,hx,hy=>hx.d7 (P:=fun xs=>∀(j:Nat) (x y:Value),xs[j]?=some x→ys[j]?=some y→EqAt A s x y true) fun a r ha hr=>hy.d7 (P:=fun ys=>∀(j:Nat) (x y:Value),(a::r)[j]?=some x→ys[j]?=some y→EqAt A s x y true) fun b r' hb hr' j x y=>
  match j with
  |0=>fun e e'=>av e▸av e'▸VT n v h.1 hu ha hb
  |j+1=>sQ n l h.2 hu hr hr' j x y
end
theorem Kz{p q:Addr}{xs ys:List Value}(hp:XL s.heap p xs)(hq:XL s.heap q ys)(hl:xs.length=ys.length)(hu:A.units<cLine)(h:∀(j:Nat) (x y:Value),xs[j]?=some x→ys[j]?=some y→EqAt A.in1 s x y true):RcNeAt A s (.ref p) (.ref q) false:=by
 have:=RcNeAt.lists (e:=fun _=>true) hp.is hq.is (by rw[bM,bM,hl]) hu fun j h1 h2=>h j _ _ (jn h1) (jn h2)
 rw[all_true] at this;exact this
theorem Rm.F5{n:Nat}(r:Rm A n):A.in1.units+1200<cLine:=by have:=r.u;show A.units+1+1200<cLine;exact bb (by rw[bP];exact d9 (aT _ _) (by decide)) this
theorem vV{a b:List Nat}:((⟨a.toArray⟩:Str) == ⟨b.toArray⟩)=decide (a=b):=CT ⟨str_inj,aE fun l:List Nat=>(⟨l.toArray⟩:Str)⟩
theorem lj.str{a b:List Nat}:P2 W (.str a) (.bool (decide (a=b))) (.str b) H H (compareOp .Eq):=fun{_ A s _ _ cx R} K hu hx c=>
 hu.fm (P:=fun cu=>Wp W A (compareOp .Eq cu cx) R s) fun t=>hx.fm (P:=fun cx=>Wp W A (compareOp .Eq _ cx) R s) fun u=>RcAt.str_str _ t _ u _ _ _ _ (c.here (tk:=s.toks) K.N (vV▸rfl))
theorem jK.str{a b:List Nat}:P2 W (.str a) (.bool (!decide (a=b))) (.str b) H H (compareOp .NotEq):=fun{_ A s _ _ cx R} K hu hx c=>
 hu.fm (P:=fun cu=>Wp W A (compareOp .NotEq cu cx) R s) fun t=>hx.fm (P:=fun cx=>Wp W A (compareOp .NotEq _ cx) R s) fun u=>RcNeAt.str_str _ t _ u _ _ _ _ (c.here (tk:=s.toks) K.N (vV▸rfl))
theorem lj.int{a b:Int}:P2 W (.int a) (.bool (decide (a=b))) (.int b) H H (compareOp .Eq):=fun{_ A s _ _ cx R} K hu hx c=>
 hu.bz (P:=fun cu=>Wp W A (compareOp .Eq cu cx) R s) fun t=>hx.bz (P:=fun cx=>Wp W A (compareOp .Eq _ cx) R s) fun u=>RcAt.int_int a t b u _ _ _ _ (c.here (tk:=s.toks) K.N rfl)
theorem jK.int{a b:Int}:P2 W (.int a) (.bool (!decide (a=b))) (.int b) H H (compareOp .NotEq):=fun{_ A s _ _ cx R} K hu hx c=>
 hu.bz (P:=fun cu=>Wp W A (compareOp .NotEq cu cx) R s) fun t=>hx.bz (P:=fun cx=>Wp W A (compareOp .NotEq _ cx) R s) fun u=>RcNeAt.int_int a t b u _ _ _ _ (c.here (tk:=s.toks) K.N rfl)
theorem jK.bool{a b:Bool}:P2 W (.bool a) (.bool (!(a == b))) (.bool b) H H (compareOp .NotEq):=fun{_ A s _ _ cx R} K hu hx c=>
 hu.oJ (P:=fun cu=>Wp W A (compareOp .NotEq cu cx) R s) <| hx.oJ (P:=fun cx=>Wp W A (compareOp .NotEq _ cx) R s) <| RcNeAt.bool_bool a b _ _ _ _ (c.here (tk:=s.toks) K.N rfl)
inductive IsL(H:AH)(l:List V):V→Prop
 |val:IsL H l (.lst l)
 |cell {i:Nat} (hc:H[i]?=some (.lst l)):IsL H l (.obj i)
theorem IsL.at{l:List V}{v:V}{cv:Value}(x:IsL H l v)(N:aW W μ H s.heap)(hv:VR μ s.heap v cv){P:Value→Prop}(k:∀a items,XL s.heap a items→aM μ s.heap l items→l.length≤aJ→P (.ref a)):P cv:=by
 cases x with
 |val=>exact hv.qK fun a items _ x z r=>k a items x r z
 |cell hc=>exact gq N hc hv fun a items _ x r z=>k a items x r z
theorem lj.lst{l:List V}{u v:V}(hu:IsL H l u)(hv:IsL H l v)(hd:kj 1200 l):P2 W u (.bool true) v H H (compareOp .Eq):=fun{_ A s _ _ cx R} K ru rv c=>
 hu.at K.N ru (P:=fun cu=>Wp W A (compareOp .Eq cu cx) R s) fun _ _ x r _=>hv.at K.N rv (P:=fun cx=>Wp W A (compareOp .Eq _ cx) R s) fun _ _ x' r' _=>
  Hc x x' (r.length.trans r'.length.symm) K.rm.lt (sQ 1200 l hd K.rm.F5 r r') _ _ _ _ (c.here (tk:=s.toks) K.N rfl)
theorem jK.lst{l:List V}{u v:V}(hu:IsL H l u)(hv:IsL H l v)(hd:kj 1200 l):P2 W u (.bool false) v H H (compareOp .NotEq):=fun{_ A s _ _ cx R} K ru rv c=>
 hu.at K.N ru (P:=fun cu=>Wp W A (compareOp .NotEq cu cx) R s) fun _ _ x r _=>hv.at K.N rv (P:=fun cx=>Wp W A (compareOp .NotEq _ cx) R s) fun _ _ x' r' _=>
  Kz x x' (r.length.trans r'.length.symm) K.rm.lt (sQ 1200 l hd K.rm.F5 r r') _ _ _ _ (c.here (tk:=s.toks) K.N rfl)
noncomputable def mA(a b:List Nat)(i j:Int):Nat→Bool
 |0=>decide (a=b)
 |_=>decide (i=j)
theorem DU{a b:List Nat}{i j:Int}{t t':List V}{xs ys:List Value}(hx:aM μ s.heap (.str a::.int i::t) xs)(hy:aM μ s.heap (.str b::.int j::t') ys)(ht:t=[]∨t'=[]):∀(k:Nat) (x y:Value),xs[k]?=some x→ys[k]?=some y→EqAt A s x y (mA a b i j k):=
 hx.d7 (P:=fun xs=>∀(k:Nat) (x y:Value),xs[k]?=some x→ys[k]?=some y→EqAt A s x y (mA a b i j k)) fun _ _ h1 hx=>hx.d7 (P:=fun xs=>∀(k:Nat) (x y:Value),(_::xs)[k]?=some x→ys[k]?=some y→EqAt A s x y (mA a b i j k)) fun _ r h2 hx=>
 hy.d7 (P:=fun ys=>∀(k:Nat) (x y:Value),(_::_::r)[k]?=some x→ys[k]?=some y→EqAt A s x y (mA a b i j k)) fun _ _ g1 hy=>hy.d7 (P:=fun ys=>∀(k:Nat) (x y:Value),(_::_::r)[k]?=some x→(_::ys)[k]?=some y→EqAt A s x y (mA a b i j k)) fun _ r' g2 hy k x y e e'=>
 match k,e,e' with
 |0,e,e'=>av e▸av e'▸h1.fm (P:=fun c=>EqAt A s c _ _) fun t=>g1.fm (P:=fun c=>EqAt A s _ c _) fun u=>(vV▸EqAt.str_str _ t _ u:EqAt A s _ _ (decide (a=b)))
 |1,e,e'=>av e▸av e'▸h2.bz (P:=fun c=>EqAt A s c _ _) fun t=>g2.bz (P:=fun c=>EqAt A s _ c _) fun u=>EqAt.int_int i t j u
 |k+2,e,e'=>ht.elim (fun q=>(q▸hx:aM μ s.heap [] r).iP (P:=fun r=>r[k]?=some x→EqAt A s x y _) (fun e=>ao e) e) fun q=>(q▸hy:aM μ s.heap [] r').iP (P:=fun r=>r[k]?=some y→EqAt A s x y _) (fun e=>ao e) e'
theorem min_two{n m:Nat}(h:n=0∨m=0):min (n+1+1) (m+1+1)=2:=by
 rcases h with rfl|rfl
 ·exact qz (b9 _ _)
 ·exact wM (b9 _ _)
noncomputable def gI(a b:List Nat)(i j:Int)(t t':List V):Bool:=(decide (a=b)&&(decide (i=j)&&true))&&(t.length+1+1 == t'.length+1+1)
theorem DV{a b:List Nat}{i j:Int}{t t':List V}{xs ys:List Value}(hx:aM μ s.heap (.str a::.int i::t) xs)(hy:aM μ s.heap (.str b::.int j::t') ys)(ht:t=[]∨t'=[]):((List.range (min xs.toArray.size ys.toArray.size)).all (mA a b i j)&&xs.toArray.size == ys.toArray.size)=gI a b i j t t':=by
 rw[bM,bM,hx.length,hy.length,dK,dK,dK,dK,min_two (ht.imp (fun q=>by rw[q];rfl) fun q=>by rw[q];rfl)]
 rfl
theorem lj.flat{a b:List Nat}{i j:Int}{t t':List V}(ht:t=[]∨t'=[]):P2 W (.tup (.str a::.int i::t)) (.bool (gI a b i j t t')) (.tup (.str b::.int j::t')) H H (compareOp .Eq):=fun{_ A s _ _ cx R} K hu hx c=>
 hu.fq (P:=fun cu=>Wp W A (compareOp .Eq cu cx) R s) fun _ _ _ x _ r=>hx.fq (P:=fun cx=>Wp W A (compareOp .Eq _ cx) R s) fun _ _ _ x' _ r'=>
  RcAt.tuples (e:=mA a b i j) x.is x'.is K.rm.lt (fun k h1 h2=>DU r r' ht k _ _ (jn h1) (jn h2)) _ _ _ _ (DV r r' ht▸c.here (tk:=s.toks) K.N rfl)
theorem jK.flat{a b:List Nat}{i j:Int}{t t':List V}(ht:t=[]∨t'=[]):P2 W (.tup (.str a::.int i::t)) (.bool (!gI a b i j t t')) (.tup (.str b::.int j::t')) H H (compareOp .NotEq):=fun{_ A s _ _ cx R} K hu hx c=>
 hu.fq (P:=fun cu=>Wp W A (compareOp .NotEq cu cx) R s) fun _ _ _ x _ r=>hx.fq (P:=fun cx=>Wp W A (compareOp .NotEq _ cx) R s) fun _ _ _ x' _ r'=>
  RcNeAt.tuples (e:=mA a b i j) x.is x'.is K.rm.lt (fun k h1 h2=>DU r r' ht k _ _ (jn h1) (jn h2)) _ _ _ _ (DV r r' ht▸c.here (tk:=s.toks) K.N rfl)
end
section
variable{W:Wd}{μ:Mu}{H:AH}{s:Shared}{A:Around}
theorem int_is{prog:Program}{w:World}{k:Int}{t:Tok}:(intKind prog w).is k (.int k t)=true:=ig k
theorem q7.dict{i st:Nat}{kvs:List (Atom×V)}{k:Atom}(hc:H[i]?=some (.dict kvs st)):P2 W (cG k) (.bool (aR kvs k).isSome) (.obj i) H H (compareOp .In):=fun{_ A s _ cu _ R} K hu hx c=>
 jQ K.N hc hx (P:=fun cx=>Wp W A (compareOp .In cu cx) R s) fun _ _ hp d r=>wpAny_in_of (key_is hu) (lC K.wk K.N hp) d.mapOf (c.here K.N ((r.get k).is▸rfl))
theorem nD.dict{i st:Nat}{kvs:List (Atom×V)}{k:Atom}(hc:H[i]?=some (.dict kvs st)):P2 W (cG k) (.bool (!(aR kvs k).isSome)) (.obj i) H H (compareOp .NotIn):=fun{_ A s _ cu _ R} K hu hx c=>
 jQ K.N hc hx (P:=fun cx=>Wp W A (compareOp .NotIn cu cx) R s) fun _ _ hp d r=>wpAny_notIn_of (key_is hu) (lC K.wk K.N hp) d.mapOf (c.here K.N ((r.get k).is▸rfl))
theorem map_some{α β:Type}{f:α→β}{o:Option α}:(o.map f).isSome=o.isSome:=by cases o<;>rfl
theorem q7.aY{i st:Nat}{kvs:List (List Atom×V)}{k:List Atom}(hc:H[i]?=some (.aY kvs st)):P2 W (.tup (k.map cG)) (.bool (aR kvs k).isSome) (.obj i) H H (compareOp .In):=fun{_ A s _ _ cx R} K hu hx c=>
 s6 hu (P:=fun cu=>Wp W A (compareOp .In cu cx) R s) fun _ hk _=>oF K.N hc hx (P:=fun cx=>Wp W A (compareOp .In _ cx) R s) fun _ _ hp d r=>wpAny_in_heap (room K.rm) hk (lC K.wk K.N hp) d (c.here K.N (((r.get k).is.symm.trans map_some)▸rfl))
theorem nD.aY{i st:Nat}{kvs:List (List Atom×V)}{k:List Atom}(hc:H[i]?=some (.aY kvs st)):P2 W (.tup (k.map cG)) (.bool (!(aR kvs k).isSome)) (.obj i) H H (compareOp .NotIn):=fun{_ A s _ _ cx R} K hu hx c=>
 s6 hu (P:=fun cu=>Wp W A (compareOp .NotIn cu cx) R s) fun _ hk _=>oF K.N hc hx (P:=fun cx=>Wp W A (compareOp .NotIn _ cx) R s) fun _ _ hp d r=>PyProof.Rows.wpAny_notIn_heap (room K.rm) hk (lC K.wk K.N hp) d (c.here K.N (((r.get k).is.symm.trans map_some)▸rfl))
theorem q7.set{i:Nat}{q:List Int}{k:Int}(hc:H[i]?=some (.set q)):P2 W (.int k) (.bool (q.contains k)) (.obj i) H H (compareOp .In):=fun{_ A s _ _ cx R} K hu hx c=>
 hu.bz (P:=fun cu=>Wp W A (compareOp .In cu cx) R s) fun _=>qA K.N hc hx (P:=fun cx=>Wp W A (compareOp .In _ cx) R s) fun _ hp d _=>wpAny_inSet_of int_is rfl d (c.here K.N rfl)
theorem nD.set{i:Nat}{q:List Int}{k:Int}(hc:H[i]?=some (.set q)):P2 W (.int k) (.bool (!q.contains k)) (.obj i) H H (compareOp .NotIn):=fun{_ A s _ _ cx R} K hu hx c=>
 hu.bz (P:=fun cu=>Wp W A (compareOp .NotIn cu cx) R s) fun _=>qA K.N hc hx (P:=fun cx=>Wp W A (compareOp .NotIn _ cx) R s) fun _ hp d _=>wpAny_notInSet_of int_is rfl d (c.here K.N rfl)
noncomputable def rW(k:Int):Value→Bool
 | .int j _=>j == k
 |_=>false
theorem ua:∀{l:List Int} {vs:List Value},aM μ s.heap (l.map V.int) vs→(∀y∈vs,∃j t,y=Value.int j t)∧∀k,vs.any (rW k)=l.any (· == k)
 | [],_,hl=>hl.iP (P:=fun vs=>(∀y∈vs,∃j t,y=Value.int j t)∧∀k,vs.any (rW k)=[].any (· == k)) ⟨(fun _ q=>nomatch q),fun _=>rfl⟩
 |j::l,_,hl=>hl.d7 (P:=fun vs=>(∀y∈vs,∃j t,y=Value.int j t)∧∀k,vs.any (rW k)=(j::l).any (· == k)) fun _ r hv hr=>hv.bz (P:=fun v=>(∀y∈v::r,∃j t,y=Value.int j t)∧∀k,(v::r).any (rW k)=(j::l).any (· == k)) fun t=>
  ⟨fun y q=>(a8.mp q).elim (fun e=>⟨j,t,e⟩) ((ua hr).1 y),fun k=>aE ((j == k)||·) ((ua hr).2 k)⟩
theorem N7{l:List Int}{vs:List Value}(hl:aM μ s.heap (l.map V.int) vs)(k:Int)(t:Tok):∀y∈vs.toArray,EqAt A s y (.int k t) (rW k y):=fun y hy=>
 let ⟨j,u,e⟩:=(ua hl).1 y (Array.mem_toArray.mp hy);e▸EqAt.int_int j u k t
theorem nD.ints{u:V}{l:List Int}{k:Int}(hl:IsL H (l.map V.int) u):P2 W (.int k) (.bool (!l.any (· == k))) u H H (compareOp .NotIn):=fun{_ A s _ _ cx R} K hu hx c=>
 hu.bz (P:=fun cu=>Wp W A (compareOp .NotIn cu cx) R s) fun t=>hl.at K.N hx (P:=fun cx=>Wp W A (compareOp .NotIn _ cx) R s) fun _ _ x r _=>notIn_listAt _ x.is (N7 r k t) (by rw[List.any_toArray,(ua r).2 k];exact c.here (tk:=s.toks) K.N rfl)
theorem kJ{a b:Int}{cu cx:Value}{P:Value→Value→Prop}(hu:VR μ s.heap (.int a) cu)(hx:VR μ s.heap (.int b) cx)(k:∀t u,P (.int a t) (.int b u)):P cu cx:=hu.bz (P:=fun cu=>P cu cx) fun t=>hx.bz (k t)
section
variable{a b:Int}
theorem JB.int:P2 W (.int a) (.bool (decide (a<b))) (.int b) H H (compareOp .Lt):=fun{_ A s _ _ _ R} K hu hx c=>kJ hu hx (P:=fun x y=>Wp W A (compareOp .Lt x y) R s) fun _ _=>lt_int (c.here (tk:=s.toks) K.N rfl)
theorem JA.int:P2 W (.int a) (.bool (decide (a≤b))) (.int b) H H (compareOp .LtE):=fun{_ A s _ _ _ R} K hu hx c=>kJ hu hx (P:=fun x y=>Wp W A (compareOp .LtE x y) R s) fun _ _=>le_int (c.here (tk:=s.toks) K.N rfl)
theorem I9.int:P2 W (.int a) (.bool (decide (b<a))) (.int b) H H (compareOp .Gt):=fun{_ A s _ _ _ R} K hu hx c=>kJ hu hx (P:=fun x y=>Wp W A (compareOp .Gt x y) R s) fun _ _=>gt_int (c.here (tk:=s.toks) K.N rfl)
theorem I8.int:P2 W (.int a) (.bool (decide (b≤a))) (.int b) H H (compareOp .GtE):=fun{_ A s _ _ _ R} K hu hx c=>kJ hu hx (P:=fun x y=>Wp W A (compareOp .GtE x y) R s) fun _ _=>ge_int (c.here (tk:=s.toks) K.N rfl)
theorem nC.int:P2 W (.int a) (.int (a+b)) (.int b) H H (binaryOp .Add):=fun{_ A s _ _ _ R} K hu hx c=>kJ hu hx (P:=fun x y=>Wp W A (binaryOp .Add x y) R s) fun _ _=>add_int (c.here K.N .e7)
theorem JC.int:P2 W (.int a) (.int (a-b)) (.int b) H H (binaryOp .Sub):=fun{_ A s _ _ _ R} K hu hx c=>kJ hu hx (P:=fun x y=>Wp W A (binaryOp .Sub x y) R s) fun _ _=>sub_int' (c.here K.N .e7)
theorem wa.int(ha:Builtin.Int.intBits a≤4096)(hb:Builtin.Int.intBits b≤4096):P2 W (.int a) (.int (a*b)) (.int b) H H (binaryOp .Mult):=fun{_ A s _ _ _ R} K hu hx c=>kJ hu hx (P:=fun x y=>Wp W A (binaryOp .Mult x y) R s) fun _ _=>
 mul_int (c.here K.N .e7) (IntMulOk.of_bits (aA ha (by decide)) (aA hb (by decide)))
theorem I7.int(h0:0<b)(h1:b<1073741824):P2 W (.int a) (.int (Int.fdiv a b)) (.int b) H H (binaryOp .FloorDiv):=fun{_ A s _ _ _ R} K hu hx c=>kJ hu hx (P:=fun x y=>Wp W A (binaryOp .FloorDiv x y) R s) fun _ _=>
 floordiv_int (Int.ne_of_gt h0) (c.here K.N .e7) (.inl (PyProof.noPylong_small (by omega)))
theorem q8.int(h0:0<b):P2 W (.int a) (.int (Int.fmod a b)) (.int b) H H (binaryOp .Mod):=fun{_ A s _ _ _ R} K hu hx c=>kJ hu hx (P:=fun x y=>Wp W A (binaryOp .Mod x y) R s) fun _ _=>
 mod_int' (Int.ne_of_gt h0) (c.here K.N .e7)
theorem wb.int(h0:0≤b)(h1:b≤60):P2 W (.int 10) (.int (10 ^ b.toNat)) (.int b) H H (binaryOp .Pow):=fun{_ A s _ _ _ R} K hu hx c=>kJ hu hx (P:=fun x y=>Wp W A (binaryOp .Pow x y) R s) fun _ _=>
 pow_int h0 (jF (Int.mul_le_mul (kW.mpr (PyProof.Rows.intBits_le (a:=10) (k:=4) (by decide))) h1 h0 (by decide)) (by decide)) (c.here K.N .e7)
end
theorem nC.str{a b:List Nat}(h:a.length+b.length≤aJ):P2 W (.str a) (.str (a++b)) (.str b) H H (binaryOp .Add):=fun{_ A s _ _ cx R} K hu hx c=>
 hu.fm (P:=fun cu=>Wp W A (binaryOp .Add cu cx) R s) fun _=>hx.fm (P:=fun cx=>Wp W A (binaryOp .Add _ cx) R s) fun _=>
  add_str (fun _ _=>c.here K.N ⟨aE (fun x:Str=>Value.str x _) (show(⟨a.toArray++b.toArray⟩:Str)=_ by rw[BC])⟩) (show a.toArray.size+b.toArray.size≤_ by rw[bM,bM];exact eS h)
theorem gK(h:Heap):h.get? h.objs.size=none:=by
 cases e:h.get? h.objs.size with
 |none=>rfl
 |some o=>exact absurd (gE e) (eA _)
theorem pO{h h':Heap}(k:∀b o,h.get? b=some o→h'.get? b=some o):h.get? h'.objs.size=none:=by
 cases e:h.get? h'.objs.size with
 |none=>rfl
 |some o=>exact absurd (gE (k _ _ e)) (eA _)
theorem b8(h:Heap)(x:Obj):∀b o,h.get? b=some o→(h.push x).get? b=some o:=fun b o e=>mq _ e
theorem XL.new{h:Heap}{vs:List Value}:XL (h.push {cls:=.type "list",data:=.seq vs.toArray}) h.objs.size vs:=⟨dW _ rfl⟩
theorem XT.new{h:Heap}{vs:List Value}:XT (h.push {cls:=.type "tuple",data:=.seq vs.toArray}) h.objs.size vs:=⟨dW _ rfl⟩
theorem JO{l b:Addr}{vs ws:List Value}{R:Value→Shared→Prop}(hl:XL s.heap l vs)(hb:XL s.heap b ws)(hsz:vs.length+ws.length≤aJ)
  (h:R (.ref s.heap.objs.size) {s with heap:=s.heap.push {cls:=.type "list",data:=.seq (vs++ws).toArray}}):Wp W A (binaryOp .Add (.ref l) (.ref b)) R s:=by
 obtain⟨ho⟩:=hl;obtain⟨ho2⟩:=hb;rw[←BC] at h;exact concat_meets ⟨_,ho,rfl⟩ ⟨_,ho2,rfl⟩ noFill_list_add seq_list_add PySem.F.slot_list_add PySem.F.entry_list_add (PySem.F.args_list_add_2 _ _) (list_addW l b vs.toArray ws.toArray _ _ none none #[] #[] (by rw[bM,bM];exact eS hsz)) ⟨ho,ho2,h⟩
theorem nC.lst{l r:List V}{u x v:V}{H':AH}(hl:IsL H l u)(hr:IsL H r x)(z:(l++r).length≤aJ)(q:LR (l++r) H v H'):P2 W u v x H H' (binaryOp .Add):=fun{_ A s _ _ cx R} K hu hx c=>
 hl.at K.N hu (P:=fun cu=>Wp W A (binaryOp .Add cu cx) R s) fun _ _ x r _=>hr.at K.N hx (P:=fun cx=>Wp W A (binaryOp .Add _ cx) R s) fun _ _ x' r' _=>
  JO x x' (by rw[r.length,r'.length,←a5];exact z) (lD (tk:=s.toks) q K.N (r.append r') z (b8 _ _) (gK _) .new c)
end
noncomputable def F1.fv:F1→Value
 | .len=>.builtin "len"
 | .sorted=>.builtin "sorted"
 | .list=>.type "list"
 | .tuple=>.type "tuple"
 | .str=>.type "str"
section
variable{W:Wd}{μ:Mu}{H:AH}{s:Shared}{A:Around}
theorem ow.tup{l:List V}:P1 W (.tup l) (.int l.length) H H (fun a=>call (.builtin "len") [a]):=fun{_ A s _ _ R} K hu c=>
 hu.fq (P:=fun cu=>Wp W A (call (.builtin "len") [cu]) R s) fun _ xs _ x z r=>by
  have e:((xs.toArray.size:Nat):Int)=(l.length:Int):=by rw[bM,r.length]
  exact len_tuple x.is (e▸lO z) (e▸c.here K.N .e7)
theorem ow.lst{l:List V}{u:V}(hl:IsL H l u):P1 W u (.int l.length) H H (fun a=>call (.builtin "len") [a]):=fun{_ A s _ _ R} K hu c=>
 hl.at K.N hu (P:=fun cu=>Wp W A (call (.builtin "len") [cu]) R s) fun _ xs x r z=>by
  have e:((xs.toArray.size:Nat):Int)=(l.length:Int):=by rw[bM,r.length]
  exact call_len_list x.is (e▸lO z) (e▸c.here K.N .e7)
theorem ow.dict{i st:Nat}{kvs:List (Atom×V)}(hc:H[i]?=some (.dict kvs st))(z:kvs.length≤aJ):P1 W (.obj i) (.int kvs.length) H H (fun a=>call (.builtin "len") [a]):=fun{_ A s _ _ R} K hu c=>
 jQ K.N hc hu (P:=fun cu=>Wp W A (call (.builtin "len") [cu]) R s) fun _ _ hp d r=>call_len_dict (lC K.wk K.N hp) d (r.length▸lO z) (r.length▸c.here K.N .e7)
theorem lp.tup{l:List V}{v:V}{H':AH}(q:LR l H v H'):P1 W (.tup l) v H H' (fun a=>call (.type "list") [a]):=fun{_ A s _ _ R} K hu c=>
 hu.fq (P:=fun cu=>Wp W A (call (.type "list") [cu]) R s) fun a xs _ x z r=>let ⟨ho⟩:=x
  call_list_seq a (.inr rfl) ho rfl rfl (fun _ _ hk hn=>lD (tk:=s.toks) q K.N r z hk (gK _) ⟨hn⟩ c) (by rw[bM,r.length];exact eS z)
theorem lp.lst{l:List V}{u v:V}{H':AH}(hl:IsL H l u)(q:LR l H v H'):P1 W u v H H' (fun a=>call (.type "list") [a]):=fun{_ A s _ _ R} K hu c=>
 hl.at K.N hu (P:=fun cu=>Wp W A (call (.type "list") [cu]) R s) fun a xs x r z=>let ⟨ho⟩:=x
  call_list_seq a (.inl rfl) ho rfl rfl (fun _ _ hk hn=>lD (tk:=s.toks) q K.N r z hk (gK _) ⟨hn⟩ c) (by rw[bM,r.length];exact eS z)
theorem JF.lst{l:List V}{u:V}(hl:IsL H l u):P1 W u (.tup l) H H (fun a=>call (.type "tuple") [a]):=fun{_ A s _ _ R} K hu c=>
 hl.at K.N hu (P:=fun cu=>Wp W A (call (.type "tuple") [cu]) R s) fun a xs x r z=>
  call_tuple_list x.is (fun _ hk=>zJ (tk:=s.toks) K.N r z (fun b o e=>mq _ (hk b o e)) (pO hk) .new c) (by rw[bM,r.length];exact eS z)
noncomputable def P0(W:Wd)(H:AH)(v:V)(H':AH)(m:Sem Value):Prop:=∀{n:Nat} {A:Around} {s:Shared} {μ:Mu} {R:Value→Shared→Prop},Ok W n A μ H s→Kc W μ s H' v R→Wp W A m R s
theorem JD.new:P0 W H (.obj H.length) (H++[.set []]) (call (.type "set") []):=fun{_ A s _ R} K c=>
 call_set_0 fun led=>ux (tk:=s.toks) (c:=.set []) K.N (b8 _ _) (gK _) ⟨rfl,⟨_,_,_,_,dW _ rfl,⟨rfl,rfl,rfl⟩,rfl,(fun _ q=>nomatch q),(fun k=>⟨(fun q=>nomatch q),(fun⟨_,q,_⟩=>nomatch q)⟩),by decide,by cases led<;>rfl,rfl⟩,dF⟩ (fun _ e=>ao e) c
inductive DR(H:AH):V→AH→Prop
 |dict:DR H (.obj H.length) (H++[.dict [] 0])
 |aY:DR H (.obj H.length) (H++[.aY [] 0])
theorem SR{R:Value→Shared→Prop}{v:V}{H':AH}(q:DR H v H')(N:aW W μ H s.heap)(c:Kc W μ s H' v R):R (.ref s.heap.objs.size) {s with heap:=s.heap.push {cls:=.type "dict",data:=.dict #[]}}:=by
 cases q with
 |dict=>exact ux (tk:=s.toks) (c:=.dict [] 0) N (b8 _ _) (gK _) ⟨rfl,Heap.DictOf.new _,.nil⟩ (fun _ e=>av e) c
 |aY=>exact ux (tk:=s.toks) (c:=.aY [] 0) N (b8 _ _) (gK _) ⟨rfl,Heap.DictOfH.new _,.nil⟩ (fun _ e=>av e) c
inductive wi(vs:List V)(H:AH):V→AH→Prop
 |mk (z:vs.length≤aJ):wi vs H (.tup vs) H
noncomputable def ub:V→Bool
 | .none=>false
 |_=>true
inductive wX(u:V)(H:AH):V→AH→Prop
 |mk:wX u H (.bool (ub u)) H
inductive wW(u:V)(H:AH):V→AH→Prop
 |mk {l:List V} (x:IsL H l u):wW u H (.bool (!l.isEmpty)) H
inductive v9(l:List (List Nat))(H:AH):V→V→AH→Prop
 |mk {x:List Nat}:v9 l H (.str x) (.bool (l.contains x)) H
end
inductive BM(s:Shared)(ov:Value)(name:Str)(id:String):Prop
 |mk {T:String} (pa:PlainAttrs T) (slot:Slot T name id) (ty:typeOf (.builtin id)=pure (.type "method_descriptor")) (hT:s.TypeIs ov T) (hd:∀a,ov=.ref a→∃ob,s.heap.get? a=some ob∧ob.dict=none)
noncomputable def Mt.nm:Mt→Str
 | .append=>"append"| .pop=>"pop"| .insert=>"insert"| .add=>"add"| .discard=>"discard"| .eP=>"get"| .fV=>"pop"
noncomputable def Mt.id:Mt→String
 | .append=>"list.append"| .pop=>"list.pop"| .insert=>"list.insert"| .add=>"set.add"| .discard=>"set.discard"| .eP=>"dict.get"| .fV=>"dict.pop"
noncomputable def Recv(W:Wd)(m:Mt)(u:V)(H:AH):Prop:=∀{μ:Mu} {s:Shared} {cu:Value},aW W μ H s.heap→VR μ s.heap u cu→BM s cu m.nm m.id
noncomputable def bu(W:Wd)(m:Mt)(us:List V)(H:AH)(v:V)(H':AH):Prop:=∀{n:Nat} {A:Around} {s:Shared} {μ:Mu} {cus:List Value} {R:Value→Shared→Prop},Ok W n A μ H s→aM μ s.heap us cus→Kc W μ s H' v R→Wp W A (call (.builtin m.id) cus) R s
section
variable{W:Wd}{μ:Mu}{H:AH}{s:Shared}{A:Around}
theorem BM.of{a:Addr}{T:String}{name:Str}{id:String}(x:kf s.heap a T)(pa:PlainAttrs T)(slot:Slot T name id)(ty:typeOf (.builtin id)=pure (.type "method_descriptor")):BM s (.ref a) name id:=by
 cases x with|mk ho c d=>exact⟨pa,slot,ty,⟨_,ho,c⟩,fun b e=>⟨_,Value.ref.inj e▸ho,d⟩⟩
theorem XL.obj{a:Addr}{items:List Value}(x:XL s.heap a items):kf s.heap a "list":=let ⟨e⟩:=x;⟨e,rfl,rfl⟩
section
variable{i:Nat}
theorem Recv.append{l:List V}(hc:H[i]?=some (.lst l)):Recv W .append (.obj i) H:=fun{_ s _} N hu=>gq N hc hu (P:=fun c=>BM s c _ _) fun _ _ _ x _ _=>.of x.obj vy F.slot_list_append F.type_list_append
theorem Recv.pop{l:List V}(hc:H[i]?=some (.lst l)):Recv W .pop (.obj i) H:=fun{_ s _} N hu=>gq N hc hu (P:=fun c=>BM s c _ _) fun _ _ _ x _ _=>.of x.obj vy F.slot_list_pop F.type_list_pop
theorem Recv.insert{l:List V}(hc:H[i]?=some (.lst l)):Recv W .insert (.obj i) H:=fun{_ s _} N hu=>gq N hc hu (P:=fun c=>BM s c _ _) fun _ _ _ x _ _=>.of x.obj vy F.slot_list_insert F.type_list_insert
theorem Recv.add{q:List Int}(hc:H[i]?=some (.set q)):Recv W .add (.obj i) H:=fun{_ s _} N hu=>qA N hc hu (P:=fun c=>BM s c _ _) fun _ _ d _=>.of (sT d) F.plainAttrs_set F.slot_set_add F.type_set_add
theorem Recv.discard{q:List Int}(hc:H[i]?=some (.set q)):Recv W .discard (.obj i) H:=fun{_ s _} N hu=>qA N hc hu (P:=fun c=>BM s c _ _) fun _ _ d _=>.of (sT d) F.plainAttrs_set F.slot_set_discard F.type_set_discard
theorem Recv.get{kvs:List (Atom×V)}{st:Nat}(hc:H[i]?=some (.dict kvs st)):Recv W .eP (.obj i) H:=fun{_ s _} N hu=>jQ N hc hu (P:=fun c=>BM s c _ _) fun _ _ _ d _=>.of (rP d) A0 vz F.type_dict_get
theorem Recv.Ad{kvs:List (List Atom×V)}{st:Nat}(hc:H[i]?=some (.aY kvs st)):Recv W .eP (.obj i) H:=fun{_ s _} N hu=>oF N hc hu (P:=fun c=>BM s c _ _) fun _ _ _ d _=>.of (sr d) A0 vz F.type_dict_get
theorem Recv.fV{kvs:List (Atom×V)}{st:Nat}(hc:H[i]?=some (.dict kvs st)):Recv W .fV (.obj i) H:=fun{_ s _} N hu=>jQ N hc hu (P:=fun c=>BM s c _ _) fun _ _ _ d _=>.of (rP d) A0 F.slot_dict_pop F.type_dict_pop
theorem bu.append{l:List V}{v:V}(hc:H[i]?=some (.lst l))(z:(l++[v]).length≤aJ):bu W .append [.obj i,v] H .none (H.set i (.lst (l++[v]))):=fun{_ A s _ _ R} K hus c=>
 hus.qJ (P:=fun cus=>Wp W A (call (.builtin "list.append") cus) R s) fun _ cv hu hv=>gq K.N hc hu (P:=fun cu=>Wp W A (call (.builtin "list.append") [cu,cv]) R s) fun _ items hp x r _=>let ⟨ho⟩:=x
  append_at ho (fun h' hs ho'=>c (qI (tk:=s.toks) K.N hp x (lK hs) ⟨BS items cv▸ho'⟩ (r.append (.one hv)) z) .of_none) (by rw[bM,r.length];exact eS (aA (aT _ _) (a5▸z)))
theorem LO(items:List Value):items.toArray.eraseIdxIfInBounds (items.toArray.size-1)=items.dropLast.toArray:=by
 apply Array.ext'
 rw[bM,Array.eraseIdxIfInBounds];split
 ·rw[List.eraseIdx_toArray,qw,List.eraseIdx_length_sub_one]
 ·rename_i q;rw[bM] at q
  have:items=[]:=lW.mp (Nat.eq_zero_of_not_pos fun h=>q (Nat.sub_lt h Nat.one_pos))
  rw[this];rfl
theorem bu.pop{l:List V}{v:V}(hc:H[i]?=some (.lst l))(hv:l.getLast?=some v):bu W .pop [.obj i] H v (H.set i (.lst l.dropLast)):=fun{_ A s _ _ R} K hus c=>
 hus.IY (P:=fun cus=>Wp W A (call (.builtin "list.pop") cus) R s) fun _ hu=>gq K.N hc hu (P:=fun cu=>Wp W A (call (.builtin "list.pop") [cu]) R s) fun a items hp x r z=>let ⟨ho⟩:=x;by
  rw[tU] at hv;obtain⟨⟨hcy,hvy⟩⟩:=r.get hv;have T:=qI (tk:=s.toks) K.N hp x (lK (ji ..)) (tA (f:=fun xs=>xs.eraseIdxIfInBounds (items.toArray.size-1)) ho (LO items)) (by rw[List.dropLast_eq_take,List.dropLast_eq_take,r.length];exact r.take _) (aA (List.length_dropLast▸nA _ _) z)
  exact call_meets F.slot_list_pop (jd x) F.entry_list_pop (F.args_list_pop_1 _) (PySem.MeetsSeq.list_pop_last a items.toArray _ _ (by rw[bM,kX,r.length];exact hcy) (by rw[bM,r.length];exact eS z)) ⟨ho,c T (T.up hvy)⟩
theorem Nw(items:List Value)(cb:Value){j:Nat}(hj:j≤items.length):(let k':=if ((j:Int)<0) then((j:Int)+(items.toArray.size:Int)).toNat else min (j:Int).toNat items.toArray.size;(items.toArray.extract 0 k').push cb++items.toArray.extract k')=(items.take j++cb::items.drop j).toArray:=by
 have h0:¬((j:Int)<0):=kU.mpr (eH j);simp only[h0,if_false,qh,bM,qz hj];apply Array.ext'
 simp
 exact qo (by simp)
theorem Ny{j n:Nat}(hj:j≤n)(z:n≤aJ):¬(!Builtin.List.listFitsIndex (j:Int))=true:=by
 rw[fitsIndex_of (eH j) (v7 (kW.mpr hj) (lO z))];decide
theorem N1{a:Addr}{items:List Value}{k:Int}{j:Nat}{t:Tok}{cv:Value}{R:Value→Shared→Prop}(e:k=j)(x:XL s.heap a items)(hj:j≤items.length)(z:items.length≤aJ)
  (q:∀h',Heap.SameBut a s.heap h'→XL h' a (items.take j++cv::items.drop j)→R .none {s with heap:=h'}):wpAny (model W.prog W.w) A (call (.builtin "list.insert") [.ref a,.int k t,cv]) R F0 s:=by
 obtain⟨ho⟩:=x;have hfit:¬(!Builtin.List.listFitsIndex k)=true:=e▸Ny hj z;refine call_meets F.slot_list_insert (jd ⟨ho⟩) F.entry_list_insert (F.args_list_insert_3 _ _ _) (AutoSeq1.list_insert_list_int_val_1 a items.toArray _ k t cv hfit (by rw[bM];exact eS z)) ⟨ho,?_⟩
 subst e;exact q _ (ji ..) (tA (f:=fun xs=>let k':=if ((j:Int)<0) then((j:Int)+(xs.size:Int)).toNat else min (j:Int).toNat xs.size;(xs.extract 0 k').push cv++xs.extract k') ho (Nw items cv hj))
theorem bu.insert{l:List V}{v:V}{j:Nat}(hc:H[i]?=some (.lst l))(hj:j≤l.length)(z:l.length+1≤aJ):bu W .insert [.obj i,.int j,v] H .none (H.set i (.lst (l.take j++v::l.drop j))):=fun{_ A s _ _ R} K hus c=>
 hus.Ah (P:=fun cus=>Wp W A (call (.builtin "list.insert") cus) R s) fun _ cj cv hu hk hv=>hk.bz (P:=fun ck=>Wp W A (call (.builtin "list.insert") [_,ck,cv]) R s) fun t=>gq K.N hc hu (P:=fun cu=>Wp W A (call (.builtin "list.insert") [cu,_,cv]) R s) fun a items hp x r z'=>
  N1 rfl x (r.length▸hj) (r.length▸z') fun h' hs x'=>c (qI (tk:=s.toks) K.N hp x (lK hs) x' ((r.take j).append (.cons hv (r.drop j))) (by rw[a5,dK,←bP,←a5,List.take_append_drop];exact z)) .of_none
theorem bu.get{kvs:List (Atom×V)}{st:Nat}{k:Atom}{d:V}(hc:H[i]?=some (.dict kvs st)):bu W .eP [.obj i,cG k,d] H ((aR kvs k).getD d) H:=fun{_ A s _ _ R} K hus c=>
 hus.Ah (P:=fun cus=>Wp W A (call (.builtin "dict.get") cus) R s) fun _ ck cd hu hk hd=>jQ K.N hc hu (P:=fun cu=>Wp W A (call (.builtin "dict.get") [cu,ck,cd]) R s) fun a cs hp D r=>
  call_meetsIn vz D.typeIs F.entry_dict_get (F.args_dict_get_3 _ _ _) (meets_dict_get_default (cE W.prog W.w) a (key_is hk) (lC K.wk K.N hp) cd) ⟨_,D.mapOf,c.here K.N ((r.get k).or hd)⟩
theorem bu.Ad{kvs:List (List Atom×V)}{st:Nat}{k:List Atom}{d:V}(hc:H[i]?=some (.aY kvs st)):bu W .eP [.obj i,.tup (k.map cG),d] H ((aR kvs k).getD d) H:=fun{_ A s _ _ R} K hus c=>
 hus.Ah (P:=fun cus=>Wp W A (call (.builtin "dict.get") cus) R s) fun _ ck cd hu hk hd=>s6 hk (P:=fun ck=>Wp W A (call (.builtin "dict.get") [_,ck,cd]) R s) fun ka hki _=>oF K.N hc hu (P:=fun cu=>Wp W A (call (.builtin "dict.get") [cu,_,cd]) R s) fun a cs hp D r=>
  call_meetsIn vz (IG D) F.entry_dict_get (F.args_dict_get_3 _ _ _) (meetsH_dict_get_default (tupleKind (cE W.prog W.w)) a ka (lC K.wk K.N hp) cd) ⟨room K.rm,k,cs,hki,D,c.here K.N (by
   have q:=(r.get k).or hd
   revert q
   cases atKey cs k<;>exact fun q=>q)⟩
theorem QK{μ:Mu}{h:Heap}{a:Atom}{ck:Value}(hv:VR μ h (cG a) ck):(keyPart ck).isSome=true:=by
 cases a
 ·exact hv.bz (P:=fun ck=>(keyPart ck).isSome=true) fun _=>rfl
 ·exact hv.fm (P:=fun ck=>(keyPart ck).isSome=true) fun _=>rfl
theorem bu.fV{kvs:List (Atom×V)}{st:Nat}{k:Atom}{v:V}(hc:H[i]?=some (.dict kvs st))(hv:aR kvs k=some v)(z:kvs.length≤aJ):bu W .fV [.obj i,cG k] H v (H.set i (.dict (nV kvs k) (st+1))):=fun{_ A s _ _ R} K hus c=>
 hus.qJ (P:=fun cus=>Wp W A (call (.builtin "dict.pop") cus) R s) fun _ ck hu hk=>jQ K.N hc hu (P:=fun cu=>Wp W A (call (.builtin "dict.pop") [cu,ck]) R s) fun a cs hp D r=>let ⟨⟨h1,h2⟩⟩:=r.find hv
  call_meetsIn F.slot_dict_pop D.typeIs F.entry_dict_pop (F.args_dict_pop_2 _ _) (meets_dict_pop_there (cE W.prog W.w) a (key_is hk) [] (.inl rfl) (QK hk)) ⟨cs,_,D,r.length▸eS z,h1,fun h' hd' hs=>have T:=IQ K.N hc rfl hp D hs hd' (r.del k);c T (T.up h2)⟩
end
end
theorem Gd:∀{q M:List Int},q.Nodup→(∀x∈q,x∈M)→q.length≤M.length
 | [],M,_,_=>bW _
 |x::q,M,h,hs=>by
  rw[ba] at h;have h1:x∈M:=hs x (.head _);have h2:=Gd (M:=M.erase x) h.2 fun y hy=>(List.mem_erase_of_ne (fun e:y=x=>h.1 (e▸hy))).mpr (hs y (.tail _ hy));rw[BP h1] at h2;exact aA (cI h2) (bS (wV (List.length_pos_of_mem h1)))
noncomputable def pV(e:Int×Value):Int:=match e.2 with
 | .int i _=>i
 |_=>0
theorem F8{α β:Type}(f:α→β):∀(l:List α) (j:Nat),(l.eraseIdx j).map f=(l.map f).eraseIdx j
 | [],_=>rfl
 |_::_,0=>rfl
 |x::l,j+1=>aE (f x::·) (F8 f l j)
theorem TV{q:List Int}{L:List Int}{j:Nat}{k:Int}(hn:q.Nodup)(h:∀x∈q,x∈L)(hl:L.length=q.length)(hj:L[j]?=some k):k∉L.eraseIdx j:=fun hk=>by
 have:=Gd hn (M:=L.eraseIdx j) fun x hx=>(ml (x=k)).elim (fun e=>e▸hk) fun e=>by
  obtain⟨i,hi⟩:=iR.mp (h x hx);exact List.mem_eraseIdx_iff_getElem?.mpr ⟨i,fun q=>e (av (hi.symm.trans (q▸hj))),hi⟩
 rw[List.length_eraseIdx_of_lt (nc hj),hl] at this;exact absurd this (om.mpr (Nat.sub_lt (hl▸bb (bW _) (nc hj)) Nat.one_pos))
theorem xV{α:Type}(xs:Array α)(p:Nat):(SetTable.eraseAt xs p).toList=xs.toList.eraseIdx p:=by
 rw[List.eraseIdx_eq_take_drop_succ];simp [SetTable.eraseAt]
 exact qo (by simp)
theorem pJ{α:Type}(xs:Array α){p:Nat}(h:p<xs.size):(SetTable.eraseAt xs p).size=xs.size-1:=by
 rw[←mh,xV,List.length_eraseIdx_of_lt (by rw[mh];exact h),mh]
theorem N0{α:Type}(xs:Array α)(p:Nat)(x:α):(SetTable.insertAt xs p x).size=xs.size+1:=by
 unfold SetTable.insertAt;rw[Array.size_append,Array.size_push,Array.size_extract,Array.size_extract,Nat.sub_zero,wN,hE,bR (min _ _),Nat.min_comm,Nat.sub_add_min_cancel]
theorem K8{t:SetTable}{n i:Nat}(h:t.fits n=true)(hi:i<n):(t.drop i).fits (n-1)=true:=by
 unfold SetTable.fits at h ⊢;rw[de,dm,l6] at h ⊢;have hp:i<t.place.size:=h.1▸hi;unfold SetTable.drop;rw[Array.getElem?_eq_getElem hp];refine⟨by rw[←h.1];exact pJ _ hp,?_⟩
 have h2:=h.2;unfold SetTable.fill at h2 ⊢
 dsimp only
 rw[pJ _ hp,N0,←bP,hE,wV (Bh hp)];exact h2
section
variable{prog:Program}{w:World}{A:Around}{E:Value→Shared→Prop}{s:Shared}
theorem VX{a:Addr}{k:Int}{t:Tok}{Q:Option Nat→Shared→Prop}{o:Obj}{es:Array (Int×Value)}{ep:Nat}{tb:SetTable}
  (ho:s.heap.get? a=some o) (hd:o.data=.set es ep tb) (hel:ElemsOf (intKind prog w) es.toList) (hb:es.size<scanBound) (hf:tb.fits es.size=true)
  (h:Q (es.toList.findIdx? fun e=>Value.isInt k e.2) s):wpAny (model prog w) A (setFind a (.int k t) (hashInt k)) Q E s:=by
 unfold setFind setFindIn;refine aF (wpAny_setState_of ho hd hf ?_)
 dsimp only
 rw[byScan_of (knd:=intKind prog w) (x:=.int k t) rfl hb hel];simp only[↓reduceIte];refine aF (vo ?_);refine aF (wpAny_setScan_of (knd:=intKind prog w) (k:=k) int_is ho hd hf hel ?_);show wpAny _ _ (match (match es.toList.findIdx? (fun e=>Value.isInt k e.2) with|some j=>ScanMet.found (0+j)|none=>.absent) with| .found i=>_| .absent=>_| .anew=>_) _ _ _
 generalize es.toList.findIdx? (fun e=>Value.isInt k e.2)=r at h
 cases r with
 |none=>exact ae h
 |some j=>dsimp only;rw[cP];exact ae h
theorem pG{l:List (Int×Value)}(hel:ElemsOf (intKind prog w) l){e:Int×Value}(he:e∈l)(k:Int):Value.isInt k e.2=true↔pV e=k:=by
 obtain⟨⟨k₁,h1,_⟩,_⟩:=hel e he;obtain⟨u,e2⟩:=Br h1;unfold pV;rw[e2];exact dm
theorem K4{q:List Int}{L:List (Int×Value)}{j:Nat}{k:Int}(hn:q.Nodup)(qL:∀x,x∈q↔x∈L.map pV)(hl:L.length=q.length)(hkj:(L.map pV)[j]?=some k)(hel:ElemsOf (intKind prog w) L)(k':Int):
  (q.filter (· != k)).contains k'=true↔∃e∈L.eraseIdx j,Value.isInt k' e.2=true:=by
 have notk:=TV hn (fun x hx=>(qL x).mp hx) (by rw[aN];exact hl) hkj
 rw[←F8] at notk;refine(jj (a:=k')).trans (fz.trans ⟨fun⟨h1,h2⟩=>?_,fun⟨e,he,hk⟩=>?_⟩)
 ·obtain⟨e,he,hke⟩:=cg.mp ((qL k').mp h1);obtain⟨i,hi⟩:=iR.mp he;refine⟨e,List.mem_eraseIdx_iff_getElem?.mpr ⟨i,fun z=>lu.mp h2 ?_,hi⟩,(pG hel he k').mpr hke⟩;rw[fI,←z,hi] at hkj;exact hke.symm.trans (av hkj)
 ·have sub:=List.mem_of_mem_eraseIdx he;have hke:=(pG hel sub k').mp hk;exact⟨(qL k').mpr (cg.mpr ⟨e,sub,hke⟩),lu.mpr fun z=>notk (cg.mpr ⟨e,he,hke.trans z⟩)⟩
theorem JX{α:Type}{M:Model}{m:Sem α}{Q:α→Shared→Prop}{E':Value→Shared→Prop}(h:∀E,wpAny M A m Q E s):wpAny M A m Q E' s:=h _
theorem K3{a:Addr}{q:List Int}{k:Int}{t:Tok}{Q:Bool→Shared→Prop}(hS:s.heap.SetOf (intKind prog w) a (fun k=>q.contains k) q.length)(hn:q.Nodup)
  (h:∀h' b,Heap.SameBut a s.heap h'→h'.SetOf (intKind prog w) a (fun k'=>(q.filter (· != k)).contains k') (q.filter (· != k)).length→Q b {s with heap:=h'}):wpAny (model prog w) A (setDiscardHashed a (.int k t) (hashInt k)) Q E s:=by
 obtain⟨o,es,ep,tb,ho,hex,hd,hel,hmem,hb,hf,hsz⟩:=id hS;have qL:∀x,x∈q↔x∈es.toList.map pV:=fun x=>
  (jj (a:=x) (as:=q)).symm.trans ((hmem x).trans ⟨fun⟨e,he,hk⟩=>cg.mpr ⟨e,he,(pG hel he x).mp hk⟩,fun m=>let ⟨e,he,hk⟩:=cg.mp m;⟨e,he,(pG hel he x).mpr hk⟩⟩)
 clear hmem;unfold setDiscardHashed;refine aF (VX ho hd hel hb hf ?_)
 cases hr:List.findIdx? (fun e:Int×Value=>Value.isInt k e.2) es.toList with
 |none=>
  have hk:k∉q:=fun hk=>by
   obtain⟨e,he,hke⟩:=cg.mp ((qL k).mp hk)
   have:=List.findIdx?_eq_none_iff.mp hr e he
   rw[(pG hel he k).mpr hke] at this;cases this
  have hq:q.filter (· != k)=q:=List.filter_eq_self.mpr fun x hx=>lu.mpr fun e=>hk (e▸hx);exact ae (h s.heap false (Heap.SameBut.refl a s.heap) (hq.symm▸hS))
 |some j=>
  dsimp only
  obtain⟨hj,hpj,_⟩:=List.findIdx?_eq_some_iff_getElem.mp hr;have hjs:j<es.size:=mh▸hj;have hkj:(es.toList.map pV)[j]?=some k:=by rw[fI,bh hj];exact aE some ((pG hel (iQ hj) k).mp hpj)
  clear hr hpj;have ho':=kT (Obj.putSet (SetTable.eraseAt es j) (tb.drop j)) ho (by rw[putSet_of _ _ hd];rfl)
  rw[putSet_of _ _ hd] at ho';refine aF (wpAny_setState_of ho hd hf (aF (wpAny_storeSet_of ho hd (aF (wpAny_point (ae (h _ true (ji ..) ⟨_,SetTable.eraseAt es j,ep+1,tb.drop j,ho',hex,rfl,?_,?_,?_,?_,?_⟩)))) (by rw[pJ _ hjs];exact aA (nA _ _) (aA (dk hb) (by decide))))))
  ·exact fun e he=>hel e (List.mem_of_mem_eraseIdx (xV es j▸he))
  ·rw[xV];exact fun k'=>K4 hn qL (by rw[mh];exact hsz) hkj hel k'
  ·rw[pJ _ hjs];exact bb (nA _ _) hb
  ·rw[pJ _ hjs];exact K8 hf hjs
  ·rw[pJ _ hjs,←List.Nodup.erase_eq_filter hn k,BP ((qL k).mpr (dj hkj)),hsz]
theorem KC{a:Addr}{q:List Int}{k:Int}{t:Tok}{Q:Value→Shared→Prop}(hS:s.heap.SetOf (intKind prog w) a (fun k=>q.contains k) q.length)(hn:q.Nodup)
  (h:∀h',Heap.SameBut a s.heap h'→h'.SetOf (intKind prog w) a (fun k'=>(q.filter (· != k)).contains k') (q.filter (· != k)).length→Q .none {s with heap:=h',toks:=s.toks+1}):
  wpAny (model prog w) A (call (.builtin "set.discard") [.ref a,.int k t]) Q E s:=by
 refine me F.slot_set_discard hS.typeIs F.entry_set_discard ?_ (F.args_set_discard_2 _ _);unfold Builtin.«set.discard» Builtin.Frozenset.oneOther;simp only[List.isEmpty_nil,bind_assoc];unfold Builtin.Frozenset.addrOf Builtin.Frozenset.withSetAsKey setDiscard;refine aF (ae ?_)
 try dsimp only
 refine aF (ae ?_)
 try dsimp only
 refine aF (wpAny_tryCatch (JX fun E'=>?_));exact eG (aF ((intKind prog w).pyHash int_is (K3 (s:={s with toks:=s.toks+1}) hS hn fun h' b hs hd=>ae ⟨_,rfl,h h' hs hd⟩)))
end
section
variable{W:Wd}{μ:Mu}{H:AH}{s:Shared}{A:Around}{i:Nat}
theorem bu.discard{q:List Int}{k:Int}(hc:H[i]?=some (.set q)):bu W .discard [.obj i,.int k] H .none (H.set i (.set (q.filter (· != k)))):=fun{_ A s _ _ R} K hus c=>
 hus.qJ (P:=fun cus=>Wp W A (call (.builtin "set.discard") cus) R s) fun _ ck hu hk=>hk.bz (P:=fun ck=>Wp W A (call (.builtin "set.discard") [_,ck]) R s) fun t=>qA K.N hc hu (P:=fun cu=>Wp W A (call (.builtin "set.discard") [cu,_]) R s) fun a hp d n=>
  KC d n fun h' hs hd'=>c (IT K.N hp d hs hd' (n.filter _)) .of_none
theorem JM(q:List Int)(k:Int):(fun k'=>q.contains k'||decide (k'=k))=fun k'=>(if q.contains k then q else q++[k]).contains k':=by
 funext k'
 rw[mi,tF,jj,l6,jj];split
 ·rename_i h;exact⟨fun x=>x.elim id fun e=>e▸jj.mp h,.inl⟩
 ·rw[b6,a6]
theorem JL(q:List Int)(k:Int):(if q.contains k=true then q.length else q.length+1)=(if q.contains k then q else q++[k]).length:=by
 split
 ·rfl
 ·rw[a5];rfl
theorem JN{q:List Int}{k:Int}(n:q.Nodup):(if q.contains k then q else q++[k]).Nodup:=by
 split
 ·exact n
 ·rename_i h;exact eZ.mpr ⟨n,ba.mpr ⟨dM,dF⟩,fun x hx y hy e=>h (jj.mpr (a6.mp hy▸e▸hx))⟩
theorem bu.add{q:List Int}{k:Int}(hc:H[i]?=some (.set q))(z:q.length<4000):bu W .add [.obj i,.int k] H .none (H.set i (.set (if q.contains k then q else q++[k]))):=fun{_ A s _ _ R} K hus c=>
 hus.qJ (P:=fun cus=>Wp W A (call (.builtin "set.add") cus) R s) fun _ ck hu hk=>hk.bz (P:=fun ck=>Wp W A (call (.builtin "set.add") [_,ck]) R s) fun t=>qA K.N hc hu (P:=fun cu=>Wp W A (call (.builtin "set.add") [cu,_]) R s) fun a hp d n=>
  call_set_add int_is rfl d (bb z (by decide)) fun h' hs hd'=>c (IT K.N hp d hs (JM q k▸JL q k▸hd') (JN n)) .of_none
end
theorem Rp:Slot "reversed" "__init__" "object.__init__":=
 .of (owner:="object") (n:="__init__") (by rw[md,lx];kernel_rfl) (by decide+kernel) (by decide+kernel) (by decide+kernel)
  (by first|exact .inl (by decide+kernel)|exact .inr (by decide+kernel)) (by rw[pS];kernel_rfl)
theorem KG:TypeCalled "reversed" "reversed.__new__" "object.__init__":=
 ⟨by decide+kernel,by decide+kernel,⟨_,_,F.mro_reversed⟩,madeBy_type F.mro_reversed F.lookup_reversed_new (by decide+kernel),by decide+kernel,by rw[pS];kernel_rfl,Rp⟩
theorem XF:typeLookup (.type "tuple") "__reversed__"=pure none:=by rw[md,lx];kernel_rfl
theorem zk:Manifest.owners.lookup (String.ofList ['d','e','s','r','e','v','e','r'].reverse)=some Manifest.sig_reversed:=by kernel_rfl
theorem sW:Slot "reversed" "__next__" "reversed.__next__":=
 .of (owner:="reversed") (n:="__next__") (by rw[md,lx];kernel_rfl) (by decide+kernel) (by decide+kernel) (by decide+kernel)
  (by first|exact .inl (by decide+kernel)|exact .inr (by decide+kernel)) (by rw[pS];kernel_rfl)
theorem DM:entryFor table "reversed.__next__"=some Builtin.«reversed.__next__»:=entryFor_of_tree (by kernel_rfl)
theorem CN(a:Value):argsOk "reversed.__next__" ⟨[a],[]⟩:=by
 unfold argsOk;rw[signature?_of (id:="reversed.__next__") (n:=['_','_','t','x','e','n','_','_']) (o:=['d','e','s','r','e','v','e','r']) (by kernel_rfl) zk];kernel_rfl
theorem Hs:Slot "reversed" "__iter__" "reversed.__iter__":=
 .of (owner:="reversed") (n:="__iter__") (by rw[md,lx];kernel_rfl) (by decide+kernel) (by decide+kernel) (by decide+kernel)
  (by first|exact .inl (by decide+kernel)|exact .inr (by decide+kernel)) (by rw[pS];kernel_rfl)
theorem Jb(a:Value):argsOk "reversed.__iter__" ⟨[a],[]⟩:=by
 unfold argsOk;rw[signature?_of (id:="reversed.__iter__") (n:=['_','_','r','e','t','i','_','_']) (o:=['d','e','s','r','e','v','e','r']) (by kernel_rfl) zk];kernel_rfl
theorem LN:entryFor table "reversed.__iter__"=some Builtin.«dict_keyiterator.__iter__»:=
 entryFor_alias (id':="dict_keyiterator.__iter__") (by kernel_rfl) (by first|rfl|decide+kernel|(unfold String.splitOn;simp+decide [String.splitOnAux])) (by decide+kernel) (by kernel_rfl)
noncomputable def sO(l:Addr)(i:Int):Obj:={cls:=.type "reversed",data:=.fields #[.ref l,rawInt i]}
section
variable{prog:Program}{w:World}{A:Around}{E:Value→Shared→Prop}{s:Shared}
theorem sub_tuple_dict:isSubtype (.type "tuple") (.type "dict")=pure false:=by rw[pS];kernel_rfl
theorem EI{l:Addr}{items:Array Value}(h:s.heap.IsTuple l items):s.TypeIs (.ref l) "tuple":=let ⟨o,ho,hc,_⟩:=h;⟨o,ho,hc⟩
theorem VA(l:Addr)(items:Array Value):MeetsIn prog w (Builtin.«reversed.__new__» ⟨[.type "reversed",.ref l],[]⟩)
  (fun _ R s=>s.heap.IsTuple l items∧(items.size:Int)<2 ^ 63∧R (.ok (.ret (.ref s.heap.objs.size))) {s with heap:=s.heap.push (sO l ((items.size:Int)-1)),toks:=s.toks+1+1}):=
 .of_wp fun A R s h=>by
  obtain⟨ht,hz,h⟩:=h;have hT:s.TypeIs (.ref l) "tuple":=EI ht;unfold Builtin.«reversed.__new__»;refine aF (gR (newClass_reversed _) ?_)
  try dsimp only
  refine aF (gR (a:=()) (by first|rfl|kernel_rfl) ?_)
  refine aF (gR (a:=()) (by first|rfl|kernel_rfl) ?_)
  try dsimp only
  refine aF (qT hT XF ?_)
  try dsimp only
  refine aF ?_
  wp_delta
  refine aF (vm hT sub_tuple_dict ?_);rw[aD (by decide)]
  refine aF (qT hT wc.lookup ?_)
  try dsimp only
  rw[aG (by decide+kernel)]
  refine ae ?_;show wpAny _ _ (call (Value.builtin "len") [Value.ref l] >>= _) _ _ _;refine aF (len_tuple (let ⟨o,ho,hc,n,hd⟩:=ht;⟨o,ho,hc,n,hd⟩) hz ?_);refine aF (gR (a:=some (items.size:Int)) rfl ?_);show wpAny _ _ (Builtin.SmallTypes.newRecord (Value.type "reversed") [Value.ref l,rawInt ((items.size:Int)-1)] >>= _) _ _ _;refine aF ?_;unfold Builtin.SmallTypes.newRecord;refine i8 ?_ (by size_fits)
  exact ae ⟨_,rfl,h⟩
theorem XM(a:Value):checkTypeCall "reversed" ⟨[a],[]⟩=pure ():=F.typeCall_reversed_1 a
theorem J9{l:Addr}{items:Array Value}{Q:Value→Shared→Prop}(hl:s.heap.IsTuple l items)(hz:(items.size:Int)<2 ^ 63)
  (h:Q (.ref s.heap.objs.size) {s with heap:=s.heap.push (sO l ((items.size:Int)-1)),toks:=s.toks+1+1}):wpAny (model prog w) A (call (.type "reversed") [.ref l]) Q E s:=
 callType_newIn KG (by decide) (XM _) (F.newCall_reversed_1 _) (fun obj=>F.args_object_init_2 obj _) F.entry_reversed_new (VA l items)
  ⟨hl,hz,⟨_,dW _ rfl,rfl⟩,h⟩
noncomputable def gW(h:Heap)(a l:Addr)(i:Int):Prop:=∃o,h.get? a=some o∧o.cls=.type "reversed"∧o.data=.fields #[.ref l,rawInt i]
theorem gW.typeIs{a l:Addr}{i:Int}(x:gW s.heap a l i):s.TypeIs (.ref a) "reversed":=let ⟨o,ho,hc,_⟩:=x;⟨o,ho,hc⟩
theorem gW.at{h h':Heap}{a l:Addr}{i:Int}(x:gW h a l i)(e:∀o,h.get? a=some o→h'.get? a=some o):gW h' a l i:=let ⟨o,ho,r⟩:=x;⟨o,e _ ho,r⟩
theorem Uj{it l:Addr}{i:Nat}{items:Array Value}{x:Value}{Q:Option Value→Shared→Prop}(hit:gW s.heap it l (i:Int))(hl:s.heap.IsTuple l items)(hx:items[i]?=some x)(hz:items.size≤aJ)
  (hQ:∀h' tk,gW h' it l ((i:Int)-1)→Heap.SameBut it s.heap h'→Q (some x) {s with heap:=h',toks:=tk}):wpAny (model prog w) A (pyNext (.ref it)) Q E s:=by
 obtain⟨o,ho,hc,hd⟩:=id hit;unfold pyNext;refine aF (vl (Ao (name:=Str.ofString "__next__") hit.typeIs sW
  (me sW hit.typeIs DM ?_ (CN _))))
 unfold Builtin.«reversed.__next__»;refine aF (gR (a:=(Value.ref it,[])) rfl ?_)
 try dsimp only
 refine aF (qS ho hd (x:=.ref l) rfl ?_);refine aF (qS ho hd (x:=rawInt (i:Int)) rfl ?_);show wpAny _ _ (if (i:Int)<0 then _ else _) _ _ s
 rw[aD (kU.mpr (eH i))];refine aF (qT (EI hl) wc.lookup ?_);show wpAny _ _ (mkInt (i:Int) >>= _) _ _ s;refine aF (wpAny_mkInt ?_);have hlt:i<items.size:=(Array.getElem?_eq_some_iff.mp hx).1;refine aF (vl (getItem_tuple (j:=i) (x:=x) hl (GS i) (ur hlt hz) (Hh hlt) hx ?_))
 try dsimp only
 refine aF (qS ho hd (x:=rawInt (i:Int)) rfl ?_)
 try dsimp only
 show wpAny _ _ (setField (Value.ref it) 1 (rawInt ((i:Int)-1)) >>= _) _ _ _;refine aF (vp ho hd (by simp) ?_)
 first
 |refine ae ⟨x,rfl,ae (hQ _ _ ?_ (ji ..))⟩
 |refine aF (ae (ae ⟨x,rfl,ae (hQ _ _ ?_ (ji ..))⟩))
 exact⟨_,kT _ ho (Bi (q6 hd _)),(Obj.cls_mapFields ..).trans hc,by
  rw[q6 hd];simp⟩
theorem Ui{it l:Addr}{Q:Option Value→Shared→Prop}(hh:A.handled=none)(hit:gW s.heap it l (-1))
  (hQ:∀h',Heap.ExtBut it s.heap h'→Q none {s with heap:=h'}):wpAny (model prog w) A (pyNext (.ref it)) Q E s:=by
 obtain⟨o,ho,hc,hd⟩:=id hit;unfold pyNext;refine aF (vl (Ao (name:=Str.ofString "__next__") hit.typeIs sW
  (me sW hit.typeIs DM ?_ (CN _))))
 unfold Builtin.«reversed.__next__»;refine aF (gR (a:=(Value.ref it,[])) rfl ?_)
 try dsimp only
 refine aF (qS ho hd (x:=.ref l) rfl ?_);refine aF (qS ho hd (x:=rawInt (-1)) rfl ?_);show wpAny _ _ (if (-1:Int)<0 then _ else _) _ _ s
 rw[aG (by decide)]
 refine aF (vo ?_);refine aF ?_
 wp_delta
 refine aF (vp ho hd (by simp) ?_)
 have ho':=kT (Obj.mapFields (·.set! 1 (rawInt (-1)))) ho (Bi (q6 hd _));have hd':=q6 hd (·.set! 1 (rawInt (-1)));refine vp ho' hd' (by simp) ?_
 refine aF ?_
 first
 |show wpAny _ _ (newExc (.type "StopIteration") [] >>= _) _ _ _
 |(refine aF ?_;show wpAny _ _ (newExc (.type "StopIteration") [] >>= _) _ _ _)
 refine aF ?_;simp only[newExc,newTuple];refine aF (i8 ?_ (by size_fits))
 refine aF (m:=firstArgMember _ _) (gR (a:=Value.none) (by first|rfl|(simp only[firstArgMember];rfl)) ?_)
 refine i8 ?_ (by size_fits)
 refine aF (wpAny_handled ?_)
 first|rw[show A.in1.handled=none from hh]|rw[hh]
 refine aF (ae (wpAny_throw ?_));refine aF (vm (T:="StopIteration") (b:=true) ⟨_,dW _ rfl,rfl⟩ isSubtype_stop ?_);exact ae (hQ _ fun b o hb e=>mq _ (mq _ ((oT _ _ (jJ hb)).trans ((oT _ _ (jJ hb)).trans e))))
theorem HK{it l:Addr}{i:Int}{Q:Value→Shared→Prop}(hit:gW s.heap it l i)(h:Q (.ref it) s):wpAny (model prog w) A (pyIter (.ref it)) Q E s:=by
 refine wpAny_pyIter_slot hit.typeIs Hs (me Hs hit.typeIs LN ?_ (Jb _));show wpAny _ _ (ret (.ref it)) _ _ s;exact ae ⟨_,rfl,"reversed",_,hit.typeIs,sW.lookup,h⟩
end
theorem Xh{prog:Program}{w:World}{A:Around}(hh:A.handled=none)(I l:Addr)(hne:l≠I)(items:List Value)(hz:items.length≤aJ):
  Walks prog w A I [I,l] [I] items.reverse.length (fun i v=>items.reverse[i]?=some v) (fun i h=>i≤items.length∧gW h I l ((items.length:Int)-1-(i:Int))∧h.IsTuple l items.toArray) where
 sub:=fun b hb=>by simp at hb;simp [hb]
 frame:=fun _ _ _ x hk=>⟨x.1,x.2.1.at fun o e=>hk I (by simp) o e,(let ⟨o,ho,r⟩:=x.2.2;⟨o,hk l (by simp) o ho,r⟩)⟩
 item:=fun i s Q E hi x hQ=>by
  rw[jk] at hi;have e:(items.length:Int)-1-(i:Int)=((items.length-1-i:Nat):Int):=by omega
  have hit:=x.2.1;rw[e] at hit;have hx:items.toArray[items.length-1-i]?=some (items[items.length-1-i]'(by omega)):=by simp
  refine Uj hit x.2.2 hx (by simpa using hz) fun h' tk hit' hs'=>?_
  have e2:((items.length-1-i:Nat):Int)-1=(items.length:Int)-1-((i+1:Nat):Int):=by omega
  rw[e2] at hit';exact hQ _ h' tk (by rw[List.getElem?_reverse hi];simpa using hx) ⟨hi,hit',(let ⟨o,ho,r⟩:=x.2.2;⟨o,(hs'.2 l hne).trans ho,r⟩)⟩ fun b o hb eo=>hs'.extBut b o (fun h=>hb (by simp [h])) eo
 done:=fun s Q E x hQ=>by
  have hit:=x.2.1;rw[jk] at hit;have e:(items.length:Int)-1-(items.length:Int)=-1:=by omega
  rw[e] at hit;exact Ui hh hit fun h' he'=>hQ h' s.toks fun b o hb eo=>he' b o (fun h=>hb (by simp [h])) eo
 self:=fun _ _ _ _ x hQ=>HK x.2.1 hQ
section
variable{prog:Program}{w:World}{A:Around}{E:Value→Shared→Prop}{s:Shared}
end
section
variable{prog:Program}{w:World}{A:Around}{E:Value→Shared→Prop}{s:Shared}
theorem DQ{I:Addr}{fp wr:List Addr}{outs:List Value}{St:Nat→Heap→Prop}{R:Result→Shared→Prop}(W:Walks prog w A.in1 I fp wr outs.length (fun i v=>outs[i]?=some v) St)(S:Addr)(hSf:S∉fp)(res:Value):
  ∀(k i:Nat) (s:Shared) (acc:List Value),outs.length-i=k→i≤outs.length→St i s.heap→XL s.heap S acc→acc.length+k≤aJ→
  (∀h' tk,XL h' S (acc++outs.drop i)→(∀b o,b∉S::wr→s.heap.get? b=some o→h'.get? b=some o)→R (.ok (.ret res)) {s with heap:=h',toks:=tk})→
  codeAny (model prog w) A (.builtin "list.extend.loop" ⟨[.ref S,.ref I,res],[]⟩) R s:=by
 have sz:=AM;have hSw:S∉wr:=fun h=>hSf (W.sub _ h);intro k
 induction k with
 |zero=>
  intro i s acc hk hi hst hS hz hR;have hin:i=outs.length:=by omega
  subst hin;refine codeAny_builtin F.entry_extend_loop ?_;rw[Around.under_plainId tK _];show wpAny _ A.in1 (pyNext (.ref I) >>= _) _ _ s;refine aF (W.done s _ _ hst fun h' tk hm=>?_);exact ae (hR h' tk (by rw[BG,eY];exact hS.at fun o e=>hm S o hSw e) fun b o hb e=>hm b o (fun q=>hb (.tail _ q)) e)
 |succ k ih=>
  intro i s acc hk hi hst hS hz hR;have hlt:i<outs.length:=by omega
  refine codeAny_builtin F.entry_extend_loop ?_;rw[Around.under_plainId tK _];show wpAny _ A.in1 (pyNext (.ref I) >>= _) _ _ s;refine aF (W.item i s _ _ hlt hst fun v h' tk hP hst' hm=>?_);obtain⟨hS⟩:=hS;have hS':=hm S _ hSw hS;show wpAny _ A.in1 (updateSeq S (·.push v) >>= _) _ _ _;refine aF ?_;have hS2:=kT (Obj.mapSeq (·.push v)) hS' rfl;refine Aq hS' rfl (ae ⟨plainId_quiet tK _,ih (i+1) _ (acc++[v]) (by omega) hlt (W.frame _ _ _ hst' fun b hb o e=>?_) (tA (f:=(·.push v)) hS' (BS acc v)) (by rw[a5];exact aA (bS (hE ..)) hz) fun h'' tk' hS'' hm''=>?_⟩)
   (by rw[bM];omega) (by rw[Array.size_push,bM];omega)
  ·exact(oT _ _ (fun h:S=b=>hSf (by rw[h];exact hb))).trans e
  ·refine hR h'' tk' ?_ fun b o hb e=>hm'' b o hb ?_
   ·have:outs.drop i=v::outs.drop (i+1):=by
     have h1:=List.drop_eq_getElem_cons hlt;have h2:outs[i]=v:=by
      have:=bh hlt
      rw[hP] at this;exact(av this).symm
     rw[h1,h2]
    rw[this];rw[dX] at hS'';exact hS''
   ·exact(oT _ _ (fun h:S=b=>hb (by rw[h];exact m6))).trans (hm b o (fun q=>hb (.tail _ q)) e)
theorem U9:typeLookup (.type "reversed") "__len__"=pure none:=by rw[md,lx];kernel_rfl
theorem AO:Slot "reversed" "__length_hint__" "reversed.__length_hint__":=
 .of (owner:="reversed") (n:="__length_hint__") (by rw[md,lx];kernel_rfl) (by decide+kernel) (by decide+kernel) (by decide+kernel)
  (by first|exact .inl (by decide+kernel)|exact .inr (by decide+kernel)) (by rw[pS];kernel_rfl)
theorem LM:entryFor table "reversed.__length_hint__"=some Builtin.«reversed.__length_hint__»:=entryFor_of_tree (by kernel_rfl)
theorem Ja(a:Value):argsOk "reversed.__length_hint__" ⟨[a],[]⟩:=by
 unfold argsOk;rw[signature?_of (id:="reversed.__length_hint__") (n:=['_','_','t','n','i','h','_','h','t','g','n','e','l','_','_']) (o:=['d','e','s','r','e','v','e','r']) (by kernel_rfl) zk];kernel_rfl
theorem V6:isSubtype (.type "reversed") (.type "reversed")=pure true:=F.sub_reversed_self
theorem J8{it l:Addr}{items:Array Value}{Q:Value→Shared→Prop}(hit:gW s.heap it l ((items.size:Int)-1))(hl:s.heap.IsTuple l items)(hz:(items.size:Int)<2 ^ 63)
  (h:∀t tk,Q (.int (items.size:Int) t) {s with toks:=tk}):wpAny (model prog w) A (call (.builtin "reversed.__length_hint__") [.ref it]) Q E s:=by
 obtain⟨o,ho,hc,hd⟩:=id hit;refine me AO hit.typeIs LM ?_ (Ja _);unfold Builtin.«reversed.__length_hint__»;refine aF (gR (a:=Value.ref it) rfl ?_);refine aF (qS ho hd (x:=.ref l) rfl ?_);rw[aD (show ¬((Value.ref l == Value.none)=true) from ax)]
 refine aF (len_tuple (let ⟨o,ho,hc,n,hd⟩:=hl;⟨o,ho,hc,n,hd⟩) hz ?_);refine aF (gR (a:=some (items.size:Int)) rfl ?_)
 try dsimp only
 refine aF (qS (s:={s with toks:=s.toks+1+1}) ho hd (x:=rawInt ((items.size:Int)-1)) rfl ?_);show wpAny _ _ (if (items.size:Int)<(items.size:Int)-1+1 then _ else _) _ _ _
 rw[aD (by omega)]
 show wpAny _ _ (retInt _) _ _ _;unfold retInt;refine aF (wpAny_mkInt (ae ⟨_,rfl,?_⟩));rw[show(items.size:Int)-1+1=(items.size:Int) by omega]
 exact h _ _
theorem ze{S I l:Addr}(h1:S≠I)(h2:S≠l):S∉[I,l]:=fun m=>(a8.mp m).elim h1 fun m=>h2 (a6.mp m)
theorem Gg{b S I:Addr}(h1:b≠S)(h2:b≠I):b∉[S,I]:=ze h1 h2
theorem Hd{S I:Addr}(h:S≠I):Builtin.List.listSameRef (.ref S) (.ref I)=false:=by unfold Builtin.List.listSameRef;simpa using h
theorem LW{Q:Fin→Shared→Prop}{E:Value→Shared→Prop}{S I l:Addr}{acc items:List Value}{res:Value}(hS:XL s.heap S acc)(hit:gW s.heap I l ((items.length:Int)-1))(hl:s.heap.IsTuple l items.toArray)
  (hSI:S≠I) (hz:acc.length+items.length≤aJ)
  (hq:∀h' tk,XL h' S acc→(∀b o,b≠S→s.heap.get? b=some o→h'.get? b=some o)→Q (.again (.builtin "list.extend.loop" ⟨[.ref S,.ref I,res],[]⟩)) {s with heap:=h',toks:=tk}):
  wpAny (model prog w) A.in1 (Builtin.List.listExtendWith (.ref S) (.ref I) res) Q E s:=by
 have hT:=hit.typeIs;have hn:items.length≤aJ:=aA (b9 _ _) hz;unfold Builtin.List.listExtendWith;refine aF (wpAny_typeOf hT ?_);rw[aD (by rw[Hd hSI];decide)]
 refine aF (HK hit ?_);refine aF (eG ?_);unfold Builtin.List.listLengthHint;refine aF (qT hT U9 ?_);show wpAny _ A.in1 (specialOf (Value.ref I) (Str.ofString "__length_hint__") >>= _) _ _ _;refine aF (qT hT AO.lookup ?_);generalize hid:("reversed.__length_hint__":String)=id0
 wp_delta
 rw[show splitId id0=some ("reversed","__length_hint__") from by subst hid;decide+kernel]
 subst hid;refine aF (vm (b:=true) hT V6 ?_);rw[aD (by decide)]
 dsimp only
 rw[aD (by decide+kernel)]
 refine aF (vo ?_);refine aF (gR (AO.bind _) ?_)
 dsimp only
 have hsz:(items.toArray.size:Int)=(items.length:Int):=by rw[bM]
 refine aF (vl (J8 (items:=items.toArray) (hsz.symm▸hit) hl (hsz▸lO hn) fun t tk=>?_))
 dsimp only
 rw[hsz];have hneg:¬((items.length:Int)<0):=kU.mpr (eH _);have hlong:¬Builtin.List.listTooLong (items.length:Int).toNat=true:=by
  unfold Builtin.List.listTooLong;rw[l6,qh];exact fL.mpr (aA hn (by decide))
 have hfit:Builtin.List.listFitsIndex (items.length:Int)=true:=fitsIndex_of (eH _) (lO hn);generalize (items.length:Int)=z at hfit hneg hlong;refine aF (gR (a:=some z) rfl ?_)
 dsimp only
 rw[aD (by rw[hfit];decide),aD hneg,aD hlong]
 refine ae ?_;by_cases h0:z=0
 ·rw[h0];rw[aD (by decide+kernel)]
  exact ae (hq s.heap tk hS fun b o _ e=>e)
 ·rw[show(z != 0)=true from lu.mpr h0]
  rw[aG (by decide+kernel)]
  refine aF (vo (aF ?_));have hlen:acc.toArray.size≤aJ:=by rw[bM];exact aA (aT _ _) hz
  have hlen1:(acc.toArray.push Value.none).size≤sizeLine:=by rw[Array.size_push];exact aA (cI hlen) (by decide)
  obtain⟨hS⟩:=hS;show wpAny _ A.in1 (updateSeq S (·.push .none) >>= fun _=>updateSeq S (·.pop)) _ _ _;refine aF (Aq hS rfl ?_ (eS hlen) (eI hlen1));have hS₂:=kT (Obj.mapSeq (·.push Value.none)) hS rfl;refine Aq hS₂ rfl ?_ hlen1 (by rw[Array.pop_push];exact eI (eS hlen))
  have hS₃:=kT (Obj.mapSeq (·.pop)) hS₂ rfl;exact ae (hq _ tk ⟨hS₃.trans (aE some (by unfold Obj.mapSeq;dsimp only;rw[Array.pop_push]))⟩ fun b o hb e=>(oT _ _ (jJ hb)).trans ((oT _ _ (jJ hb)).trans e))
theorem LY(hh:A.handled=none){S I l:Addr}{acc items:List Value}{res:Value}{R:Result→Shared→Prop}(hS:XL s.heap S acc)(hit:gW s.heap I l ((items.length:Int)-1))(hl:s.heap.IsTuple l items.toArray)
  (hSI:S≠I) (hSl:S≠l) (hlI:l≠I) (hz:acc.length+items.length≤aJ)
  (hR:∀h' tk,XL h' S (acc++items.reverse)→(∀b o,b≠S→b≠I→s.heap.get? b=some o→h'.get? b=some o)→R (.ok (.ret res)) {s with heap:=h',toks:=tk}):
  wpAny (model prog w) A.in1 (Builtin.List.listExtendWith (.ref S) (.ref I) res)
   (fun fin s'=>match fin with| .done f=>R (.ok f) s'| .again c'=>c'.quiet=true∧codeAny (model prog w) A c' R s') (fun e s'=>R (.error e) s') s:=
 LW hS hit hl hSI hz fun h₁ tk hS₁ hk₁=>⟨plainId_quiet tK _,
  DQ (Xh (prog:=prog) (w:=w) (A:=A.in1) hh I l hlI items (aA (b9 _ _) hz)) S (ze hSI hSl) res items.reverse.length 0 _ acc rfl (bW _)
   ⟨bW _,by rw[Int.natCast_zero,Int.sub_zero];exact hit.at fun o e=>hk₁ _ o (jJ hSI) e,(let ⟨o,ho,r⟩:=hl;⟨o,hk₁ l o (jJ hSl) ho,r⟩)⟩ hS₁ (by rw[jk];exact hz) fun h' tk' hS' hk'=>
  hR h' tk' hS' fun b o h1 h2 e=>hk' b o (Gg h1 h2) (hk₁ b o h1 e)⟩
theorem Ru:typeLookup (.type "list_reverseiterator") "__len__"=pure none:=by rw[md,lx];kernel_rfl
theorem Rt:typeLookup (.type "list_reverseiterator") "__length_hint__"=pure (some (.builtin "list_reverseiterator.__length_hint__")):=by rw[md,lx];kernel_rfl
theorem LX(hh:A.handled=none){S I l:Addr}{acc items:List Value}{res:Value}{R:Result→Shared→Prop}(hS:XL s.heap S acc)(hit:s.heap.IsRevIter I l ((items.length:Int)-1))(hl:s.heap.IsList l items.toArray)
  (hSI:S≠I) (hSl:S≠l) (hlI:l≠I) (hz:acc.length+items.length≤aJ)
  (hR:∀h' tk,XL h' S (acc++items.reverse)→(∀b o,b≠S→b≠I→s.heap.get? b=some o→h'.get? b=some o)→R (.ok (.ret res)) {s with heap:=h',toks:=tk}):
  wpAny (model prog w) A.in1 (Builtin.List.listExtendWith (.ref S) (.ref I) res)
   (fun fin s'=>match fin with| .done f=>R (.ok f) s'| .again c'=>c'.quiet=true∧codeAny (model prog w) A c' R s') (fun e s'=>R (.error e) s') s:=by
 have hT:=hit.typeIs;unfold Builtin.List.listExtendWith;refine aF (wpAny_typeOf hT ?_);rw[aD (by rw[Hd hSI];decide)]
 refine aF (wpAny_pyIter_revIter hit ?_);refine aF (eG ?_);unfold Builtin.List.listLengthHint;refine aF (qT hT Ru ?_);show wpAny _ A.in1 (specialOf (Value.ref I) (Str.ofString "__length_hint__") >>= _) _ _ _;refine aF (qT hT Rt ?_);generalize hid:("list_reverseiterator.__length_hint__":String)=id0
 wp_delta
 rw[show splitId id0=some ("list_reverseiterator","__length_hint__") from by subst hid;decide+kernel]
 subst hid;refine aF (vm (b:=true) hT (by rw[pS];kernel_rfl) ?_)
 refine ae ?_;rw[aD (by decide)]
 have W0:=Walks.listRev (prog:=prog) (w:=w) (A:=A.in1) hh I l hlI items.toArray;have W:Walks prog w A.in1 I [I,l] [I] items.reverse.length (fun i v=>items.reverse[i]?=some v) (fun i h=>i≤items.toArray.size∧h.IsRevIter I l ((items.toArray.size:Int)-1-(i:Int))∧h.IsList l items.toArray):=by
  have e:items.toArray.size=items.reverse.length:=by simp
  refine⟨W0.sub,W0.frame,fun i s Q E hi st hQ=>W0.item i s Q E (by rw[e];exact hi) st fun v h' tk hP=>hQ v h' tk ?_,fun s Q E st hQ=>W0.done s Q E (by rw[e];rw[←e];simpa using st) hQ,W0.self⟩
  rw[jk] at hi;rw[List.getElem?_reverse hi]
  simpa using hP
 refine ae ⟨plainId_quiet tK _,DQ W S (ze hSI hSl) res items.reverse.length 0 _ acc rfl (bW _) ⟨bW _,by simpa using hit,hl⟩ hS (by rw[jk];exact hz) fun h' tk' hS' hk'=>hR h' tk' hS' fun b o h1 h2 e=>hk' b o (Gg h1 h2) e⟩
end
section
variable{prog:Program}{w:World}{A:Around}{E:Value→Shared→Prop}{s:Shared}
theorem J6{Q:Value→Shared→Prop}(hh:A.handled=none){I l:Addr}{items:List Value}(hit:s.heap.IsRevIter I l ((items.length:Int)-1))(hl:s.heap.IsList l items.toArray)(hlI:l≠I)(hz:items.length≤aJ)
  (hQ:∀h' tk,(∀b o,b≠I→s.heap.get? b=some o→h'.get? b=some o)→XL h' s.heap.objs.size items.reverse→Q (.ref s.heap.objs.size) {s with heap:=h',toks:=tk}):
  wpAny (model prog w) A (call (.type "list") [.ref I]) Q E s:=by
 refine callType_codes (Q₁:=fun obj s₁=>obj=.ref s.heap.objs.size∧s₁={s with heap:=s.heap.push {cls:=.type "list",data:=.seq #[]}}) F.called_list (F.typeCall_list_1 _) F.entry_list_init
  (code_list_new _ ⟨rfl,rfl⟩) fun obj s₁ h₁=>?_
 obtain⟨rfl,rfl⟩:=h₁;have hS:(s.heap.push {cls:=.type "list",data:=.seq #[]}).get? s.heap.objs.size=some {cls:=.type "list",data:=.seq #[]}:=dW _ rfl;refine⟨⟨_,hS,rfl⟩,F.args_list_init_2 _ _,?_⟩;show wpAny _ _ (do let old ←Builtin.List.listItems (.ref s.heap.objs.size);Builtin.List.listUpdate (.ref s.heap.objs.size) (fun _=>#[]);letGo old.toList.reverse;Builtin.List.listExtendWith (.ref s.heap.objs.size) (.ref I) .none) _ _ _;refine aF ?_;unfold Builtin.List.listItems;refine aF (wpAny_seqItems hS rfl (ae ?_));show wpAny _ _ (updateSeq s.heap.objs.size (fun _=>#[]) >>= fun _=>letGo (#[]:Array Value).toList.reverse >>= fun _=>Builtin.List.listExtendWith (.ref s.heap.objs.size) (.ref I) .none) _ _ _;refine aF (Aq hS rfl ?_);have hS₂:=kT (Obj.mapSeq (fun _=>(#[]:Array Value))) hS rfl;have oth:∀b o,s.heap.get? b=some o→((s.heap.push {cls:=.type "list",data:=.seq #[]}).update s.heap.objs.size (Obj.mapSeq (fun _=>(#[]:Array Value)))).get? b=some o:=
  fun b o e=>(oT _ _ (eb (gE e))).trans (mq _ e)
 refine aF (wpAny_letGo ?_);obtain⟨oi,hoi,hi1,hi2⟩:=id hit;obtain⟨ol,hol,hl1⟩:=id hl;refine LX (A:=A.in1) (acc:=[]) hh ⟨hS₂⟩ ⟨oi,oth _ _ hoi,hi1,hi2⟩ ⟨ol,oth _ _ hol,hl1⟩ (eb (gE hoi)) (eb (gE hol)) hlI (by rw[lX,cP];exact hz) fun h' tk hX hk=>⟨rfl,hQ h' tk (fun b o hb e=>hk b o (eB (gE e)) hb (oth b o e)) hX⟩
theorem J5{Q:Value→Shared→Prop}(hh:A.handled=none){S I l:Addr}{acc items:List Value}(hS:XL s.heap S acc)(hit:gW s.heap I l ((items.length:Int)-1))(hl:s.heap.IsTuple l items.toArray)
  (hSI:S≠I) (hSl:S≠l) (hlI:l≠I) (hz:acc.length+items.length≤aJ)
  (hQ:∀h' tk,XL h' S (acc++items.reverse)→(∀b o,b≠S→b≠I→s.heap.get? b=some o→h'.get? b=some o)→Q .none {s with heap:=h',toks:=tk}):
  wpAny (model prog w) A (call (.builtin "list.extend") [.ref S,.ref I]) Q E s:=by
 refine wpAny_call (codeAny_call_builtin A2.plain F.entry_list_extend (A2.check _ _ _ _ _ _ _ _ (jd hS) (F.args_list_extend_2 _ _) ?_));unfold Builtin.«list.extend»;refine aF (gR (a:=(Value.ref S,Value.ref I)) (by rfl) ?_)
 exact LY (R:=wants Q E) hh hS hit hl hSI hSl hlI hz fun h' tk hX hk=>hQ h' tk hX hk
end
section
variable{prog:Program}{w:World}{A:Around}{E:Value→Shared→Prop}{s:Shared}
inductive IntKeys:List (Atom×Value)→List Int→Prop
 |nil:IntKeys [] []
 |cons {n:Int} {x:Value} {r:List (Atom×Value)} {l:List Int}:IntKeys r l→IntKeys ((.int n,x)::r) (n::l)
theorem N6{cv:List (Atom×Value)}{ns:List Int}(h:IntKeys cv ns):∀{vs:List Value},vs.length=cv.length→(∀(j:Nat) (v:Value),vs[j]?=some v→∃k x,cv[j]?=some (k,x)∧(cE prog w).is k v=true)→IntsAre vs ns:=by
 induction h with
 |nil=>intro vs h _;rw[lW.mp h];exact .nil
 |@cons n x r l _ ih=>
  intro vs h1 h3
  cases vs with
  |nil=>cases h1
  |cons v vs=>
   obtain⟨k,y,e1,e2⟩:=h3 0 v rfl;have e1:=aE Prod.fst (av e1)
   dsimp only at e1
   subst e1;obtain⟨t,e3⟩:=Br (show Value.isInt n v=true from e2)
   exact e3▸.cons n t (ih (oq h1) fun j u hu=>h3 (j+1) u hu)
theorem KD{Q:Value→Shared→Prop}(hh:A.handled=none){d:Addr}(hsm:(d == sysModules)=false){cv:List (Atom×Value)}(hd:s.heap.DictOf (cE prog w) d cv){ns:List Int}
  (hns:IntKeys cv ns) (h64:cv.length<64)
  (h:∀h' tk a vs,(∀b o,s.heap.get? b=some o→h'.get? b=some o)→s.heap.get? a=none→XL h' a vs→IntsAre vs (oD ns)→Q (.ref a) {s with heap:=h',toks:=tk}):
  wpAny (model prog w) A (call (.builtin "sorted") [.ref d]) Q E s:=by
 have hml:sizeLine=2 ^ 24:=rfl;obtain⟨ep,hat⟩:=hd.dictAt;refine Calls.call_function_entry kind_sorted plain_sorted entry_sorted (args_sorted1 _) ?_;unfold Builtin.«sorted»;refine aF (m:=checkCount "sorted" 1 1 _) (ae ?_);refine aF (kdu_collect (A:=A.in1) (kdl_dict (knd:=cE prog w) (kvs:=cv) (ep:=ep) hsm) hh hat (by omega) fun h' tk acc hk hacc=>?_)
 have hl:acc.toList.length=cv.length:=by rw[mh];exact hacc.1
 have hI:IntsAre acc.toList ns:=N6 hns hl fun j v e=>hacc.2 j v (by rw[←Array.getElem?_toList];exact e)
 refine aF (wpAny_newList ?_ (by rw[hl];omega))
 have hoL:(h'.push {cls:=.type "list",data:=.seq acc.toList.toArray}).get? h'.objs.size=some (seqObj "list" acc.toList.toArray 0):=dW _ rfl;refine aF (eG (me slot_list_sort ⟨_,hoL,rfl⟩ entry_list_sort (list_sort_tree hoL hI (by rw[hl];exact h64) fun out ns' a1 a2 a3=>⟨_,rfl,?_⟩) (args_list_sort _)))
 obtain⟨e,he⟩:=sortedHeap_at (out:=out) hoL;have hns':ns'=oD ns:=by
  refine List.Perm.eq_of_pairwise (le:=(·≤·)) (fun a b _ _ h1 h2=>Int.le_antisymm h1 h2) a3 ?_ (a2.trans (List.mergeSort_perm ..).symm)
  have:=List.pairwise_mergeSort (le:=fun a b:Int=>decide (a≤b)) (fun a b c h1 h2=>by simp at*;omega) (fun a b=>by simp;omega) ns
  exact this.imp fun h=>c6 h
 refine ae ⟨_,rfl,h _ _ h'.objs.size out.toList (fun b o eo=>?_) (pO hk) ⟨he⟩ (hns'▸a1)⟩;have hb:b<h'.objs.size:=gE (hk b o eo);rw[sortedHeap_old (eB hb) (by rw[tL];exact wL hb)]
 exact mq _ (hk b o eo)
end
section
variable{W:Wd}{μ:Mu}{H:AH}{s:Shared}{A:Around}{i:Nat}
noncomputable def q9(W:Wd)(u v:V)(H H':AH):Prop:=∀{n:Nat} {A:Around} {s:Shared} {μ:Mu} {cu:Value} {R:Value→Shared→Prop},Ok W n A μ H s→VR μ s.heap u cu→Kc W μ s H' v R→Wp W A (call (.type "reversed") [cu]) (fun I s₁=>Wp W A (call (.type "list") [I]) R s₁) s
theorem HU(xs:List Value):((xs.toArray.size:Nat):Int)-1=(xs.length:Int)-1:=by rw[bM]
theorem q9.lst{l:List V}{u v:V}{H':AH}(hl:IsL H l u)(q:LR l.reverse H v H'):q9 W u v H H':=fun{_ A s _ _ R} K hu c=>
 hl.at K.N hu (P:=fun cu=>Wp W A (call (.type "reversed") [cu]) (fun I s₁=>Wp W A (call (.type "list") [I]) R s₁) s) fun x xs hx r z=>by
  obtain⟨hx'⟩:=id hx;refine call_reversed_list hx.is ?_;rw[HU];have ho:(s.heap.push (revObj x ((xs.length:Int)-1))).get? s.heap.objs.size=some (revObj x ((xs.length:Int)-1)):=dW _ rfl;refine J6 (s:={s with heap:=s.heap.push (revObj x ((xs.length:Int)-1))}) K.rm.hd ⟨_,ho,rfl,rfl⟩ ⟨_,b8 _ _ _ _ hx',rfl,_,rfl⟩ (eB (gE hx')) (r.length▸z) fun h' tk hk hX=>?_;refine lD (s:=s) (tk:=tk) q K.N r.rev (jk.symm▸z) (fun b o e=>hk b o (eB (gE e)) (b8 _ _ b o e)) ?_ hX c
  cases e:s.heap.get? (s.heap.push (revObj x ((xs.length:Int)-1))).objs.size with
  |none=>rfl
  |some o=>
   have h1:=gE e;rw[tL] at h1;exact absurd h1 (fL.mpr (cB _))
noncomputable def kg(W:Wd)(u x:V)(H H':AH):Prop:=∀{n:Nat} {A:Around} {s:Shared} {μ:Mu} {cu cx:Value} {R:Value→Shared→Prop},Ok W n A μ H s→VR μ s.heap u cu→VR μ s.heap x cx→Kc W μ s H' .none R→Wp W A (call (.type "reversed") [cx]) (fun I s₁=>Wp W A (call (.builtin "list.extend") [cu,I]) R s₁) s
noncomputable def nH(W:Wd)(u:V)(H:AH):Prop:=∀{μ:Mu} {s:Shared} {cu:Value},aW W μ H s.heap→VR μ s.heap u cu→BM s cu "extend" "list.extend"
theorem nH.lst{l:List V}(hc:H[i]?=some (.lst l)):nH W (.obj i) H:=fun{_ s _} N hu=>gq N hc hu (P:=fun c=>BM s c _ _) fun _ _ _ x _ _=>.of x.obj vy A2 F.type_list_extend
theorem kg.tup{l r:List V}(hc:H[i]?=some (.lst l))(z:l.length+r.length≤aJ):kg W (.obj i) (.tup r) H (H.set i (.lst (l++r.reverse))):=fun{_ A s _ cu cx R} K hu hx c=>
 gq K.N hc hu (P:=fun cu=>Wp W A (call (.type "reversed") [cx]) (fun I s₁=>Wp W A (call (.builtin "list.extend") [cu,I]) R s₁) s) fun x items hp hl hv _=>
 hx.fq (P:=fun cx=>Wp W A (call (.type "reversed") [cx]) (fun I s₁=>Wp W A (call (.builtin "list.extend") [.ref x,I]) R s₁) s) fun y ys ny hy zy hys=>by
  obtain⟨hx'⟩:=id hl;obtain⟨hy'⟩:=id hy;refine J9 hy.is (by rw[bM,hys.length];exact lO zy) ?_
  rw[HU];have ho:(s.heap.push (sO y ((ys.length:Int)-1))).get? s.heap.objs.size=some (sO y ((ys.length:Int)-1)):=dW _ rfl;refine J5 (s:={s with heap:=s.heap.push (sO y ((ys.length:Int)-1)),toks:=s.toks+1+1}) K.rm.hd (acc:=items) (items:=ys) ⟨b8 _ _ _ _ hx'⟩ ⟨_,ho,rfl,rfl⟩ ⟨_,b8 _ _ _ _ hy',rfl,_,rfl⟩
   (eB (gE hx')) (fun q=>ny (q▸uQ hp)) (eB (gE hy')) (by rw[hv.length,hys.length];exact z) fun h' tk hX hk=>?_
  exact c (qI (tk:=tk) K.N hp hl (fun b o hb e=>hk b o hb (eB (gE e)) (b8 _ _ b o e)) hX (hv.append hys.rev) (by rw[a5,jk];exact z)) .of_none
theorem PR.ints{h:Heap}:∀{kvs:List (Atom×V)} {ns:List Int} {cs:List (Atom×Value)},PR μ h kvs cs→kvs.map (·.1)=ns.map Atom.int→IntKeys cs ns
 | [],[],_,.nil,_=>.nil
 |_::_,_::_,_,.cons (k:=k) _ x,e=>by
  have e1:k=_:=(oV e).1;subst e1;exact .cons (PR.ints x (oV e).2)
theorem N8{h:Heap}{vs:List Value}{ns:List Int}(x:IntsAre vs ns):aM μ h (ns.map V.int) vs:=by
 induction x with
 |nil=>exact .nil
 |cons n t _ ih=>exact .cons .e7 ih
theorem JE.dict{st:Nat}{kvs:List (Atom×V)}{ns:List Int}{v:V}{H':AH}(hc:H[i]?=some (.dict kvs st))(hn:kvs.map (·.1)=ns.map Atom.int)(h64:kvs.length<64)(q:LR ((oD ns).map V.int) H v H'):P1 W (.obj i) v H H' (fun a=>call (.builtin "sorted") [a]):=fun{_ A s _ _ R} K hu c=>
 jQ K.N hc hu (P:=fun cu=>Wp W A (call (.builtin "sorted") [cu]) R s) fun _ _ hp d r=>KD K.rm.hd (lC K.wk K.N hp) d (r.ints hn) (r.length▸h64) fun h' tk a vs hk hnw hX hI=>
  lD q K.N (N8 hI) (by
   have e:=aE List.length hn;rw[aN,aN] at e;rw[aN];unfold oD;rw[List.length_mergeSort,←e];exact dk (iU h64 (by decide))) hk hnw hX c
end
theorem dig{n m c d:Nat}(hc:c<256)(hd:d<256)(h:n*256+c=m*256+d):n=m∧c=d:=by
 have h1:(256*n+c) / 256=(256*m+d) / 256:=aE (· / 256) (wQ n 256▸wQ m 256▸h);have h2:(256*n+c) % 256=(256*m+d) % 256:=aE (· % 256) (wQ n 256▸wQ m 256▸h);rw[Nat.mul_add_div (by decide),Nat.mul_add_div (by decide),Nat.div_eq_of_lt hc,Nat.div_eq_of_lt hd] at h1
 rw[Nat.mul_add_mod,Nat.mul_add_mod,Nat.mod_eq_of_lt hc,Nat.mod_eq_of_lt hd] at h2;exact⟨h1,h2⟩
noncomputable def nM:List Nat→Nat
 | []=>1
 |c::r=>nM r*256+c
theorem Cm:∀(l:List Nat),1≤nM l
 | []=>ai _
 |c::r=>aA (Cm r) (aA (Ba _ (by decide)) (aT _ _))
theorem Cj(c:Nat)(r:List Nat):1≠nM (c::r):=eB (bj (by decide:1<1*256) (aA (Nat.mul_le_mul_right 256 (Cm r)) (aT _ _)))
theorem Ci:∀(l r:List Nat),(∀c∈l,c<256)→(∀c∈r,c<256)→nM l=nM r→l=r
 | [],[],_,_,_=>rfl
 | [],c::r,_,_,h=>absurd h (Cj c r)
 |c::l,[],_,_,h=>absurd h.symm (Cj c l)
 |c::l,d::r,hl,hr,h=>by
  obtain⟨h1,h2⟩:=dig (hl c (.head _)) (hr d (.head _)) h;rw[h2,Ci l r (fun x m=>hl x (.tail _ m)) (fun x m=>hr x (.tail _ m)) h1]
theorem Df:∀(l:List Nat),l.foldr (fun c n=>n*256+c) 1=nM l
 | []=>rfl
 |c::l=>aE (·*256+c) (Df l)
theorem Cu(a:Str):aS a=nM a.cps.toList.reverse:=by unfold aS;rw[List.foldl_eq_foldr_reverse,Df]
theorem uE{a b:Str}(ha:dJ a)(hb:dJ b)(h:aS a=aS b):a=b:=by
 rw[Cu,Cu] at h;have e:=List.reverse_inj.mp (Ci _ _ (fun c q=>(ha c (List.mem_reverse.mp q)).1) (fun c q=>(hb c (List.mem_reverse.mp q)).1) h);cases a;cases b;exact aE Str.mk (Array.ext' e)
section
variable{P:Params}{μ:Mu}{h:Heap}{fl:List (Nat×V)}{es:List DictEntry}{nm:Str}
theorem uc{nm nm':Str}{t:Tok}:(Value.str nm' t).isStr nm=true↔nm'=nm:=by
 show(nm' == nm)=true↔_;exact dm
theorem NB{t:Tok}{hsh:Int}{c:Value}:getL nm (⟨hsh,.str nm t,c⟩::es)=some (some c):=by
 unfold getL;rw[List.find?_cons_of_pos (p:=fun x:DictEntry=>x.key.isStr nm) (uc.mpr rfl)]
theorem NC{nm':Str}{t:Tok}{hsh:Int}{c:Value}(e:nm'≠nm):getL nm (⟨hsh,.str nm' t,c⟩::es)=getL nm es:=by
 unfold getL;rw[List.find?_cons_of_neg (p:=fun x:DictEntry=>x.key.isStr nm) (fun q=>e (uc.mp q))];rfl
theorem FR.get(x:FR P μ h fl es)(hn:dJ nm):Ex fun o=>au (getL nm es=some o) (kS μ h (aR fl (aS nm)) o):=by
 induction x with
 |nil=>exact⟨⟨rfl,.no⟩⟩
 |@cons nm' t y cv r r' hok hv _ ih=>
  by_cases hk:nm'=nm
  ·subst hk;rw[NB,rd];exact⟨⟨rfl,.yes hv⟩⟩
  ·rw[NC hk,rf fun q=>hk (uE hok hn q)];exact ih
theorem FR.len(x:FR P μ h fl es):es.length=fl.length:=by
 induction x with
 |nil=>rfl
 |cons _ _ _ ih=>exact aE (·+1) ih
theorem QV{k:Nat}{v y:V}(hn:k∉fl.map (·.1)):bc ((k,y)::fl) k v=(k,v)::fl:=by
 unfold bc;rw[oU,a9 rfl,Bool.true_or,aG rfl,cO,aG rfl];refine aE _ ((g8 (g:=id) fun p hp=>aD fun q=>hn (cg.mpr ⟨p,hp,q⟩)).trans (List.map_id fl))
theorem QW{k k':Nat}{v y:V}(hk:k'≠k):bc ((k',y)::fl) k v=(k',y)::bc fl k v:=by
 unfold bc;rw[oU,a7 hk,Bool.false_or,cO,aD hk];split<;>rfl
theorem FR.put(x:FR P μ h fl es)(hn:dJ nm){v:V}{cv:Value}(hv:VR μ h v cv){t:Tok}(hnd:(fl.map (·.1)).Nodup):FR P μ h (bc fl (aS nm) v) (putL nm (PyData.keyHash P nm) (.str nm t) cv es):=by
 induction x with
 |nil=>exact .cons hn hv .nil
 |@cons nm' u y c r r' hok hy hr ih=>
  unfold putL;obtain⟨h1,h2⟩:=ba.mp hnd;by_cases hk:nm'=nm
  ·subst hk;rw[aG (uc.mpr rfl),QV h1];exact .cons hok hv hr
  ·rw[aD (fun q=>hk (uc.mp q)),QW fun q=>hk (uE hok hn q)];exact .cons hok hy (ih h2)
theorem keys_map{k:Nat}{v:V}:∀(fl:List (Nat×V)),(fl.map fun p=>if p.1=k then(p.1,v) else p).map (·.1)=fl.map (·.1)
 | []=>rfl
 |p::r=>by rw[cO,cO,keys_map r];split<;>rfl
theorem QX{k:Nat}{v:V}(hnd:(fl.map (·.1)).Nodup):((bc fl k v).map (·.1)).Nodup:=by
 unfold bc;split
 ·rw[keys_map];exact hnd
 ·rename_i ha;rw[bt];refine eZ.mpr ⟨hnd,ba.mpr ⟨dM,dF⟩,fun x hx y hy e=>ha ?_⟩;obtain⟨p,hp,q⟩:=cg.mp hx;exact tN.mpr ⟨p,hp,a9 (q.trans (e.trans (a6.mp hy)))⟩
end
section
variable{W:Wd}{μ:Mu}{H:AH}{s:Shared}{A:Around}{i:Nat}
theorem nW(wk:jO W)(N:aW W μ H s.heap):W.K.In s.heap:=fun a o e=>N.base a o (wk.yp a o e)
theorem NQ{h:Heap}:∀{v:V} {cv:Value},VR μ h v cv→handedIn cv=true
 | .none,_,r=>r.qM (P:=fun c=>handedIn c=true) rfl
 | .bool _,_,r=>r.oJ (P:=fun c=>handedIn c=true) rfl
 | .int _,_,r=>r.bz (P:=fun c=>handedIn c=true) fun _=>rfl
 | .str _,_,r=>r.fm (P:=fun c=>handedIn c=true) fun _=>rfl
 | .tup _,_,r=>r.fq (P:=fun c=>handedIn c=true) fun _ _ _ _ _ _=>rfl
 | .lst _,_,r=>r.qK (P:=fun c=>handedIn c=true) fun _ _ _ _ _ _=>rfl
 | .obj _,_,r=>r.oK (P:=fun c=>handedIn c=true) fun _ _=>rfl
theorem HH(name:Str)(hsh:Int)(key v:Value):∀es:List DictEntry,(putL name hsh key v es).length≤es.length+1
 | []=>ai _
 |y::r=>by
  unfold putL;split
  ·exact cB _
  ·exact cI (HH name hsh key v r)
theorem yN{c:Nat}{fl:List (Nat×V)}{cv:Value}(N:aW W μ H s.heap)(hc:H[i]?=some (.inst c fl))(hv:VR μ s.heap (.obj i) cv){P:Value→Prop}
  (k:∀a d cA ox es n,μ.l[i]?=some (a,some d)→W.cls c=some cA→ox.dict=some d→PySem.W.InstAt s.heap a ox cA (some (dictOf es n))→FR W.w.params μ s.heap fl es→(fl.map (·.1)).Nodup→P (.ref a)):P cv:=
 hv.oK fun p hp=>let ⟨hp',⟨e,hc,hd,I,f,nd⟩,_⟩:=N.cS hc;n9 hp' hp (P:=fun p=>P (.ref p.1)) (k _ _ _ _ _ _ (hp'.trans (aE some (gZ rfl e))) hc hd I f nd)
inductive qU(a:Nat)(H:AH):V→V→Prop
 |mk {i c:Nat} {fl:List (Nat×V)} {v:V} (hc:H[i]?=some (.inst c fl)) (h:fU c a=false) (g:aR fl a=some v):qU a H (.obj i) v
theorem CQ(wk:jO W)(N:aW W μ H s.heap){nm:Str}(hn:nm∈W.attrs){u v:V}{cu:Value}(hu:VR μ s.heap u cu)(e:qU (aS nm) H u v){expr:Bool}{R:Value→Shared→Prop}(c:Kc W μ s H v R):Wp W A (getAttr cu nm expr) R s:=by
 cases e with
 |mk hc hcl g=>
  refine yN N hc hu (P:=fun cu=>Wp W A (getAttr cu nm expr) R s) fun a d cA ox es n hp hcA hd I f nd=>?_;obtain⟨⟨h1,h2⟩⟩:=f.get (wk.tg _ hn);rw[g] at h2
  cases h2 with
  |yes hv=>exact get_value (nW wk N) I (plainGet_of (wk.xE _ _ nm hcA)).1 (findObj_own (wk.xB _ _ hcA) (wk.xA _ _ _ hcA hn hcl) rfl h1) (NQ hv) (c.here N hv)
theorem U4{name:Str}{es:List DictEntry}(hl:(getL name es).isSome=true):(!es.toArray.any (·.key.isStr name)&&es.toArray.any (·.refKey))=false:=by
 rw[←Array.any_toList,←Array.any_toList];unfold getL at hl;split at hl
 ·rename_i en he;rw[tN.mpr ⟨en,List.mem_of_find?_eq_some he,List.find?_some he⟩];rfl
 ·split at hl
  ·cases hl
  ·rename_i z;rw[Bool.not_eq_true] at z;rw[z,Bool.and_false]
theorem T6{ox:Obj}{x cA dx:Addr}{name:Str}{tk:Tok}{v:Value}{es:List DictEntry}{n:Nat}{prog:Program}{w:World}{K:Frag}{R:Result→Shared→Prop}(X:K.In s.heap)
  (I:InstAt s.heap x ox cA (some (dictOf es n))) (hd:ox.dict=some dx) (hp:plainOver K cA=true) (ht:takerIn K cA name=some none) (hh:(clsIn K cA).any (·.hasDict)=true)
  (hl:(getL name es).isSome=true) (hz:es.length<950)
  (h:(s.heap.update dx (Obj.putName name (PyData.keyHash w.params name) (.str name s.toks) v)).get? dx=some (dictOf (putL name (PyData.keyHash w.params name) (.str name s.toks) v es) (putN name es n))→
   R (.ok (.ret .none)) {s with heap:=s.heap.update dx (Obj.putName name (PyData.keyHash w.params name) (.str name s.toks) v),toks:=s.toks+1}):
  codeAny (model prog w) A (.call (.builtin "object.__setattr__") ⟨[.ref x,.str name tk,v],[]⟩) R s:=by
 refine osa_open X I hp ht fun b=>?_;obtain⟨cd,hc,hd'⟩:=any_some hh;have D:=uZ I hd;obtain⟨hx,hcl,hn,-⟩:=I;obtain⟨oc,odi,oda,osl⟩:=ox
 dsimp only at hcl hd
 subst hcl hd;have e:=putName_dict name (PyData.keyHash w.params name) (.str name s.toks) v es n;have D':=kT (Obj.putName name (PyData.keyHash w.params name) (.str name s.toks) v) D (by rw[e];rfl)
 rw[e] at D';refine aF (ae (aF (aF (wpAny_loadPart hx (aF ((looks_clsIn X hc).here ?_))))));rw[hd'];refine ae (a:=some dx) (aF (ae (aF ?_)));unfold nsSet;refine aF (aF (wpAny_askSetting (ae (aF (wpAny_mkText (aF (wpAny_loadPart D ?_)))))))
 dsimp only
 rw[aRefKeyMayBeTheName_at,U4 hl];refine wpAny_updatePart D (aF (wpAny_lookBehind D' (by exact pastItsLine_dict (by rw[bM,sizeLine_eq];exact aA (HH _ _ _ _ es) (aA (cI (dk hz)) (by decide)))) (ae (h D'))))
inductive hH(a:Nat)(H:AH)(v:V):V→AH→Prop
 |mk {i c:Nat} {fl:List (Nat×V)} (hc:H[i]?=some (.inst c fl)) (h:fU c a=false) (z:fl.length<900):hH a H v (.obj i) (H.set i (.inst c (bc fl a v)))
theorem XI{μ:Mu}{a d:Addr}(ap:(foot μ).Nodup)(hp:μ.l[i]?=some (a,some d)):a≠d:=fun q=>by
 have h1:=(eZ.mp ap).2.1;obtain⟨l1,l2,hl⟩:=List.append_of_mem (dj hp);rw[hl,tR,List.flatMap_cons] at h1;exact(ba.mp (eZ.mp (eZ.mp h1).2.1).1).1 (q▸.head _)
theorem get_some{P:Params}{h:Heap}{fl:List (Nat×V)}{es:List DictEntry}{nm:Str}(f:FR P μ h fl es)(hn:dJ nm):(getL nm es).isSome=true:=let ⟨⟨h1,_⟩⟩:=f.get hn;h1▸rfl
theorem HJ(wk:jO W)(N:aW W μ H s.heap){nm:Str}(hn:nm∈W.attrs){u v:V}{cu cv:Value}{H':AH}(hu:VR μ s.heap u cu)(hv:VR μ s.heap v cv)(e:hH (aS nm) H v u H'){R:Unit→Shared→Prop}(c:Ku W μ s H' R):Wp W A (setAttr cu nm cv) R s:=by
 cases e with
 |mk hc hcl hz=>
  refine yN N hc hu (P:=fun cu=>Wp W A (setAttr cu nm cv) R s) fun a d cA ox es n hp hcA hd I f nd=>?_;have ht:takerIn W.K cA nm=some none:=by unfold takerIn;rw[wk.xA _ _ _ hcA hn hcl];rfl
  refine set_plain (nW wk N) I (wk.C6 _ _ hcA) (T6 (s:={s with toks:=s.toks+1}) (nW wk N) I hd (wk.cover _ _ hcA) ht (wk.xB _ _ hcA) (get_some f (wk.tg _ hn)) (f.len▸iU hz (by decide)) fun D'=>?_)
  exact c (turn N hp (b:=d) (.tail _ (.head _)) (lK (ji ..)) (uZ I hd) D' rfl rfl (fun E=>⟨rfl,hcA,hd,⟨(Heap.get?_update_ne _ _ _ _ (XI N.apart hp)).trans I.at_,I.cls,I.no,by rw[hd];exact D'⟩,(f.kp (E.kp .none)).put (wk.tg _ hn) (VR.ext E .none v hv) nd,QX nd⟩) fun _ e=>ao e)
end
noncomputable def lN(l u:Value):Obj:={cls:=.type "slice",data:=.fields #[l,u,.none]}
noncomputable def dw(W:Wd)(o:Value→Obj)(u x v:V)(H H':AH):Prop:=∀{n:Nat} {A:Around} {s:Shared} {μ:Mu} {cu cx:Value} {R:Value→Shared→Prop},Ok W n A μ H s→VR μ s.heap u cu→VR μ s.heap x cx→Kc W μ s H' v R→cN W A {s with heap:=s.heap.push (o cx)} cu (getItem cu (.ref s.heap.objs.size)) R
noncomputable def rA(W:Wd)(u x y v:V)(H H':AH):Prop:=∀{n:Nat} {A:Around} {s:Shared} {μ:Mu} {cu cx cy:Value} {R:Value→Shared→Prop},Ok W n A μ H s→VR μ s.heap u cu→VR μ s.heap x cx→VR μ s.heap y cy→Kc W μ s H' v R→cN W A {s with heap:=s.heap.push (lN cx cy)} cu (getItem cu (.ref s.heap.objs.size)) R
noncomputable def kQ(b:Value):Obj:=lN .none b
noncomputable def jq(b:Value):Obj:=lN b .none
theorem Cn(k n:Nat):max (0:Int) (min (k:Int) (n:Int))=((min k n:Nat):Int):=by
 rw[Int.max_eq_right (Int.le_min.mpr ⟨eH _,eH _⟩)];rcases Nat.le_total k n with h|h
 ·rw[Int.min_eq_left (kW.mpr h),qz h]
 ·rw[Int.min_eq_right (kW.mpr h),wM h]
theorem V4(n k:Nat):n-min k n=n-k:=by
 rcases Nat.le_total k n with h|h
 ·rw[qz h]
 ·rw[wM h,oo,Nat.sub_eq_zero_of_le h]
theorem not_neg(k:Nat):¬((k:Int)<0):=kU.mpr (eH k)
theorem Ff(x:Str):x.length=x.cps.toList.length:=by show x.cps.size=_;rw[mh]
theorem XX(n k:Nat):Builtin.Str.strSliceIndices none (some (k:Int)) 1 n=Builtin.Str.strSliceIndices (some ((0:Nat):Int)) (some ((min k n:Nat):Int)) 1 n:=by
 unfold Builtin.Str.strSliceIndices;simp only[not_neg,if_false,show((1:Int)>0)=True from eq_true (by decide),if_true,Cn,Nat.zero_min,Nat.min_assoc,wN]
 rfl
theorem L8(n k:Nat):Builtin.Str.strSliceIndices (some (k:Int)) none 1 n=Builtin.Str.strSliceIndices (some ((min k n:Nat):Int)) (some ((n:Nat):Int)) 1 n:=by
 unfold Builtin.Str.strSliceIndices;simp only[not_neg,if_false,show((1:Int)>0)=True from eq_true (by decide),if_true,Cn,Nat.min_assoc,wN]
theorem V1(x:Str)(k:Nat):(Builtin.Str.strSliceIndices none (some (k:Int)) 1 x.length).filterMap (x.cps[·]?)=x.cps.toList.take k∧(Builtin.Str.strSliceIndices none (some (k:Int)) 1 x.length).length=min k x.length:=by
 rw[XX];refine⟨?_,by rw[PySem.StrLaws.strSliceIndices_plain (bW _) (oj _ _)];simp⟩
 rw[PySem.StrLaws.sliced_plain x (bW _) (oj _ _),List.drop_zero,Nat.sub_zero,Ff,←List.take_take,wH]
theorem Vz(x:Str)(k:Nat):(Builtin.Str.strSliceIndices (some (k:Int)) none 1 x.length).filterMap (x.cps[·]?)=x.cps.toList.drop k∧(Builtin.Str.strSliceIndices (some (k:Int)) none 1 x.length).length=x.length-k:=by
 rw[L8];refine⟨?_,by rw[PySem.StrLaws.strSliceIndices_plain (oj _ _) (ai _),aN,jH,V4]⟩
 rw[PySem.StrLaws.sliced_plain x (oj _ _) (ai _),Ff];rcases Nat.le_total k x.cps.toList.length with h|h
 ·rw[qz h,qo (by rw[oZ];exact ai _)]
 ·rw[wM h,List.drop_of_length_le (ai _),List.drop_of_length_le h,List.take_nil]
section
variable{W:Wd}{μ:Mu}{H:AH}{s:Shared}{A:Around}
theorem V0{x:Str}{Q:Value→Shared→Prop}(hz:x.length≤aJ)(h:∀t tk,Q (.str x t) {s with toks:=tk}):(Made.str x).post Q s:=⟨eS hz,h _ _⟩
theorem str_slice{x:List Nat}{u:Tok}{l r:Option (Int×Tok)}{y:List Nat}{m:Nat}{sl:Addr}{R:Value→Shared→Prop}{h':Heap}(N:aW W μ H s.heap)(k:∀b o,s.heap.get? b=some o→h'.get? b=some o)(z:x.length≤aJ)(hs:h'.IsSlice sl l r none)
  (h1:(Builtin.Str.strSliceIndices (l.map (·.1)) (r.map (·.1)) 1 (⟨x.toArray⟩:Str).length).filterMap ((⟨x.toArray⟩:Str).cps[·]?)=y∧(Builtin.Str.strSliceIndices (l.map (·.1)) (r.map (·.1)) 1 (⟨x.toArray⟩:Str).length).length=m) (h3:m=x.length→y=x) (h4:y.length≤x.length)
  (c:Kc W μ s H (.str y) R):cN W A {s with heap:=h'} (.str ⟨x.toArray⟩ u) (getItem (.str ⟨x.toArray⟩ u) (.ref sl)) R:=by
 refine⟨typeIs_str _ _ _,PySem.F.slot_str_getitem.lookup,wpAny_getItem_str_slice (s:={s with heap:=h'}) (l:=l) (u:=r) (st:=none) hs rfl ?_⟩;unfold sliceMade slicePicked;simp only[Option.map_none,Option.getD_none];split
 ·rename_i hq;rw[de] at hq;have hq2:=dm.mp hq.2;rw[h1.2] at hq2;rw[h3 (hq2.trans (show x.toArray.size=_ from bM ..))] at c
  exact c (.grow (tk:=s.toks) N k) .vD
 ·rw[h1.1];exact V0 (by show y.toArray.size≤_;rw[bM];exact aA h4 z) fun t tk=>c (.grow N k) .vD
theorem K9{j:Nat}:∀{x:List Nat},x.length-j=x.length→x.drop j=x
 | [],_=>qk
 |_::_,q=>match j,q with
  |0,_=>rfl
  |_+1,q=>absurd q (eB (Nat.sub_lt (nB _) (nB _)))
theorem dw.sb{x:List Nat}{j:Nat}(z:x.length≤aJ):dw W kQ (.str x) (.int j) (.str (x.take j)) H H:=fun{_ A s _ _ _ R} K hu hx c=>
 hx.bz (P:=fun cx=>cN W A {s with heap:=s.heap.push (kQ cx)} _ (getItem _ (.ref s.heap.objs.size)) R) fun t=>hu.fm (P:=fun cu=>cN W A {s with heap:=s.heap.push (kQ (.int j t))} cu (getItem cu (.ref s.heap.objs.size)) R) fun u=>
  str_slice (l:=none) (r:=some ((j:Int),t)) K.N (b8 _ _) z ⟨_,dW _ rfl,rfl,rfl⟩ (V1 ⟨x.toArray⟩ j) (fun q=>qo (by rw[←q];exact Nat.min_le_left _ _)) (by rw[wF];exact oj _ _) c
theorem dw.AU{x:List Nat}{j:Nat}(z:x.length≤aJ):dw W jq (.str x) (.int j) (.str (x.drop j)) H H:=fun{_ A s _ _ _ R} K hu hx c=>
 hx.bz (P:=fun cx=>cN W A {s with heap:=s.heap.push (jq cx)} _ (getItem _ (.ref s.heap.objs.size)) R) fun t=>hu.fm (P:=fun cu=>cN W A {s with heap:=s.heap.push (jq (.int j t))} cu (getItem cu (.ref s.heap.objs.size)) R) fun u=>
  str_slice (l:=some ((j:Int),t)) (r:=none) K.N (b8 _ _) z ⟨_,dW _ rfl,rfl,rfl⟩ (Vz ⟨x.toArray⟩ j) (fun q=>K9 ((show(⟨x.toArray⟩:Str).length=x.length from bM ..)▸q)) (by rw[oZ];exact nA _ _) c
theorem dw.F4{l:List V}{u v:V}{j:Nat}{H':AH}(hl:IsL H l u)(q:LR (l.take j) H v H'):dw W kQ u (.int j) v H H':=fun{_ A s _ _ _ R} K hu hx c=>
 hx.bz (P:=fun cx=>cN W A {s with heap:=s.heap.push (kQ cx)} _ (getItem _ (.ref s.heap.objs.size)) R) fun t=>hl.at K.N hu (P:=fun cu=>cN W A {s with heap:=s.heap.push (kQ (.int j t))} cu (getItem cu (.ref s.heap.objs.size)) R) fun a xs x r z=>by
  have hI:=x.at fun o e=>b8 s.heap (kQ (.int j t)) a o e;refine⟨jd hI,vR.lookup,Ip (s:={s with heap:=s.heap.push (kQ (.int j t))}) hI.is ⟨_,dW _ rfl,rfl,rfl⟩ .none (.int _ t) .none (by simp) ?_ (by rw[bM,r.length];exact eS z)⟩
  rw[slicePick_upto',qw];exact lD (s:=s) (tk:=s.toks) q K.N (r.take j) (by rw[wF];exact aA (oj _ _) z) (fun b o e=>b8 _ _ _ _ (b8 _ _ b o e)) (pO (b8 _ _)) .new c
theorem dw.Rv{l:List V}{u v:V}{j:Nat}{H':AH}(hl:IsL H l u)(q:LR (l.drop j) H v H'):dw W jq u (.int j) v H H':=fun{_ A s _ _ _ R} K hu hx c=>
 hx.bz (P:=fun cx=>cN W A {s with heap:=s.heap.push (jq cx)} _ (getItem _ (.ref s.heap.objs.size)) R) fun t=>hl.at K.N hu (P:=fun cu=>cN W A {s with heap:=s.heap.push (jq (.int j t))} cu (getItem cu (.ref s.heap.objs.size)) R) fun a xs x r z=>by
  have hI:=x.at fun o e=>b8 s.heap (jq (.int j t)) a o e;refine⟨jd hI,vR.lookup,Ip (s:={s with heap:=s.heap.push (jq (.int j t))}) hI.is ⟨_,dW _ rfl,rfl,rfl⟩ (.int _ t) .none .none (by simp) ?_ (by rw[bM,r.length];exact eS z)⟩
  rw[slicePick_from',qw];exact lD (s:=s) (tk:=s.toks) q K.N (r.drop j) (by rw[oZ];exact aA (nA _ _) z) (fun b o e=>b8 _ _ _ _ (b8 _ _ b o e)) (pO (b8 _ _)) .new c
theorem rA.lst{l:List V}{u v:V}{j k:Nat}{H':AH}(hl:IsL H l u)(hjk:j≤k)(hk:k≤l.length)(q:LR ((l.take k).drop j) H v H'):rA W u (.int j) (.int k) v H H':=fun{_ A s _ _ _ _ R} K hu hx hy c=>
 hx.bz (P:=fun cx=>cN W A {s with heap:=s.heap.push (lN cx _)} _ (getItem _ (.ref s.heap.objs.size)) R) fun t=>hy.bz (P:=fun cy=>cN W A {s with heap:=s.heap.push (lN (.int j t) cy)} _ (getItem _ (.ref s.heap.objs.size)) R) fun t'=>hl.at K.N hu (P:=fun cu=>cN W A {s with heap:=s.heap.push (lN (.int j t) (.int k t'))} cu (getItem cu (.ref s.heap.objs.size)) R) fun a xs x r z=>by
  have hI:=x.at fun o e=>b8 s.heap (lN (.int j t) (.int k t')) a o e;refine⟨jd hI,vR.lookup,Ip (s:={s with heap:=s.heap.push (lN (.int j t) (.int k t'))}) hI.is ⟨_,dW _ rfl,rfl,rfl⟩ (.int _ t) (.int _ t') .none (by simp) ?_ (by rw[bM,r.length];exact eS z)⟩
  rw[slicePick_run _ _ _ (by rw[bM,r.length];exact hk) hjk,qw,←List.drop_take]
  exact lD (s:=s) (tk:=s.toks) q K.N ((r.take k).drop j) (by rw[oZ,wF];exact aA (nA _ _) (aA (oj _ _) z)) (fun b o e=>b8 _ _ _ _ (b8 _ _ b o e)) (pO (b8 _ _)) .new c
end
noncomputable def q1(vs:List V)(P:V→Prop):Prop:=match vs with
 | [u]=>P u
 |_=>False
noncomputable def q2(vs:List V)(P:V→V→Prop):Prop:=match vs with
 | [u,x]=>P u x
 |_=>False
noncomputable def q3(vs:List V)(P:V→V→V→Prop):Prop:=match vs with
 | [u,x,y]=>P u x y
 |_=>False
inductive wh(W:Wd)(u x:V)(H:AH)(v:V):AH→Prop
 |mk (p:dy W u x H v):wh W u x H v H
inductive vt(a:Nat)(u:V)(H:AH)(v:V):AH→Prop
 |mk (p:qU a H u v):vt a u H v H
noncomputable def Prim(W:Wd)(o:Op)(vs:List V)(H:AH)(v:V)(H':AH):Prop:=match o with
 | .tup=>wi vs H v H'
 | .lst=>au (vs.length≤aJ) (LR vs H v H')
 | .e5=>DR H v H'
 | .mS=>P0 W H v H' (call (.type "set") [])
 | .sub=>q2 vs fun u x=>wh W u x H v H'
 | .i6=>q2 vs fun u x=>dw W kQ u x v H H'
 | .gj=>q2 vs fun u x=>dw W jq u x v H H'
 | .cut=>q3 vs fun u x y=>rA W u x y v H H'
 | .attr a=>q1 vs fun u=>vt a u H v H'
 | .bin op=>q2 vs fun u x=>P2 W u v x H H' (binaryOp op)
 | .cmp op=>q2 vs fun u x=>P2 W u v x H H' (compareOp op)
 | .lG=>q1 vs fun u=>wX u H v H'
 | .fh=>q1 vs fun u=>wW u H v H'
 | .eE l=>q1 vs fun u=>v9 l H u v H'
 | .f1 f=>q1 vs fun u=>P1 W u v H H' (fun a=>call f.fv [a])
 | .listRev=>q1 vs fun u=>q9 W u v H H'
noncomputable def Fn(W:Wd)(n:Nat)(f:Nat)(vs:List V)(H:AH)(Q:V→AH→Prop):Prop:=∀{a:Addr},W.k6 f=some a→∀{A:Around} {s:Shared} {μ:Mu} {cvs:List Value} {R:Value→Shared→Prop},Ok W n A μ H s→aM μ s.heap vs cvs→
 (∀{v:V} {H':AH},Q v H'→Kc W μ s H' v R)→codeAny (model W.prog W.w) A (.call (.ref a) ⟨cvs,[]⟩) (wants R F0) s
inductive Seq(P Q:V→AH→Prop):Prop
 |mk {v:V} {H:AH} (p:P v H) (q:Q v H)
inductive ot(W:Wd)(n c:Nat)(vs:List V)(H:AH)(Q:V→AH→Prop):Prop
 |mk {f:Nat} (h:W.T.init c=some f) (k:Fn W n f (.obj H.length::vs) (H++[.inst c []]) (fun r H'=>au (r=.none) (Q (.obj H.length) H')))
inductive lZ(W:Wd)(m:Nat)(u:V)(H:AH)(P:Nat→Prop):Prop
 |mk {i c f:Nat} {fl:List (Nat×V)} (e:u=.obj i) (hc:H[i]?=some (.inst c fl)) (h:W.T.nj c m=some f) (g:aR fl m=none) (p:P f)
inductive m9(ws:List V)(H:AH)(Q:V→AH→Prop):Prop
 |mk {v:V} {H':AH} (r:LR ws H v H') (q:Q v H')
set_option genCtorIdx true in
inductive Kd where
 |tup|lst|dict (st:Nat)|aY (st:Nat)
inductive It:Kd→V→List V→AH→Prop
 |tup {l:List V} {H:AH}:It .tup (.tup l) l H
 |lst {u:V} {l:List V} {H:AH} (h:IsL H l u):It .lst u l H
 |dict {i st:Nat} {kvs:List (Atom×V)} {H:AH} (hc:H[i]?=some (.dict kvs st)):It (.dict st) (.obj i) (kvs.map fun p=>cG p.1) H
 |aY {i st:Nat} {kvs:List (List Atom×V)} {H:AH} (hc:H[i]?=some (.aY kvs st)):It (.aY st) (.obj i) (kvs.map fun p=>.tup (p.1.map cG)) H
inductive qi(src:V)(H:AH)(P:(AH→Prop)→List V→Prop):Prop
 |mk {k:Kd} {l:List V} (h:It k src l H) (p:P (It k src l) l)
noncomputable def jC(C:AH→Prop)(el:aO→AH→(V→AH→Prop)→Prop)(x:Nat)(F:aO):List V→AH→(List V→AH→Prop)→Prop
 | [],H,Q=>au (C H) (Q [] H)
 |v::r,H,Q=>au (C H) (el (upd F x v) H fun w H=>jC C el x F r H fun ws H=>Q (w::ws) H)
inductive v8(v:V)(P:Nat→Prop):Prop
 |mk {k:Nat} (e:v=.int k) (z:k≤aJ) (p:P k)
noncomputable def iI(k:Nat):List V:=(List.range k).map fun(i:Nat)=>V.int (i:Int)
mutual
noncomputable def ay(W:Wd)(n:Nat):IE→aO→AH→(V→AH→Prop)→Prop
 | .const v,_,H,Q=>Q v H
 | .var x,F,H,Q=>Sm (F x) fun v=>Q v H
 | .op o es,F,H,Q=>jD W n es F H fun vs H=>Seq (Prim W o vs H) Q
 | .call f es,F,H,Q=>jD W n es F H fun vs H=>Fn W n f vs H Q
 | .aV e m es,F,H,Q=>ay W n e F H fun u H=>lZ W m u H fun f=>jD W n es F H fun vs H=>Fn W n f (u::vs) H Q
 | .bm m e es,F,H,Q=>ay W n e F H fun u H=>au (Recv W m u H) (jD W n es F H fun vs H=>Seq (bu W m (u::vs) H) Q)
 | .hZ e a,F,H,Q=>ay W n e F H fun u H=>au (nH W u H) (ay W n a F H fun x H=>Ex fun H'=>au (kg W u x H H') (Q .none H'))
 | .new c es,F,H,Q=>jD W n es F H fun vs H=>ot W n c vs H Q
 | .and a b,F,H,Q=>ay W n a F H fun v H=>Tq v H fun t=>if t=true then ay W n b F H Q else Q v H
 | .or a b,F,H,Q=>ay W n a F H fun v H=>Tq v H fun t=>if t=true then Q v H else ay W n b F H Q
 | .not a,F,H,Q=>ay W n a F H fun v H=>Tq v H fun t=>Q (.bool (!t)) H
 | .ite c a b,F,H,Q=>ay W n c F H fun v H=>Tq v H fun t=>if t=true then ay W n a F H Q else ay W n b F H Q
 | .comp e x it,F,H,Q=>ay W n it F H fun src H=>qi src H fun C l=>au (l.length≤aJ) (jC C (fun F H Q=>ay W n e F H Q) x F l H fun ws H=>m9 ws H Q)
 | .f7 e x m,F,H,Q=>ay W n m F H fun v H=>v8 v fun k=>jC (fun _=>True) (fun F H Q=>ay W n e F H Q) x F (iI k) H fun ws H=>m9 ws H Q
noncomputable def jD(W:Wd)(n:Nat):c9→aO→AH→(List V→AH→Prop)→Prop
 | .nil,_,H,Q=>Q [] H
 | .cons e es,F,H,Q=>ay W n e F H fun u H=>jD W n es F H fun us H=>Q (u::us) H
end
noncomputable def zS(k:aO→AH→Prop)(Q:Fl→aO→AH→Prop):Fl→aO→AH→Prop
 | .aL,F,H=>k F H
 |fl,F,H=>Q fl F H
noncomputable def vf(k:aO→AH→Prop)(Q:Fl→aO→AH→Prop):Fl→aO→AH→Prop
 | .aL,F,H=>k F H
 | .cnt,F,H=>k F H
 | .brk,F,H=>Q .aL F H
 | .ret v,F,H=>Q (.ret v) F H
noncomputable def rB(c:aO→AH→(V→AH→Prop)→Prop)(b:aO→AH→(Fl→aO→AH→Prop)→Prop):Nat→aO→AH→(Fl→aO→AH→Prop)→Prop
 |0,_,_,_=>False
 |k+1,F,H,Q=>c F H fun v H=>Tq v H fun t=>if t=true then b F H (vf (fun F H=>rB c b k F H Q) Q) else Q .aL F H
noncomputable def jh(C:AH→Prop)(x:Nat)(b:aO→AH→(Fl→aO→AH→Prop)→Prop):List V→aO→AH→(Fl→aO→AH→Prop)→Prop
 | [],F,H,Q=>au (C H) (Q .aL F H)
 |v::r,F,H,Q=>au (C H) (b (upd F x v) H (vf (fun F H=>jh C x b r F H Q) Q))
inductive lU(op:Operator)(u:V)(H:AH)(w:V)(Q:V→AH→Prop):Prop
 |add {a b:Int} (o:op=.Add) (e:u=.int a) (e':w=.int b) (q:Q (.int (a+b)) H)
 |sub {a b:Int} (o:op=.Sub) (e:u=.int a) (e':w=.int b) (q:Q (.int (a-b)) H)
 |lst {i:Nat} {l l':List V} (o:op=.Add) (e:u=.obj i) (hc:H[i]?=some (.lst l)) (hl:IsL H l' w) (z:l.length+l'.length≤aJ) (q:Q (.obj i) (H.set i (.lst (l++l'))))
mutual
noncomputable def vx(W:Wd)(n:Nat):IS→aO→AH→(Fl→aO→AH→Prop)→Prop
 | .asg x e,F,H,Q=>ay W n e F H fun v H=>Q .aL (upd F x v) H
 | .fR xs e,F,H,Q=>ay W n e F H fun v H=>Ex fun l=>au (v=.tup l) (au (l.length=xs.length) (Q .aL (gw F xs l) H))
 | .swap x y a b,F,H,Q=>ay W n a F H fun u H=>ay W n b F H fun w H=>Q .aL (upd (upd F y w) x u) H
 | .bw a i e,F,H,Q=>ay W n e F H fun v H=>ay W n a F H fun u H=>ay W n i F H fun x H=>Ex fun H'=>au (gG W u x v H H') (Q .aL F H')
 | .setAttr o a e,F,H,Q=>ay W n e F H fun v H=>ay W n o F H fun u H=>Ex fun H'=>au (hH a H v u H') (Q .aL F H')
 | .aug x op e,F,H,Q=>Sm (F x) fun u=>ay W n e F H fun w H=>lU op u H w fun v H=>Q .aL (upd F x v) H
 | .jo t a op e,F,H,Q=>ay W n t F H fun u H=>Ex fun v=>au (qU a H u v) (ay W n e F H fun w H=>lU op v H w fun r H=>au (∀i,v≠.obj i) (Ex fun H'=>au (hH a H r u H') (Q .aL F H')))
 | .expr e,F,H,Q=>ay W n e F H fun _ H=>Q .aL F H
 | .ite c a b,F,H,Q=>ay W n c F H fun v H=>Tq v H fun t=>if t=true then dc W n a F H Q else dc W n b F H Q
 | .da c b,F,H,Q=>Ex fun k=>rB (ay W n c) (fun F H Q=>dc W n b F H Q) k F H Q
 | .forIn x e b,F,H,Q=>ay W n e F H fun v H=>qi v H fun C l=>jh C x (fun F H Q=>dc W n b F H Q) l F H Q
 | .forR x m b,F,H,Q=>ay W n m F H fun v H=>v8 v fun k=>jh (fun _=>True) x (fun F H Q=>dc W n b F H Q) (iI k) F H Q
 | .ret e,F,H,Q=>ay W n e F H fun v H=>Q (.ret v) F H
 | .cont,F,H,Q=>Q .cnt F H
 | .pass,F,H,Q=>Q .aL F H
noncomputable def dc(W:Wd)(n:Nat):aK→aO→AH→(Fl→aO→AH→Prop)→Prop
 | .nil,F,H,Q=>Q .aL F H
 | .cons s ss,F,H,Q=>vx W n s F H (zS (fun F H=>dc W n ss F H Q) Q)
end
structure Rb(A:Around)(n:Nat):Prop where
 u:A.units+20*n+1310<cLine
 d:A.depth+3*n+4<recursionLimit
 hd:A.handled=none
theorem Rb.rm{A:Around}{n:Nat}(R:Rb A n):Rm A n:=⟨bb (cq (by decide) _) R.u,bb (cq (by decide) _) R.d,R.hd⟩
theorem Rb.made{A:Around}{n:Nat}(R:Rb A n)(C:Addr)(vals:List Value):Rm (A.under (.builtin "type.__call__" ⟨.ref C::vals,[]⟩)) n:=
 ⟨by have:=R.u;rw[PyProof.Rows.units_under_make];omega,by have:=R.d;rw[PyProof.Rows.depth_under_make];omega,R.hd⟩
structure ft(sc:Scope)(env:Env):Prop where
 kind:env.scope.kind=.function
 g:env.globals=mainGlobals
 b:env.builtins=builtinsNs
 loc:∀x,sc.names.lookup x=some .local→env.kindOf x=some .local
 cell:∀x,sc.names.lookup x=some .cell→env.kindOf x=some .cell
 free:∀x,sc.names.lookup x=some .free→env.kindOf x=some .cell∨env.kindOf x=some .free
 glob:∀x,sc.names.lookup x=some .globalImplicit→env.kindOf x=some .globalImplicit
 cells:∀x,sc.names.lookup x=some .cell∨sc.names.lookup x=some .free→∃c,env.cells.lookup x=some c
inductive qe(μ:Mu)(h:Heap)(m:Str→Option Value)(nm:Str)(v:V):Prop
 |mk {cv:Value} (e:m nm=some cv) (r:VR μ h v cv)
inductive qb(μ:Mu)(h:Heap)(env:Env)(cm:Str→Option Value)(nm:Str)(v:V):Prop
 |mk {c:Addr} {cv:Value} (l:env.cells.lookup nm=some c) (e:cm nm=some cv) (r:VR μ h v cv)
structure Iw(W:Wd)(μ:Mu)(h:Heap)(env:Env)(cm:Str→Option Value)(n:Str)(c:Addr):Prop where
 is:h.IsCell c (cm n)
 out:c∉foot μ
 old:W.h₀.get? c=none
 ne:c≠env.locals
structure FO(W:Wd)(μ:Mu)(F:aO)(h:Heap)(env:Env)(m cm:Str→Option Value):Prop where
 ns:h.Ns env.locals m
 out:env.locals∉foot μ
 old:W.h₀.get? env.locals=none
 cell:∀n c,env.cells.lookup n=some c→Iw W μ h env cm n c
 apart:∀n n' c,env.cells.lookup n=some c→env.cells.lookup n'=some c→n=n'
 loc:∀nm v,dJ nm→F (aS nm)=some v→env.kindOf nm=some .local→qe μ h m nm v
 cS:∀nm v,dJ nm→F (aS nm)=some v→env.kindOf nm=some .cell∨env.kindOf nm=some .free→qb μ h env cm nm v
inductive dU(W:Wd)(μ:Mu)(F:aO)(h:Heap)(env:Env):Prop
 |mk {m cm:Str→Option Value} (fo:FO W μ F h env m cm)
noncomputable def own(env:Env)(a:Addr):Prop:=a=env.locals∨∃n,env.cells.lookup n=some a
section
variable{W:Wd}{μ μ' μ'':Mu}{H H' H'':AH}{F F':aO}{s s' s'':Shared}{A:Around}{env:Env}{h h':Heap}{m cm:Str→Option Value}{n:Nat}{sc:Scope}{v:V}{nm:Str}
theorem qe.kp(x:qe μ h m nm v)(E:Kp μ h μ' h'):qe μ' h' m nm v:=let ⟨e,r⟩:=x;⟨e,r.kp E⟩
theorem qb.kp(x:qb μ h env cm nm v)(E:Kp μ h μ' h'):qb μ' h' env cm nm v:=let ⟨l,e,r⟩:=x;⟨l,e,r.kp E⟩
theorem Gh{a:Addr}{m:Str→Option Value}(x:h.Ns a m)(k:∀o,h.get? a=some o→h'.get? a=some o):h'.Ns a m:=by obtain⟨o,es,ep,ho,r⟩:=x;exact⟨o,es,ep,k o ho,r⟩
theorem vB{a:Addr}{m:Str→Option Value}(x:h.Ns a m):∃o,h.get? a=some o∧∀xs n,o.data≠.seq xs n:=by
 obtain⟨o,es,ep,ho,hd,_⟩:=x;exact⟨o,ho,fun xs n e=>by rw[hd] at e;cases e⟩
theorem Cg{c:Addr}{v:Option Value}(x:h.IsCell c v)(k:∀o,h.get? c=some o→h'.get? c=some o):h'.IsCell c v:=let ⟨o,ho,hd⟩:=x;⟨o,k o ho,hd⟩
theorem xC{c:Addr}{v:Option Value}(x:h.IsCell c v):∃o,h.get? c=some o∧∀xs n,o.data≠.seq xs n:=by
 obtain⟨o,ho,hd⟩:=x;exact⟨o,ho,fun xs n e=>by rw[hd] at e;cases e⟩
theorem FO.Gx(x:FO W μ F h env m cm){a:Addr}(ha:own env a):∃o,h.get? a=some o∧∀xs n,o.data≠.seq xs n:=
 ha.elim (fun e=>e▸vB x.ns) fun⟨n,hn⟩=>xC (x.cell n a hn).is
theorem FO.zj(x:FO W μ F h env m cm){a:Addr}(ha:own env a):a∉foot μ∧W.h₀.get? a=none:=
 ha.elim (fun e=>e▸⟨x.out,x.old⟩) fun⟨n,hn⟩=>⟨(x.cell n a hn).out,(x.cell n a hn).old⟩
theorem FO.lF(x:FO W μ F h env m cm):hG (own env) h:=fun a o ha ho=>let ⟨_,ho',q⟩:=x.Gx ha;av (ho'.symm.trans ho)▸q
theorem dU.lF(x:dU W μ F h env):hG (own env) h:=let ⟨y⟩:=x;y.lF
theorem dU.Gw(x:dU W μ F h env){I:Addr}(hI:h.get? I=none):¬own env I:=fun q=>let ⟨y⟩:=x;let ⟨_,ho,_⟩:=y.Gx q;ao (hI.symm.trans ho)
theorem FO.to(x:FO W μ F h env m cm)(E:Kp μ h μ' h')(k:∀a o,own env a→h.get? a=some o→h'.get? a=some o):FO W μ' F h' env m cm where
 ns:=Gh x.ns fun o=>k _ o (.inl rfl)
 out:=let ⟨_,ho,_⟩:=vB x.ns;E.nf x.out ho
 old:=x.old
 cell:=fun n c hc=>have q:=x.cell n c hc;let ⟨_,ho,_⟩:=xC q.is;⟨Cg q.is fun o=>k _ o (.inr ⟨n,hc⟩),E.nf q.out ho,q.old,q.ne⟩
 apart:=x.apart
 loc:=fun nm v hn e k=>(x.loc nm v hn e k).kp E
 cS:=fun nm v hn e k=>(x.cS nm v hn e k).kp E
theorem dU.to(x:dU W μ F h env)(E:Kp μ h μ' h')(k:∀a o,own env a→h.get? a=some o→h'.get? a=some o):dU W μ' F h' env:=let ⟨y⟩:=x;⟨y.to E k⟩
theorem dU.ext(x:dU W μ F h env)(E:Ext μ h μ' h'):dU W μ' F h' env:=let ⟨y⟩:=x;⟨y.to (E.kp .none) fun a o q e=>E.keep a o e (y.zj q).1 id⟩
structure Fr(W:Wd)(n:Nat)(sc:Scope)(env:Env)(A:Around)(μ:Mu)(H:AH)(F:aO)(s:Shared):Prop where
 wk:jO W
 eo:ft sc env
 rb:Rb A n
 N:aW W μ H s.heap
 fo:dU W μ F s.heap env
theorem Fr.ok(K:Fr W n sc env A μ H F s):Ok W n A μ H s:=⟨K.wk,K.rb.rm,K.N⟩
theorem Fr.nx(K:Fr W n sc env A μ H F s)(X:bO W μ s H' μ' s'):Fr W n sc env A μ' H' F s':=⟨K.wk,K.eo,K.rb,X.N,K.fo.ext X.E⟩
structure td(W:Wd)(X:Addr→Prop)(env:Env)(μ:Mu)(s:Shared)(F':aO)(H':AH)(μ':Mu)(s':Shared):Prop where
 g:s'.gens=s.gens
 o:s'.os=s.os
 E:bf X μ s.heap μ' s'.heap
 N:aW W μ' H' s'.heap
 fo:dU W μ' F' s'.heap env
noncomputable abbrev fM(W:Wd)(env:Env):=td W (own env) env
theorem Fr.sx(K:Fr W n sc env A μ H F s)(X:bO W μ s H' μ' s'):fM W env μ s F H' μ' s':=⟨X.g,X.o,X.E.any,X.N,K.fo.ext X.E⟩
theorem Fr.s0(K:Fr W n sc env A μ H F s){tk:Nat}:fM W env μ s F H μ {s with toks:=tk}:=⟨rfl,rfl,.refl,K.N,K.fo⟩
theorem Fr.p4(K:Fr W n sc env A μ H F s)(X:fM W env μ s F' H' μ' s'):Fr W n sc env A μ' H' F' s':=⟨K.wk,K.eo,K.rb,X.N,X.fo⟩
theorem fM.trans{F'':aO}(x:fM W env μ s F' H' μ' s')(y:fM W env μ' s' F'' H'' μ'' s''):fM W env μ s F'' H'' μ'' s'':=⟨y.g.trans x.g,y.o.trans x.o,x.E.trans y.E,y.N,y.fo⟩
theorem Gy(x:FO W μ F h env m cm)(N:aW W μ H h){b:Addr}(hb:own env b)(hs:Heap.SameBut b h h')(hl:∃o,h'.get? b=some o):bf (·=b) μ h μ h'∧Kp μ h μ h'∧aW W μ H h':=
 have nf:=x.zj hb;have k:=lK hs;have E:bf (·=b) μ h μ h':=.one nf.1 rfl k hl;have kp:=E.kp fun a o e=>x.lF a o (e▸hb)
 ⟨E,kp,N.to kp (fun a o m e=>k a o (fun q=>nf.1 (q▸m)) e) fun a o e0 e=>k a o (fun q=>ao (nf.2.symm.trans (q▸e0))) e⟩
theorem qQ{x:Str}{u:V}(hok:dJ x)(hn:dJ nm)(e:upd F (aS x) v (aS nm)=some u):(nm=x∧u=v)∨(nm≠x∧F (aS nm)=some u):=by
 unfold upd at e;split at e
 ·rename_i q;exact .inl ⟨uE hn hok q,(av e).symm⟩
 ·rename_i q;exact .inr ⟨fun r=>q (r▸rfl),e⟩
noncomputable def vL(m:Str→Option Value)(x:Str)(cv:Value):Str→Option Value:=fun y=>if y=x then some cv else m y
theorem zz{x:Str}{cv:Value}:vL m x cv x=some cv:=aG rfl
theorem z0{x y:Str}{cv:Value}(h:y≠x):vL m x cv y=m y:=aD h
theorem H0(fo:dU W μ F s.heap env)(N:aW W μ H s.heap)(eo:ft sc env){x:Str}(hx:sc.names.lookup x=some .local)(hok:dJ x){cv:Value}(hv:VR μ s.heap v cv){M:Model}{E:Value→Shared→Prop}{R:Unit→Shared→Prop}
  (k:∀{s'},td W (·=env.locals) env μ s (upd F (aS x) v) H μ s'→R () s'):wpAny M A (storeName env x cv) R E s:=by
 obtain⟨fo⟩:=fo;rename_i m cm;have kl:=eo.loc x hx;refine wpAny_storeName_local kl fo.ns (fun h' hn hs=>?_) (by rw[eo.kind];rfl)
 obtain⟨o,ho,_⟩:=vB hn;obtain⟨E',kp,N'⟩:=Gy fo N (b:=env.locals) (.inl rfl) hs ⟨o,ho⟩;refine k ⟨rfl,rfl,E',N',⟨(⟨hn,fo.out,fo.old,fun n c hc=>?_,fo.apart,fun nm u hnm e kk=>?_,fun nm u hnm e kk=>?_⟩:FO W μ _ h' env (vL m x cv) cm)⟩⟩
 ·have q:=fo.cell n c hc;exact⟨Cg q.is fun o e=>lK hs c o q.ne e,q.out,q.old,q.ne⟩
 ·rcases qQ hok hnm e with ⟨h1,h2⟩|⟨hne,e⟩
  ·exact⟨h1▸zz,h2▸hv.kp kp⟩
  ·obtain⟨e1,r⟩:=fo.loc nm u hnm e kk;exact⟨(z0 hne).trans e1,r.kp kp⟩
 ·rcases qQ hok hnm e with ⟨h1,_⟩|⟨_,e⟩
  ·rw[h1,kl] at kk;rcases kk with kk|kk<;>cases kk
  ·exact(fo.cS nm u hnm e kk).kp kp
theorem td.own{X:Addr→Prop}(x:td W X env μ s F' H' μ' s')(h:∀a,X a→Mine.own env a):fM W env μ s F' H' μ' s':=⟨x.g,x.o,x.E.weaken h,x.N,x.fo⟩
theorem oE(fo:dU W μ F s.heap env)(N:aW W μ H s.heap)(eo:ft sc env){x:Str}(hx:sc.names.lookup x=some .local∨sc.names.lookup x=some .cell)(hok:dJ x){cv:Value}(hv:VR μ s.heap v cv){M:Model}{E:Value→Shared→Prop}{R:Unit→Shared→Prop}
  (k:∀{s'},fM W env μ s (upd F (aS x) v) H μ s'→R () s'):wpAny M A (storeName env x cv) R E s:=by
 rcases hx with hx|hx
 ·exact H0 fo N eo hx hok hv fun X=>k (X.own fun a e=>.inl e)
 ·obtain⟨fo⟩:=fo;rename_i m cm;have kc:=eo.cell x hx;obtain⟨c,hc⟩:=eo.cells x (.inl hx);have q:=fo.cell x c hc;refine wpAny_storeName_cell eo.kind kc hc q.is fun h' hc' hs=>?_;obtain⟨o,ho,_⟩:=xC hc';obtain⟨E',kp,N'⟩:=Gy fo N (b:=c) (.inr ⟨x,hc⟩) hs ⟨o,ho⟩;refine k ⟨rfl,rfl,E'.weaken (fun a e=>.inr ⟨x,(show a=c from e)▸hc⟩),N',⟨(⟨fo.ns.sameBut hs (jJ q.ne),fo.out,fo.old,fun n c' hc''=>?_,fo.apart,fun nm u hnm e kk=>?_,fun nm u hnm e kk=>?_⟩:FO W μ _ h' env m (vL cm x cv))⟩⟩
  ·have r:=fo.cell n c' hc'';refine⟨?_,r.out,r.old,r.ne⟩;by_cases hn:n=x
   ·rw[hn] at hc'' ⊢;rw[zz,←av (hc.symm.trans hc'')];exact hc'
   ·rw[z0 hn];exact r.is.sameBut hs fun e=>hn (fo.apart _ _ _ hc'' (e▸hc))
  ·rcases qQ hok hnm e with ⟨h1,_⟩|⟨_,e⟩
   ·rw[h1,kc] at kk;cases kk
   ·exact(fo.loc nm u hnm e kk).kp kp
  ·rcases qQ hok hnm e with ⟨h1,h2⟩|⟨hne,e⟩
   ·exact⟨h1▸hc,h1▸zz,h2▸hv.kp kp⟩
   ·obtain⟨l,e1,r⟩:=fo.cS nm u hnm e kk;exact⟨l,(z0 hne).trans e1,r.kp kp⟩
noncomputable def isVar(sc:Scope)(x:Str):Bool:=match sc.names.lookup x with
 |some .local|some .cell|some .free=>true
 |_=>false
noncomputable def dt(sc:Scope)(x:Str):Bool:=match sc.names.lookup x with
 |some .local|some .cell=>true
 |_=>false
noncomputable def cH(x:Str):Bool:=x.cps.toList.all fun c=>decide (c<256∧c≠46)
theorem gu{x:Str}(h:cH x=true):dJ x:=fun c hc=>c6 (dh.mp h c hc)
theorem nT{x:Str}(h:dt sc x=true):sc.names.lookup x=some .local∨sc.names.lookup x=some .cell:=by
 unfold dt at h;generalize sc.names.lookup x=o at h
 cases o with
 |none=>cases h
 |some k=>cases k<;>first|exact .inl rfl|exact .inr rfl|cases h
theorem OC{x:Str}(h:isVar sc x=true):sc.names.lookup x=some .local∨sc.names.lookup x=some .cell∨sc.names.lookup x=some .free:=by
 unfold isVar at h;generalize sc.names.lookup x=o at h
 cases o with
 |none=>cases h
 |some k=>cases k<;>first|exact .inl rfl|exact .inr (.inl rfl)|exact .inr (.inr rfl)|cases h
theorem Fu(fo:dU W μ F s.heap env)(eo:ft sc env){x:Str}(hx:isVar sc x=true)(ho:dJ x)(hc:(x == ("__classdict__":Str))=false)(e:F (aS x)=some v){Q:Value→Shared→Prop}{E:Value→Shared→Prop}
  {M:Model} (h:∀cv,VR μ s.heap v cv→Q cv s):wpAny M A (loadName env x) Q E s:=by
 obtain⟨fo⟩:=fo;have cell:env.kindOf x=some .cell∨env.kindOf x=some .free→wpAny M A (loadName env x) Q E s:=fun k=>by
  obtain⟨l,e1,r⟩:=fo.cS x v ho e k;have hcell:=(fo.cell x _ l).is;rw[e1] at hcell;exact k.elim (fun k=>wpAny_loadName_cell eo.kind k l hcell (h _ r)) fun k=>wpAny_loadName_free eo.kind k l hcell (h _ r) hc
 rcases OC hx with k|k|k
 ·obtain⟨e1,r⟩:=fo.loc x v ho e (eo.loc x k);exact wpAny_loadName_local eo.kind (eo.loc x k) fo.ns e1 (h _ r)
 ·exact cell (.inl (eo.cell x k))
 ·exact cell (eo.free x k)
end
noncomputable def KE(W:Wd)(μ:Mu)(s:Shared)(Q:V→AH→Prop)(R:Value→Shared→Prop):Prop:=∀{v:V} {H':AH} {μ':Mu} {cv:Value} {s':Shared},Q v H'→bO W μ s H' μ' s'→VR μ' s'.heap v cv→R cv s'
noncomputable def KL(W:Wd)(μ:Mu)(s:Shared)(Q:List V→AH→Prop)(R:List Value→Shared→Prop):Prop:=∀{vs:List V} {H':AH} {μ':Mu} {cvs:List Value} {s':Shared},Q vs H'→bO W μ s H' μ' s'→aM μ' s'.heap vs cvs→R cvs s'
noncomputable def KT(W:Wd)(μ:Mu)(s:Shared)(Q:V→Bool→AH→Prop)(R:Bool→Shared→Prop):Prop:=∀{v:V} {t:Bool} {H':AH} {μ':Mu} {s':Shared},Q v t H'→iX H' t v→bO W μ s H' μ' s'→R t s'
noncomputable def SE(W:Wd)(n:Nat)(sc:Scope)(e:IE)(x:Expr):Prop:=∀{F:aO} {H:AH} {Q:V→AH→Prop} {env:Env} {A:Around} {s:Shared} {μ:Mu} {R:Value→Shared→Prop},ay W n e F H Q→Fr W n sc env A μ H F s→KE W μ s Q R→Wp W A (eval x env) R s
noncomputable def ST(W:Wd)(n:Nat)(sc:Scope)(e:IE)(x:Expr):Prop:=∀{F:aO} {H:AH} {Q:V→Bool→AH→Prop} {env:Env} {A:Around} {s:Shared} {μ:Mu} {R:Bool→Shared→Prop},ay W n e F H (fun v H=>Tq v H fun t=>Q v t H)→Fr W n sc env A μ H F s→KT W μ s Q R→Wp W A (isTrue x env (eval x env)) R s
noncomputable def noStar(x:Expr):Bool:=x.ctorIdx != 22
inductive f3(W:Wd)(n:Nat)(sc:Scope):c9→List Expr→Prop
 |nil:f3 W n sc .nil []
 |cons {ie:IE} {ies:c9} {x:Expr} {xs:List Expr}:SE W n sc ie x→noStar x=true→f3 W n sc ies xs→f3 W n sc (.cons ie ies) (x::xs)
noncomputable abbrev c9.two(a b:IE):c9:=.cons a (.cons b .nil)
noncomputable abbrev c9.one(a:IE):c9:=.cons a .nil
section
variable{W:Wd}{n:Nat}{sc:Scope}{F:aO}{H H':AH}{env:Env}{A:Around}{s s':Shared}{μ μ':Mu}{R:Value→Shared→Prop}{M:Model}
theorem KE.kc{Q:V→AH→Prop}{v:V}(k:KE W μ s Q R)(q:Q v H'):Kc W μ s H' v R:=fun Y r=>k q Y r
theorem sM{o:Op}{a:IE}{Q:V→AH→Prop}(e:ay W n (.op o (.one a)) F H Q):ay W n a F H fun u H=>Seq (Prim W o [u] H) Q:=e
theorem p8{o:Op}{a b:IE}{Q:V→AH→Prop}(e:ay W n (.op o (.two a b)) F H Q):ay W n a F H fun u H=>ay W n b F H fun x H=>Seq (Prim W o [u,x] H) Q:=e
theorem T1{o:Op}{a b c:IE}{Q:V→AH→Prop}(e:ay W n (.op o (.cons a (.two b c))) F H Q):ay W n a F H fun u H=>ay W n b F H fun x H=>ay W n c F H fun y H=>Seq (Prim W o [u,x,y] H) Q:=e
theorem jb{x:Expr}(h:noStar x=true)(xs:List Expr)(env:Env):starEach (x::xs) env=(false,eval x env)::starEach xs env:=by
 cases x<;>first|rfl|cases h
theorem sZ:∀{xs:List Expr},xs.all noStar=true→∀(env:Env) (pos:Pos),(backTo pos (starEach xs env)).any (·.1)=false
 | [],_,_,_=>rfl
 |x::xs,h,env,pos=>by
  rw[qj,de] at h;rw[jb h.1];exact sZ h.2 env pos
theorem f3.vT{es:c9}{xs:List Expr}(h:f3 W n sc es xs):xs.all noStar=true:=by
 induction h with
 |nil=>rfl
 |cons h1 h2 _ ih=>rw[qj,h2,ih];rfl
theorem f3.all{es:c9}{xs:List Expr}(h:f3 W n sc es xs):∀{F:aO} {H:AH} {Q:List V→AH→Prop} {env:Env} {A:Around} {s:Shared} {μ:Mu} {R:List Value→Shared→Prop} {pos:Pos},jD W n es F H Q→Fr W n sc env A μ H F s→KL W μ s Q R→Wp W A (spliced (backTo pos (starEach xs env))) R s:=by
 induction h with
 |nil=>exact fun e K k=>rF (k e (bO.refl K.N) .nil)
 |cons h1 h2 _ ih=>exact fun e K k=>o6 (h1 e K fun e1 X hu=>ih e1 (K.nx X) fun q Y hs=>k q (X.trans Y) (.cons (Y.up hu) hs)) (jb h2 _ _)
theorem iX.uniq{v:V}{t u:Bool}(x:iX H t v)(y:iX H u v):t=u:=by
 cases x with
 |none e=>cases y with|none e'=>exact e.symm.trans e'
 |bool e=>cases y with|bool e'=>exact e.symm.trans e'
 |int e=>cases y with|int e'=>exact e.symm.trans e'
 |lst hc e=>cases y with|lst hc' e'=>exact(e.symm.trans (aE (fun l:List V=>!l.isEmpty) (Cell.lst.inj (av (hc.symm.trans hc'))))).trans e'
theorem LB{l:List V}{xs:List Value}(h:xs.length=l.length):(!xs.toArray.isEmpty)=!l.isEmpty:=by
 cases l with
 |nil=>rw[lW.mp h];rfl
 |cons=>cases xs with
  |nil=>cases h
  |cons=>rfl
theorem s7(N:aW W μ H s.heap){v:V}{cv:Value}{t:Bool}(hv:VR μ s.heap v cv)(e:iX H t v){R:Bool→Shared→Prop}(k:∀tk,R t {s with toks:=tk}):Wp W A (truthy cv) R s:=by
 cases e with
 |none e=>exact hv.qM (P:=fun c=>Wp W A (truthy c) R s) (ae (e▸k s.toks))
 |bool e=>exact hv.oJ (P:=fun c=>Wp W A (truthy c) R s) (wpAny_truthy_bool (e▸k s.toks))
 |int e=>exact hv.bz (P:=fun c=>Wp W A (truthy c) R s) fun u=>PyProof.Rows.truthy_int (e▸k s.toks)
 |lst hc e=>exact gq N hc hv (P:=fun c=>Wp W A (truthy c) R s) fun _ _ _ x r z=>wpAny_truthy_list x.is (by rw[bM,r.length];exact lO z) (LB r.length▸e▸k _)
theorem ST.plain{e:IE}{x:Expr}(h:SE W n sc e x)(he:∀env,isTrue x env (eval x env)=(do let v ←eval x env;standAt x.pos;holding [v] (truthy v))):ST W n sc e x:=fun{_ _ _ env _ _ _ _} e K k=>
 PyProof.Rows.isTrue_plain (h e K fun q X r=>let ⟨t,p⟩:=q;s7 X.N r t fun tk=>k p t ⟨X.g,X.o,X.E,X.N⟩) (he env)
theorem SE.int{i:Int}{k:Nat}{pos:Pos}:SE W n sc (.const (.int i)) (.Constant (.int i) k pos):=fun e K k=>wpAny_Constant_int (k e (.refl K.N) .e7)
theorem SE.str{x:Str}{k:Nat}{pos:Pos}:SE W n sc (.const (.str x.cps.toList)) (.Constant (.str x) k pos):=fun{_ _ _ env A s _ R} e K k=>(wpAny_mkText (k e (.refl K.N) (.vD (i:=x.cps.toList))):Wp W A (mkText x) R s)
theorem SE.bool{x:Bool}{k:Nat}{pos:Pos}:SE W n sc (.const (.bool x)) (.Constant (.bool x) k pos):=fun{_ _ _ env A s _ R} e K k=>(ae (k e (.refl (tk:=s.toks) K.N) .sI):Wp W A (pure (Value.bool x)) R s)
theorem SE.TP{k:Nat}{pos:Pos}:SE W n sc (.const .none) (.Constant .none k pos):=fun{_ _ _ env A s _ R} e K k=>(ae (k e (.refl (tk:=s.toks) K.N) .of_none):Wp W A (pure Value.none) R s)
theorem SE.neg{i:Int}{k:Nat}{p pos:Pos}:SE W n sc (.const (.int (-i))) (.UnaryOp .USub (.Constant (.int i) k p) pos):=fun{_ _ _ env A s _ R} e K k'=>
 (aF (wpAny_Constant_int (aF (d8 (eG (PyProof.Rows.neg_int (k' e (.refl K.N) .e7)))))):Wp W A (do let v ←eval (.Constant (.int i) k p) env;standAt pos;holding [v] (unaryOp .USub v)) R s)
theorem SE.var{x:Str}{pos:Pos}(hx:isVar sc x=true)(ho:cH x=true)(hc:(x == ("__classdict__":Str))=false)(hd:(x == ("__debug__":Str))=false):SE W n sc (.var (aS x)) (.Name x pos):=fun{_ _ _ _ _ s _ _} e K k=>
 let ⟨h,q⟩:=e;wpAny_Name (Fu K.fo K.eo hx (gu ho) hc h fun _ r=>k q (.refl (tk:=s.toks) K.N) r) hd
theorem SE.NJ{x:Str}{i:Int}{pos:Pos}(hx:sc.names.lookup x=some .globalImplicit)(hi:W.jt x=some i)(hd:(x == ("__debug__":Str))=false):SE W n sc (.const (.int i)) (.Name x pos):=fun{_ _ _ _ _ s _ _} e K k=>by
 obtain⟨t,ht⟩:=K.wk.int x i hi;exact BX K.eo.kind (K.eo.glob x hx) (loadGlobal_global (mg:=W.mg) (K.eo.g▸K.wk.g.keeps K.N.base) ht (k e (.refl (tk:=s.toks) K.N) .e7)) hd
theorem name_fn(K:Fr W n sc env A μ H F s){x:Str}{pos:Pos}(hx:sc.names.lookup x=some .globalImplicit){u:Value}(hu:W.mg x=some u)(hd:(x == ("__debug__":Str))=false)(h:R u s):Wp W A (eval (.Name x pos) env) R s:=
 BX K.eo.kind (K.eo.glob x hx) (loadGlobal_global (mg:=W.mg) (K.eo.g▸K.wk.g.keeps K.N.base) hu h) hd
theorem ph(K:Fr W n sc env A μ H F s){x:Str}{pos:Pos}(hx:sc.names.lookup x=some .globalImplicit)(hm:x∈W.eK){u:Value}(hu:bootBuiltins x=some u)(hd:(x == ("__debug__":Str))=false)(h:R u s):Wp W A (eval (.Name x pos) env) R s:=
 BX K.eo.kind (K.eo.glob x hx) (loadGlobal_builtin (mg:=W.mg) (mb:=W.mb) (K.eo.g▸K.wk.g.keeps K.N.base) (K.wk.free x hm).1 (K.eo.b▸K.wk.b.keeps K.N.base) ((K.wk.blt x (K.wk.free x hm).2).trans hu) h) hd
theorem SE.both{a b:IE}{xa xb:Expr}(ha:SE W n sc a xa)(hb:SE W n sc b xb){Q:V→V→AH→Prop}(e:ay W n a F H fun u H=>ay W n b F H fun x H=>Q u x H)(K:Fr W n sc env A μ H F s){P:Value→Value→Shared→Prop}
  (k:∀{u x:V} {H':AH} {μ':Mu} {ca cb:Value} {s':Shared},Q u x H'→bO W μ s H' μ' s'→VR μ' s'.heap u ca→VR μ' s'.heap x cb→P ca cb s'):Wp W A (eval xa env) (fun ca s₁=>Wp W A (eval xb env) (fun cb s₂=>P ca cb s₂) s₁) s:=
 ha e K fun e1 X hu=>hb e1 (K.nx X) fun q Y hx=>k q (X.trans Y) (Y.up hu) hx
theorem SE.bin{op:Operator}{a b:IE}{xa xb:Expr}{pos:Pos}(ha:SE W n sc a xa)(hb:SE W n sc b xb):SE W n sc (.op (.bin op) (.two a b)) (.BinOp xa op xb pos):=fun e K k=>
 wpAny_BinOp (SE.both ha hb (p8 e) K fun p X hu hx=>let ⟨p,q⟩:=p;p (K.nx X).ok hu hx fun Y r=>k q (X.trans Y) r)
theorem SE.cmp{op:CmpOp}{a b:IE}{xa xb:Expr}{pos:Pos}(ha:SE W n sc a xa)(hb:SE W n sc b xb)(hm:behindInMarks op xb=false):SE W n sc (.op (.cmp op) (.two a b)) (.Compare xa [op] [xb] pos):=fun e K k=>
 wpAny_Compare1 (SE.both ha hb (p8 e) K fun p X hu hx=>let ⟨p,q⟩:=p;p (K.nx X).ok hu hx fun Y r=>k q (X.trans Y) r) hm
theorem IK{Q:V→Bool→AH→Prop}{R:Bool→Shared→Prop}{v:V}{cv:Value}(X:bO W μ s H' μ' s')(r:VR μ' s'.heap v cv)(q:Tq v H' fun t=>Q v t H')(k:KT W μ s Q R):Wp W A (truthy cv) R s':=let ⟨t,p⟩:=q;s7 X.N r t fun _=>k p t ⟨X.g,X.o,X.E,X.N⟩
theorem ST.cmp{op:CmpOp}{a b:IE}{xa xb:Expr}{pos:Pos}(ha:SE W n sc a xa)(hb:SE W n sc b xb)(hm:behindInMarks op xb=false):ST W n sc (.op (.cmp op) (.two a b)) (.Compare xa [op] [xb] pos):=fun e K k=>
 wpAny_isTrue_Compare1 (SE.both ha hb (p8 e) K fun p X hu hx=>let ⟨p,q⟩:=p;p (K.nx X).ok hu hx fun Y r=>IK (X.trans Y) r q k) hm
theorem bO.tok{tk:Nat}(X:bO W μ s H' μ' s'):bO W μ s H' μ' {s' with toks:=tk}:=⟨X.g,X.o,X.E,X.N⟩
theorem SE.and{a b:IE}{xa xb:Expr}{rest:List Expr}{pos:Pos}(ha:SE W n sc a xa)(hb:SE W n sc b (.BoolOp .And (xb::rest) pos)):SE W n sc (.and a b) (.BoolOp .And (xa::xb::rest) pos):=fun{F H Q env A s μ R} e K k=>by
 show Wp W A (do
  let v ←eval xa env
  standAt pos
  let t ←holding [v] (truthy v)
  match BoolOp.And,t with
  | .And,false| .Or,true=>pure v
  |_,_=>boolOp pos .And (eval xb env::evalEach rest env)) R s
 refine aF (ha (Q:=fun v H=>Tq v H fun t=>if t=true then ay W n b F H Q else Q v H) e K fun{v _ _ _ _} q X r=>aF (d8 (aF (eG ?_))))
 obtain⟨h,p⟩:=q;refine s7 X.N r h fun tk=>?_;split at p
 ·rename_i e1;subst e1;exact hb p (K.nx X.tok) fun q Y r=>k q (X.tok.trans Y) r
 ·rename_i e1;rw[jA.mpr e1];exact ae (k p X.tok r)
theorem SE.or{a b:IE}{xa xb:Expr}{rest:List Expr}{pos:Pos}(ha:SE W n sc a xa)(hb:SE W n sc b (.BoolOp .Or (xb::rest) pos)):SE W n sc (.or a b) (.BoolOp .Or (xa::xb::rest) pos):=fun{F H Q env A s μ R} e K k=>by
 show Wp W A (do
  let v ←eval xa env
  standAt pos
  let t ←holding [v] (truthy v)
  match BoolOp.Or,t with
  | .And,false| .Or,true=>pure v
  |_,_=>boolOp pos .Or (eval xb env::evalEach rest env)) R s
 refine aF (ha (Q:=fun v H=>Tq v H fun t=>if t=true then Q v H else ay W n b F H Q) e K fun{v _ _ _ _} q X r=>aF (d8 (aF (eG ?_))))
 obtain⟨h,p⟩:=q;refine s7 X.N r h fun tk=>?_;split at p
 ·rename_i e1;rw[e1];exact ae (k p X.tok r)
 ·rename_i e1;rw[jA.mpr e1];exact hb p (K.nx X.tok) fun q Y r=>k q (X.tok.trans Y) r
theorem SE.last{a:IE}{xa:Expr}{op:BoolOp}{pos:Pos}(ha:SE W n sc a xa):SE W n sc a (.BoolOp op [xa] pos):=ha
theorem ST.and{a b:IE}{xa xb:Expr}{rest:List Expr}{pos:Pos}(ha:ST W n sc a xa)(hb:ST W n sc b (.BoolOp .And (xb::rest) pos)):ST W n sc (.and a b) (.BoolOp .And (xa::xb::rest) pos):=fun{F H Q env A s μ R} e K k=>by
 show Wp W A (do
  match BoolOp.And,←isTrue xa env (eval xa env) with
  | .And,false=>pure false
  | .Or,true=>pure true
  |_,_=>allTrue .And (xb::rest) env) R s
 refine aF (ha (Q:=fun v t H=>if t=true then ay W n b F H fun v H=>Tq v H fun t=>Q v t H else Tq v H fun t=>Q v t H) e K fun{v t _ _ _} q h X=>?_)
 cases t with
 |true=>exact hb (by rw[aG rfl] at q;exact q) (K.nx X) fun q h Y=>k q h (X.trans Y)
 |false=>
  rw[aD ax] at q;obtain⟨h',q⟩:=q;exact ae (k (iX.uniq h' h▸q) h X)
theorem ST.or{a b:IE}{xa xb:Expr}{rest:List Expr}{pos:Pos}(ha:ST W n sc a xa)(hb:ST W n sc b (.BoolOp .Or (xb::rest) pos)):ST W n sc (.or a b) (.BoolOp .Or (xa::xb::rest) pos):=fun{F H Q env A s μ R} e K k=>by
 show Wp W A (do
  match BoolOp.Or,←isTrue xa env (eval xa env) with
  | .And,false=>pure false
  | .Or,true=>pure true
  |_,_=>allTrue .Or (xb::rest) env) R s
 refine aF (ha (Q:=fun v t H=>if t=true then Tq v H fun t=>Q v t H else ay W n b F H fun v H=>Tq v H fun t=>Q v t H) e K fun{v t _ _ _} q h X=>?_)
 cases t with
 |false=>exact hb (by rw[aD ax] at q;exact q) (K.nx X) fun q h Y=>k q h (X.trans Y)
 |true=>
  rw[aG rfl] at q;obtain⟨h',q⟩:=q;exact ae (k (iX.uniq h' h▸q) h X)
theorem ST.Qu{a:IE}{xa:Expr}{pos:Pos}(ha:ST W n sc a xa):ST W n sc a (.BoolOp .And [xa] pos):=fun{F H Q env A s μ R} e K k=>by
 show Wp W A (do
  match BoolOp.And,←isTrue xa env (eval xa env) with
  | .And,false=>pure false
  | .Or,true=>pure true
  |_,_=>allTrue .And [] env) R s
 refine aF (ha e K fun{v t _ _ _} q h X=>?_);cases t<;>exact ae (k q h X)
theorem ST.Qv{a:IE}{xa:Expr}{pos:Pos}(ha:ST W n sc a xa):ST W n sc a (.BoolOp .Or [xa] pos):=fun{F H Q env A s μ R} e K k=>by
 show Wp W A (do
  match BoolOp.Or,←isTrue xa env (eval xa env) with
  | .And,false=>pure false
  | .Or,true=>pure true
  |_,_=>allTrue .Or [] env) R s
 refine aF (ha e K fun{v t _ _ _} q h X=>?_);cases t<;>exact ae (k q h X)
end
section
variable{W:Wd}{n:Nat}{sc:Scope}{F:aO}{H H':AH}{env:Env}{A:Around}{s s':Shared}{μ μ':Mu}{R:Value→Shared→Prop}{M:Model}
theorem ST.not{a:IE}{xa:Expr}{pos:Pos}(ha:ST W n sc a xa):ST W n sc (.not a) (.UnaryOp .Not xa pos):=fun{F H Q env A s μ R} e K k=>
 (aF (ha (Q:=fun v t H=>Tq (.bool (!t)) H fun t'=>Q (.bool (!t)) t' H) e K fun q h X=>by
  obtain⟨h',p⟩:=q;exact ae (by cases h' with|bool e=>exact e▸k p (.bool e) X)):Wp W A (do return !(←isTrue xa env (eval xa env))) R s)
theorem SE.not{a:IE}{xa:Expr}{pos:Pos}(ha:SE W n sc a xa):SE W n sc (.not a) (.UnaryOp .Not xa pos):=fun{F H Q env A s μ R} e K k=>
 (aF (ha (Q:=fun v H=>Tq v H fun t=>Q (.bool (!t)) H) e K fun q X r=>aF (d8 (eG (let ⟨h,p⟩:=q;PyProof.Rows.not_of (s7 X.N r h fun _=>k p X.tok .sI))))):Wp W A (do let v ←eval xa env;standAt pos;holding [v] (unaryOp .Not v)) R s)
theorem SE.ite{c a b:IE}{xc xa xb:Expr}{pos:Pos}(hc:ST W n sc c xc)(ha:SE W n sc a xa)(hb:SE W n sc b xb):SE W n sc (.ite c a b) (.IfExp xc xa xb pos):=fun{F H Q env A s μ R} e K k=>
 (aF (hc (Q:=fun _ t H=>if t=true then ay W n a F H Q else ay W n b F H Q) e K fun{_ t _ _ _} q _ X=>by
  cases t with
  |true=>exact ha (by rw[aG rfl] at q;exact q) (K.nx X) fun q Y r=>k q (X.trans Y) r
  |false=>exact hb (by rw[aD ax] at q;exact q) (K.nx X) fun q Y r=>k q (X.trans Y) r):Wp W A (do if ←isTrue xc env (eval xc env) then eval xa env else eval xb env) R s)
theorem SE.tup{es:c9}{xs:List Expr}{k:Nat}{pos:Pos}(h:f3 W n sc es xs):SE W n sc (.op .tup es) (.Tuple xs k pos):=fun{F H Q env A s μ R} e K k=>
 (aF (d8 (aF (h.all (Q:=fun vs H=>Seq (Prim W .tup vs H) Q) e K fun p X r=>by
  obtain⟨p,q⟩:=p
  cases p with
  |mk z=>exact i8 (zJ (tk:=_) X.N r z (b8 _ _) (gK _) .new fun Y r=>k q (X.trans Y) r) (by show(List.toArray _).size≤sizeLine;rw[bM,r.length];exact eS z)))):Wp W A (do standAt pos;newTuple (←spliced (backTo pos (starEach xs env)))) R s)
theorem SE.lst{es:c9}{xs:List Expr}{pos:Pos}(h:f3 W n sc es xs):SE W n sc (.op .lst es) (.List xs pos):=fun{F H Q env A s μ R} e K k=>
 (aF (d8 (aF (h.all (Q:=fun vs H=>Seq (Prim W .lst vs H) Q) e K fun p X r=>by
  obtain⟨⟨z,p⟩,q⟩:=p;exact i8 (lD (tk:=_) p X.N r z (b8 _ _) (gK _) .new fun Y r=>k q (X.trans Y) r) (by show(List.toArray _).size≤sizeLine;rw[bM,r.length];exact eS z)))):Wp W A (do standAt pos;newList (←spliced (backTo pos (starEach xs env)))) R s)
theorem SE.dict{pos:Pos}:SE W n sc (.op .e5 .nil) (.Dict [] [] pos):=fun{F H Q env A s μ R} e K k=>by
 obtain⟨p,q⟩:=(e:Seq (Prim W .e5 [] H) Q);rw[eval_Dict_empty];exact aF (d8 (i8 (SR p K.N fun Y r=>k q Y r) (by size_fits)))
noncomputable def za(x:Expr):Bool:=x.ctorIdx != 26
theorem Ta{xi:Expr}(h:za xi=true)(o i:Value):subscripted xi false o i=operate [o,i] (getItem o i):=by
 cases xi<;>first|rfl|cases h
theorem cN.tail{g:Value×Value}{xa xi:Expr}{ops:List Value}{ca ci:Value}(x:cN W A s ca (getItem ca ci) R)(h:subscripted xi false ca ci=operate ops (getItem ca ci)):Wp W A (subscriptTail xa xi ca ci) R s:=let ⟨hT,hl,w⟩:=x;tail_any hT hl w h
theorem SE.sub{a i:IE}{xa xi:Expr}{pos:Pos}(ha:SE W n sc a xa)(hi:SE W n sc i xi)(hns:za xi=true):SE W n sc (.op .sub (.two a i)) (.Subscript xa xi pos):=fun e K k=>
 Subscript_ (SE.both ha hi (p8 e) K fun{_ _ _ _ ca cb _} p X hu hx=>by
  obtain⟨p,q⟩:=p
  cases p with
  |mk p=>exact(p (K.nx X).ok hu hx fun Y r=>k q (X.trans Y) r).tail (g:=(ca,cb)) (Ta hns _ _))
theorem SE.attr{a:IE}{xa:Expr}{nm:Str}{pos:Pos}(ha:SE W n sc a xa)(hn:nm∈W.attrs)(he:∀env,attributeBase xa nm env (eval xa env)=eval xa env):SE W n sc (.op (.attr (aS nm)) (.one a)) (.Attribute xa nm pos):=fun{F H Q env A s μ R} e K k=>by
 show Wp W A (do
  let o ←attributeBase xa nm env (eval xa env)
  standAt pos.atName
  let r ←holding [o] (getAttr o nm true)
  letTemporaryGo xa o r
  pure r) R s
 rw[he];refine aF (ha (sM e) K fun p X hu=>aF (d8 (aF (eG ?_))));obtain⟨p,q⟩:=p
 cases p with
 |mk p=>exact CQ K.wk X.N hn hu p fun Y r=>aF (wpAny_letTemporaryGo (ae (k q (X.trans Y) r)))
theorem AN{xa:Expr}{lo hi:Option Expr}{p pos:Pos}{Q:Value→Shared→Prop}{E:Value→Shared→Prop}
  (h:wpAny M A (eval xa env) (fun o s₁=>wpAny M A (evalPart lo env) (fun l s₂=>wpAny M A (evalPart hi env) (fun u s₃=>
   wpAny M A (subscriptTail xa (.Slice lo hi none p) o (.ref s₃.heap.objs.size)) Q E {s₃ with heap:=s₃.heap.push (lN l u)}) E s₂) E s₁) E s):
  wpAny M A (eval (.Subscript xa (.Slice lo hi none p) pos) env) Q E s:=
 Subscript_ (lT h (fun o s₁ h₁=>wpAny_Slice (lT h₁ (fun l s₂ h₂=>lT h₂ (fun u s₃ h₃=>ae h₃) fun _ _ e=>e) fun _ _ e=>e)) fun _ _ e=>e)
theorem SE.i6{a b:IE}{xa xb:Expr}{p pos:Pos}(ha:SE W n sc a xa)(hb:SE W n sc b xb):SE W n sc (.op .i6 (.two a b)) (.Subscript xa (.Slice none (some xb) none p) pos):=fun e K k=>
 AN (ha (p8 e) K fun e1 X hu=>ae (hb e1 (K.nx X) fun p Y hx=>let ⟨p,q⟩:=p;(p ((K.nx X).nx Y).ok (Y.up hu) hx fun Z r=>k q ((X.trans Y).trans Z) r).tail (g:=(.none,.none)) (ops:=[_,_]) rfl))
theorem SE.gj{a b:IE}{xa xb:Expr}{p pos:Pos}(ha:SE W n sc a xa)(hb:SE W n sc b xb):SE W n sc (.op .gj (.two a b)) (.Subscript xa (.Slice (some xb) none none p) pos):=fun e K k=>
 AN (ha (p8 e) K fun e1 X hu=>hb e1 (K.nx X) fun p Y hx=>ae (let ⟨p,q⟩:=p;(p ((K.nx X).nx Y).ok (Y.up hu) hx fun Z r=>k q ((X.trans Y).trans Z) r).tail (g:=(.none,.none)) (ops:=[_,_]) rfl))
theorem SE.cut{a b d:IE}{xa xb xd:Expr}{p pos:Pos}(ha:SE W n sc a xa)(hb:SE W n sc b xb)(hd:SE W n sc d xd):SE W n sc (.op .cut (.cons a (.two b d))) (.Subscript xa (.Slice (some xb) (some xd) none p) pos):=fun e K k=>
 AN (ha (T1 e) K fun e1 X hu=>hb e1 (K.nx X) fun e2 Y hx=>hd e2 ((K.nx X).nx Y) fun p Z hy=>let ⟨p,q⟩:=p;(p (((K.nx X).nx Y).nx Z).ok ((Y.trans Z).up hu) (Z.up hx) hy fun U r=>k q (((X.trans Y).trans Z).trans U) r).tail (g:=(.none,.none)) (ops:=[_,_]) rfl)
end
inductive jM:List (List Nat)→List Expr→Prop
 |nil:jM [] []
 |cons {x:Str} {k:Nat} {p:Pos} {l:List (List Nat)} {xs:List Expr}:jM l xs→jM (x.cps.toList::l) (.Constant (.str x) k p::xs)
inductive jm:List (List Nat)→List Value→Prop
 |nil:jm [] []
 |cons {x:List Nat} {t:Tok} {l:List (List Nat)} {vs:List Value}:jm l vs→jm (x::l) (.str ⟨x.toArray⟩ t::vs)
noncomputable def F1.nm:F1→Str
 | .len=>"len"
 | .sorted=>"sorted"
 | .list=>"list"
 | .tuple=>"tuple"
 | .str=>"str"
section
variable{W:Wd}{n:Nat}{sc:Scope}{F:aO}{H H':AH}{env:Env}{A:Around}{s s':Shared}{μ μ':Mu}{R:Value→Shared→Prop}{M:Model}
structure CE(W:Wd)(n:Nat)(sc:Scope)(e:IE)(x:Expr):Prop where
 se:SE W n sc e x
 st:ST W n sc e x
theorem xH{o:Op}{op:CmpOp}{a:IE}{xa xb:Expr}{pos:Pos}(ha:SE W n sc a xa)(hm:behindInMarks op xb=false)
  (h:∀{env:Env} {A:Around} {s:Shared} {μ:Mu} {H:AH} {F:aO} {u v:V} {H':AH} {ca:Value} {R:Value→Shared→Prop},Fr W n sc env A μ H F s→VR μ s.heap u ca→Prim W o [u] H v H'→Kc W μ s H' v R→Wp W A (eval xb env) (fun cb s₂=>Wp W A (compareOp op ca cb) R s₂) s):
  CE W n sc (.op o (.one a)) (.Compare xa [op] [xb] pos):=
 ⟨fun e K k=>wpAny_Compare1 (ha (sM e) K fun p X hu=>let ⟨p,q⟩:=p;h (K.nx X) hu p fun Y r=>k q (X.trans Y) r) hm,
  fun e K k=>wpAny_isTrue_Compare1 (ha (sM e) K fun p X hu=>let ⟨p,q⟩:=p;h (K.nx X) hu p fun Y r=>IK (X.trans Y) r q k) hm⟩
theorem TX{u:V}{cu:Value}{h:Heap}(hu:VR μ h u cu):(!(cu == Value.none))=ub u:=by
 cases u with
 |none=>exact hu.qM (P:=fun c=>(!(c == Value.none))=false) rfl
 |bool=>exact hu.oJ (P:=fun c=>(!(c == Value.none))=true) rfl
 |int=>exact hu.bz (P:=fun c=>(!(c == Value.none))=true) fun _=>rfl
 |str=>exact hu.fm (P:=fun c=>(!(c == Value.none))=true) fun _=>rfl
 |tup=>exact hu.fq (P:=fun c=>(!(c == Value.none))=true) fun _ _ _ _ _ _=>rfl
 |lst=>exact hu.qK (P:=fun c=>(!(c == Value.none))=true) fun _ _ _ _ _ _=>rfl
 |obj=>exact hu.oK (P:=fun c=>(!(c == Value.none))=true) fun _ _=>rfl
theorem SE.lG{a:IE}{xa:Expr}{k:Nat}{p pos:Pos}(ha:SE W n sc a xa):CE W n sc (.op .lG (.one a)) (.Compare xa [.IsNot] [.Constant .none k p] pos):=
 xH ha rfl fun{_ _ s _ _ _ _ _ _ ca R} K hu e c=>by
  cases e with
  |mk=>exact(ae (isNot_none (TX hu▸c.here (tk:=s.toks) K.N .sI)):Wp W _ (pure Value.none) (fun cb s₂=>Wp W _ (compareOp .IsNot ca cb) R s₂) s)
theorem S7{a b:Addr}{l:List V}{xs:List Value}(hx:s.heap.IsList a xs.toArray)(hy:s.heap.IsList b #[])(hu:A.units<cLine)(e:xs.length=l.length):RcNeAt A s (.ref a) (.ref b) (!l.isEmpty):=by
 cases l with
 |nil=>
  have h0:=lW.mp e;subst h0;exact RcNeAt.lists (e:=fun _=>true) hx hy rfl hu fun j h1=>absurd h1 (q5 j)
 |cons=>exact RcNeAt.lists_lengths hx hy (by rw[bM,e];rfl) hu
theorem SE.fh{a:IE}{xa:Expr}{p pos:Pos}(ha:SE W n sc a xa):CE W n sc (.op .fh (.one a)) (.Compare xa [.NotEq] [.List [] p] pos):=
 xH ha rfl fun{_ A s _ _ _ _ _ _ ca R} K hu e c=>by
  cases e with
  |mk hl=>
   refine(aF (d8 (aF (Calls.spliced_nil (i8 ?_ (by size_fits))))):Wp W A (do standAt p;newList (←spliced [])) (fun cb s₂=>Wp W A (compareOp .NotEq ca cb) R s₂) s)
   have k:=b8 s.heap {cls:=.type "list",data:=.seq ([]:List Value).toArray};exact hl.at K.N hu (P:=fun ca=>Wp W A (compareOp .NotEq ca _) R _) fun a xs x r z=>S7 (s:={s with heap:=s.heap.push {cls:=.type "list",data:=.seq ([]:List Value).toArray}}) (x.at (k a)).is ⟨_,dW _ rfl,rfl,0,rfl⟩ K.rb.rm.lt r.length _ _ _ _ (c (.grow (tk:=s.toks) K.N k) .sI)
theorem jM.eval{l:List (List Nat)}{xs:List Expr}(h:jM l xs){pos:Pos}{Q:List Value→Shared→Prop}{E:Value→Shared→Prop}:
  ∀{s:Shared},(∀tk vs,jm l vs→Q vs {s with toks:=tk})→wpAny M A (spliced (backTo pos (starEach xs env))) Q E s:=by
 induction h generalizing Q with
 |nil=>exact fun{s} h=>rF (h s.toks [] .nil)
 |@cons x k p l xs _ ih=>exact fun{s} h=>o6 (wpAny_mkText (ih (s:={s with toks:=s.toks+1}) fun tk vs hv=>h tk (.str x s.toks::vs) (.cons (x:=x.cps.toList) (t:=s.toks) hv)):wpAny M A (mkText x) _ _ s) (jb rfl _ _)
theorem jm.any{l:List (List Nat)}{vs:List Value}(h:jm l vs)(x:List Nat):vs.any (fun y=>Value.isStrOf ⟨x.toArray⟩ y)=l.contains x:=by
 induction h with
 |nil=>rfl
 |@cons y t l vs _ ih=>
  rw[oU,BD,ih];refine aE (·||_) ?_;show((⟨y.toArray⟩:Str) == ⟨x.toArray⟩)=_;rw[vV,mi,l6,dm];exact eq_comm
theorem jm.eq{l:List (List Nat)}{vs:List Value}(h:jm l vs)(x:List Nat)(t:Tok):∀y∈vs,EqAt A s y (.str ⟨x.toArray⟩ t) (Value.isStrOf ⟨x.toArray⟩ y):=by
 induction h with
 |nil=>exact fun _ q=>nomatch q
 |@cons y t l vs _ ih=>exact fun u hu=>(a8.mp hu).elim (fun e=>e▸EqAt.str_str _ _ _ _) (ih u)
theorem jm.len{l:List (List Nat)}{vs:List Value}(h:jm l vs):vs.length=l.length:=by
 induction h with
 |nil=>rfl
 |cons _ ih=>exact aE (·+1) ih
theorem jM.len{l:List (List Nat)}{vs:List Expr}(h:jM l vs):l.length=vs.length:=by
 induction h with
 |nil=>rfl
 |cons _ ih=>exact aE (·+1) ih
theorem SE.eE{a:IE}{xa:Expr}{l:List (List Nat)}{xs:List Expr}{p pos:Pos}(ha:SE W n sc a xa)(hl:jM l xs)(hz:xs.length<1000):CE W n sc (.op (.eE l) (.one a)) (.Compare xa [.In] [.List xs p] pos):=
 xH ha rfl fun{env A s _ _ _ _ _ _ ca R} K hu e c=>by
  cases e with
  |mk=>
   refine hu.fm (P:=fun ca=>Wp W A _ (fun cb s₂=>Wp W A (compareOp .In ca cb) R s₂) s) fun t=>?_;refine(aF (d8 (aF (hl.eval fun tk vs hv=>?_))):Wp W A (do standAt p;newList (←spliced (backTo p (starEach xs env)))) (fun cb s₂=>Wp W A (compareOp .In _ cb) R s₂) s);refine i8 ?_ (by show vs.toArray.size≤sizeLine;rw[bM,hv.len,hl.len];exact aA (dk hz) (by decide))
   exact in_listAt (s:={s with heap:=s.heap.push {cls:=.type "list",data:=.seq vs.toArray},toks:=tk}) _ ⟨_,dW _ rfl,rfl,0,rfl⟩ (fun y hy=>hv.eq _ t y (Array.mem_toArray.mp hy)) (by rw[List.any_toArray,hv.any];exact c (.grow K.N (b8 _ _)) .sI)
theorem w9{f:Value}(hk:keepIn W.K f=true){es:c9}{xs:List Expr}(h:f3 W n sc es xs)(K:Fr W n sc env A μ H F s){Q:List V→AH→Prop}(e:jD W n es F H Q){first:List Value}{pos:Pos}
  (k:KL W μ s Q (fun cvs s₁=>Wp W A (call f (first++cvs)) R s₁)):Wp W A (callWith pos f first (backTo pos (starEach xs env)) []) R s:=by
 have hst:=h.vT;have hall:=h.all (pos:=pos) (R:=fun cvs s₁=>W.K.In s₁.heap∧Wp W A (call f (first++cvs)) R s₁) e K fun q X r=>⟨nW K.wk X.N,k q X r⟩
 cases h with
 |nil=>exact callWith_K0 (nW K.wk K.N) hk (k (cvs:=[]) e (.refl (tk:=s.toks) K.N) .nil)
 |@cons ie ies x rest h1 h2 h3=>
  rw[qj,de] at hst;exact callWith_K K.wk.yp hk hall (jb hst.1 rest env) (sZ hst.2 env pos)
theorem xj{f:Nat}{vs:List V}{Q:V→AH→Prop}(q:Fn W n f vs H Q){a:Addr}(ha:W.k6 f=some a)(K:Ok W n A μ H s){cvs:List Value}(r:aM μ s.heap vs cvs)(k:KE W μ s Q R):Wp W A (call (.ref a) cvs) R s:=
 wpAny_call (q ha K r fun{_ _} q {_ _ _} X r=>k q X r)
theorem SE.call{x:Str}{f:Nat}{es:c9}{xs:List Expr}{p pos:Pos}(hx:sc.names.lookup x=some .globalImplicit)(hf:W.js x=some f)(hd:(x == ("__debug__":Str))=false)(h:f3 W n sc es xs):SE W n sc (.call f es) (.Call (.Name x p) xs [] pos):=fun{F H Q _ _ _ _ _} e K k=>
 let ⟨a,ha,hm⟩:=K.wk.fn x f hf
 Call_ (name_fn K hx hm hd (w9 (first:=[]) (K.wk.xk f a ha) h K (Q:=fun vs H=>Fn W n f vs H Q) e fun q X r=>xj q ha (K.nx X).ok r fun q Y r=>k q (X.trans Y) r))
theorem t8{id:String}{first:List Value}{x:Expr}{xs:List Expr}(hst:(x::xs).all noStar=true){pos:Pos}{Q:Value→Shared→Prop}{E:Value→Shared→Prop}
  (h:wpAny M A (spliced (backTo pos (starEach (x::xs) env))) (fun cvs s₁=>wpAny M A (PySem.call (.builtin id) (first++cvs)) Q E s₁) E s):
  wpAny M A (callWith pos (.builtin id) first (backTo pos (starEach (x::xs) env)) []) Q E s:=by
 have hp:=sZ hst env pos;rw[qj,de] at hst;rw[jb hst.1] at h hp ⊢;exact callWith_builtin hp (Calls.evalArgs_plain h)
theorem rM{T:String}{x:Expr}{xs:List Expr}(hst:(x::xs).all noStar=true){pos:Pos}{Q:Value→Shared→Prop}{E:Value→Shared→Prop}
  (h:wpAny M A (spliced (backTo pos (starEach (x::xs) env))) (fun cvs s₁=>wpAny M A (PySem.call (.type T) cvs) Q E s₁) E s):
  wpAny M A (callWith pos (.type T) [] (backTo pos (starEach (x::xs) env)) []) Q E s:=by
 have hp:=sZ hst env pos;rw[qj,de] at hst;rw[jb hst.1] at h hp ⊢;exact PySem.callWith_type hp (Calls.evalArgs_plain h)
theorem p7{x:Expr}(h:noStar x=true):[x].all noStar=true:=by rw[qj,h];rfl
theorem J3{f:F1}{x:Expr}(hst:noStar x=true){pos:Pos}(h:wpAny M A (spliced (backTo pos (starEach [x] env))) (fun cvs s₁=>wpAny M A (PySem.call f.fv cvs) R F0 s₁) F0 s):wpAny M A (callWith pos f.fv [] (backTo pos (starEach [x] env)) []) R F0 s:=by
 cases f with
 |len=>exact t8 (p7 hst) h
 |sorted=>exact t8 (p7 hst) h
 |_=>exact rM (p7 hst) h
theorem MC(f:F1):bootBuiltins f.nm=some f.fv:=by cases f<;>decide+kernel
theorem MD(f:F1):(f.nm == ("__debug__":Str))=false:=by cases f<;>decide+kernel
theorem tm{xa:Expr}{a:IE}(ha:SE W n sc a xa)(hst:noStar xa=true){pos:Pos}(K:Fr W n sc env A μ H F s){Q:V→AH→Prop}(e:ay W n a F H Q){P:List Value→Shared→Prop}
  (k:KE W μ s Q (fun ca s₁=>P [ca] s₁)):Wp W A (spliced (backTo pos (starEach [xa] env))) P s:=
 o6 (ha e K fun q X r=>rF (k q X r)) (jb hst _ _)
theorem SE.Ll{f:F1}{a:IE}{xa:Expr}{p pos:Pos}(hg:sc.names.lookup f.nm=some .globalImplicit)(hb:f.nm∈W.eK)(ha:SE W n sc a xa)(hst:noStar xa=true):SE W n sc (.op (.f1 f) (.one a)) (.Call (.Name f.nm p) [xa] [] pos):=fun e K k=>
 Call_ (ph K hg hb (MC f) (MD f) (J3 hst (tm ha hst K (sM e) fun p X hu=>let ⟨p,q⟩:=p;p (K.nx X).ok hu fun Y r=>k q (X.trans Y) r)))
theorem SE.VW{p pos:Pos}(hg:sc.names.lookup ("set":Str)=some .globalImplicit)(hb:("set":Str)∈W.eK):SE W n sc (.op .mS .nil) (.Call (.Name "set" p) [] [] pos):=fun{F H Q _ _ _ _ _} e K k=>
 Call_ (ph K hg hb (u:=.type "set") (by decide+kernel) (by decide+kernel) (callWith_type0 (let ⟨p,q⟩:=(e:Seq (Prim W .mS [] H) Q);p K.ok fun Y r=>k q Y r)))
theorem SE.listRev{a:IE}{xa:Expr}{p p' pos pos':Pos}(hg:sc.names.lookup ("list":Str)=some .globalImplicit)(hb:("list":Str)∈W.eK)(hg':sc.names.lookup ("reversed":Str)=some .globalImplicit)(hb':("reversed":Str)∈W.eK)
  (ha:SE W n sc a xa) (hst:noStar xa=true):SE W n sc (.op .listRev (.one a)) (.Call (.Name "list" p) [.Call (.Name "reversed" p') [xa] [] pos'] [] pos):=fun e K k=>
 Call_ (ph K hg hb (u:=.type "list") (by decide+kernel) (by decide+kernel) (rM rfl (o6
  (Call_ (ph K hg' hb' (u:=.type "reversed") (by decide+kernel) (by decide+kernel) (rM (p7 hst) (tm ha hst K (sM e) fun p X hu=>let ⟨p,q⟩:=p;
   lT (p (K.nx X).ok hu fun Y r=>k q (X.trans Y) r) (fun _ _ h=>rF h) fun _ _ e=>e)))) (jb rfl _ _))))
end
noncomputable def NR:Expr→Bool
 | .Call (.Name _ _) (_::_) _ _=>true
 |_=>false
noncomputable def lH(x:Expr):Bool:=x.ctorIdx != 16||NR x
theorem Js{nm:Str}{env:Env}{w:Sem Value}:∀{x:Expr},lH x=true→attributeBase x nm env w=w:=by
 intro x
 cases x with
 |Call f args iE p=>cases f with
  |Name=>cases args with
   |nil=>exact fun h=>(ax h).elim
   |cons=>exact fun _=>rfl
  |_=>exact fun h=>(ax h).elim
 |_=>exact fun _=>rfl
theorem G9{x:Expr}(h:lH x=true)(nm:Str)(env:Env):attributeBase x nm env (eval x env)=eval x env:=Js h
section
variable{W:Wd}{n:Nat}{sc:Scope}{F:aO}{H H':AH}{env:Env}{A:Around}{s s':Shared}{μ μ':Mu}{R:Value→Shared→Prop}{M:Model}
theorem SE.new{x:Str}{c:Nat}{es:c9}{xs:List Expr}{p pos:Pos}(hx:sc.names.lookup x=some .globalImplicit)(hf:W.jr x=some c)(hd:(x == ("__debug__":Str))=false)(h:f3 W n sc es xs):SE W n sc (.new c es) (.Call (.Name x p) xs [] pos):=fun{F H Q _ A _ _ R} e K k=>by
 obtain⟨cA,hcA,hm,hkeep⟩:=K.wk.Cf x c hf;refine Call_ (name_fn K hx hm hd (w9 (first:=[]) hkeep h K (Q:=fun vs H=>ot W n c vs H Q) e fun{vs H₁ μ₁ cvs s₁} q X r=>wpAny_call ?_))
 obtain⟨hinit,q⟩:=q;obtain⟨fa,hfa,hfind,hisfn⟩:=K.wk.init c _ cA hcA hinit;have K₁:=(K.nx X).ok;obtain⟨hh,g,dr,tk,os⟩:=s₁;have XK:W.K.In hh:=nW (s:=⟨hh,g,dr,tk,os⟩) K₁.wk K₁.N;refine make_core (h:=hh) (makes_of XK (K.wk.Cr c cA hcA)) (looks_findIn XK hfind) (fun self=>bind_fn XK self (dm.mp hisfn)) (.inl rfl) ?_;have k2:∀b o,hh.get? b=some o→((hh.push emptyDict).push (instObj cA hh.objs.size)).get? b=some o:=fun b o e=>b8 _ _ _ _ (b8 _ _ _ _ e);have hs1:(hh.push emptyDict).objs.size=hh.objs.size+1:=tL ..;have o1:((hh.push emptyDict).push (instObj cA hh.objs.size)).get? hh.objs.size=some emptyDict:=b8 _ _ _ _ (dW _ rfl);have o2:((hh.push emptyDict).push (instObj cA hh.objs.size)).get? (hh.objs.size+1)=some (instObj cA hh.objs.size):=hs1▸dW _ rfl;have f1:hh.get? (hh.objs.size+1)=none:=hs1▸pO (b8 hh emptyDict);have hn:∀a∈adr (hh.objs.size+1,some hh.objs.size),hh.get? a=none:=IV (P:=fun a=>hh.get? a=none) rfl f1 (gK _);have N₂:=K₁.N.push (h':=(hh.push emptyDict).push (instObj cA hh.objs.size)) (c:=.inst c []) k2 hn (ba.mpr ⟨fun m=>Nat.succ_ne_self _ (a6.mp m),ba.mpr ⟨dM,dF⟩⟩) ⟨rfl,hcA,rfl,⟨o2,rfl,rfl,o1⟩,.nil,dF⟩ fun _ e=>ao e;have X₂:bO W μ₁ ⟨hh,g,dr,tk,os⟩ (H₁++[.inst c []]) (μ₁.push (hh.objs.size+1,some hh.objs.size)) ⟨(hh.push emptyDict).push (instObj cA hh.objs.size),g,dr,tk,os⟩:=⟨rfl,rfl,uN k2 hn,N₂⟩;have hp:=HG K₁.N (hh.objs.size+1,some hh.objs.size);refine codeAny_mono (q hfa (A:=A.under (.builtin "type.__call__" ⟨.ref cA::cvs,[]⟩)) (R:=fun u s'=>u=.none∧R (.ref (hh.objs.size+1)) s') ⟨K.wk,K.rb.made cA cvs,N₂⟩ (.cons (.sL hp) (X₂.ups r)) fun{_ _} q {_ _ _} Y ru=>?_) fun r s' hr=>?_
 ·obtain⟨e,q⟩:=q;exact(e▸ru:VR _ _ .none _).qM (P:=fun u=>u=Value.none∧R _ _) ⟨rfl,k q ((X.trans X₂).trans Y) (.sL (jY Y.E.pre hp))⟩
 ·cases r with
  |error e=>exact hr.elim
  |ok fl=>
   cases fl with
   |ret u=>exact hr
   |_=>exact hr.elim
theorem JW{xs:List Expr}(h:xs.all noStar=true)(hl:xs.length<25)(env:Env)(pos:Pos):
  methodCallForm (xs.length+([]:List Keyword).length) (backTo pos (starEach xs env)) (backToKw pos (keywordEach [] env))=true:=by
 show((backTo pos (starEach xs env)).all (fun x=>!x.1)&&(backToKw pos (keywordEach [] env)).all (fun x=>x.1.isSome)&&decide (xs.length+([]:List Keyword).length+(if ([]:List Keyword).isEmpty then 0 else 1)<30))=true
 rw[de,de];refine⟨⟨dh.mpr fun x hx=>?_,rfl⟩,a9 (bj hl (by decide))⟩
 have:=List.any_eq_false.mp (sZ h env pos) x hx
 rw[Bool.not_eq_true] at this;rw[this];rfl
theorem zH{o:Expr}{nm:Str}{apos pos:Pos}{xs:List Expr}(hb:lH o=true)(hst:xs.all noStar=true)(hl:xs.length<25)(hline:(apos.endLine == pos.line)=true)
  (h:Wp W A (eval o env) (fun ov s₁=>∀pl,Wp W A (getMethod ov nm pl) (fun r s₂=>Wp W A (callWith pos r.1 r.2 (backTo pos (starEach xs env)) []) R s₂) s₁) s):
  Wp W A (eval (.Call (.Attribute o nm apos) xs [] pos) env) R s:=by
 rw[arm_eval_Call,G9 hb];refine aF (lT h (fun ov s₁ h₁=>aF (d8 ?_)) fun _ _ e=>e);have hpos:methodCallPos true o env apos pos=pure pos:=by unfold methodCallPos;simp [hline]
 unfold methodCall;rw[JW hst hl env pos];exact aF (eG (lT (h₁ _) (fun r s₂ h₂=>aF (gR hpos h₂)) fun _ _ e=>e))
theorem SE.aV{o:IE}{xo:Expr}{nm:Str}{es:c9}{xs:List Expr}{apos pos:Pos}(ho:SE W n sc o xo)(hb:lH xo=true)(hnm:nm∈W.jU)(hl:xs.length<25)(hline:(apos.endLine == pos.line)=true)(h:f3 W n sc es xs):
  SE W n sc (.aV o (aS nm) es) (.Call (.Attribute xo nm apos) xs [] pos):=fun{F H Q _ A _ _ R} e K k=>by
 refine zH hb h.vT hl hline (ho (Q:=fun u H=>lZ W (aS nm) u H fun f=>jD W n es F H fun vs H=>Fn W n f (u::vs) H Q) e K fun{u H₁ μ₁ cu s₁} q X hu pl=>?_);obtain⟨e,hcell,hmeth,hfld,q⟩:=q;subst e;refine yN X.N hcell hu (P:=fun cu=>VR μ₁ s₁.heap (.obj _) cu→Wp W A (getMethod cu nm pl) _ s₁) (fun a d cA ox es' n' hp hcA hd I f nd hu=>?_) hu;obtain⟨fa,hfa,hfind,hisfn⟩:=K.wk.nj _ nm _ cA hcA hnm hmeth;have hg:=plainGet_of (K.wk.xE _ cA nm hcA);obtain⟨⟨h1,h2⟩⟩:=f.get (K.wk.GH nm hnm);rw[hfld] at h2
 cases h2 with
 |no=>exact method_fn (nW K.wk X.N) I hg.1 hg.2 hfind (dm.mp hisfn) (by show(lookIn nm (dictOf es' n')).map _=_;rw[lookIn_dict,h1];rfl) (w9 (K.wk.xk _ fa hfa) h (K.nx X) (Q:=fun vs H=>Fn W n _ (.obj _::vs) H Q) q fun q Y r=>xj q hfa ((K.nx X).nx Y).ok (.cons (Y.up hu) r) fun q Z r=>k q ((X.trans Y).trans Z) r)
theorem CY{name:Str}{id:String}{pl:Sem Bool}{Q:Value×List Value→Shared→Prop}{ov:Value}{prog:Program}{w:World}{E:Value→Shared→Prop}(b:BM s ov name id)(h:Q (.builtin id,[ov]) s):wpAny (model prog w) A (getMethod ov name pl) Q E s:=by
 cases b with|mk pa slot ty hT hd=>exact getMethod_builtin hT pa slot ty hd h
theorem SE.bm{m:Mt}{a:IE}{xa:Expr}{es:c9}{xs:List Expr}{apos pos:Pos}(ha:SE W n sc a xa)(hb:lH xa=true)(hl:xs.length<25)(hline:(apos.endLine == pos.line)=true)(h:f3 W n sc es xs):SE W n sc (.bm m a es) (.Call (.Attribute xa m.nm apos) xs [] pos):=fun{F H Q env A _ _ R} e K k=>by
 refine zH hb h.vT hl hline (ha (Q:=fun u H=>au (Recv W m u H) (jD W n es F H fun vs H=>Seq (bu W m (u::vs) H) Q)) e K fun q X hu pl=>?_);obtain⟨p,q⟩:=q;refine CY (p X.N hu) ?_;have hall:=fun pos=>h.all (pos:=pos) (R:=fun cvs s₁=>Wp W A (PySem.call (.builtin m.id) ([_]++cvs)) R s₁) q (K.nx X) fun q Y r=>let ⟨p,q⟩:=q;p ((K.nx X).nx Y).ok (.cons (Y.up hu) r) fun Z r=>k q ((X.trans Y).trans Z) r;have hst:=h.vT
 cases h with
 |nil=>exact callWith_method0 (let ⟨p,q⟩:=(q:Seq (bu W m [_] _) Q);p (K.nx X).ok (.cons hu .nil) fun Z r=>k q (X.trans Z) r)
 |cons q1 q2 q3=>exact t8 hst (hall _)
theorem SE.hZ{a b:IE}{xa xb:Expr}{apos pos p' pos':Pos}(ha:SE W n sc a xa)(hbase:lH xa=true)(hline:(apos.endLine == pos.line)=true)(hb:SE W n sc b xb)(hst:noStar xb=true)
  (hg':sc.names.lookup ("reversed":Str)=some .globalImplicit) (hb':("reversed":Str)∈W.eK):SE W n sc (.hZ a b) (.Call (.Attribute xa "extend" apos) [.Call (.Name "reversed" p') [xb] [] pos'] [] pos):=fun{F H Q env A _ _ R} e K k=>by
 refine zH hbase rfl (Nat.lt_of_sub_eq_succ rfl) hline (ha (Q:=fun u H=>au (nH W u H) (ay W n b F H fun x H=>Ex fun H'=>au (kg W u x H H') (Q .none H'))) e K fun q X hu pl=>?_);obtain⟨p,q⟩:=q;refine CY (p X.N hu) (t8 rfl (o6 ?_ (jb rfl _ _)));refine Call_ (ph (K.nx X) hg' hb' (u:=.type "reversed") (by decide+kernel) (by decide+kernel) (rM (p7 hst) (tm hb hst (K.nx X) q fun q Y r=>let ⟨⟨p,q⟩⟩:=q;
  lT (p ((K.nx X).nx Y).ok (Y.up hu) r fun Z r=>k q ((X.trans Y).trans Z) r) (fun _ _ h=>rF h) fun _ _ e=>e)))
end
inductive qZ(μ:Mu)(h:Heap):Fl→Flow→Prop
 |aL:qZ μ h .aL .next
 |brk:qZ μ h .brk .brk
 |cnt:qZ μ h .cnt .cont
 |ret {v:V} {cv:Value} (r:VR μ h v cv):qZ μ h (.ret v) (.ret cv)
noncomputable def KS(W:Wd)(env:Env)(μ:Mu)(s:Shared)(Q:Fl→aO→AH→Prop)(R:Flow→Shared→Prop):Prop:=∀{fl:Fl} {F':aO} {H':AH} {μ':Mu} {f:Flow} {s':Shared},Q fl F' H'→fM W env μ s F' H' μ' s'→qZ μ' s'.heap fl f→R f s'
noncomputable def SS(W:Wd)(n:Nat)(sc:Scope)(is:IS)(st:Stmt):Prop:=∀{F:aO} {H:AH} {Q:Fl→aO→AH→Prop} {env:Env} {A:Around} {s:Shared} {μ:Mu} {R:Flow→Shared→Prop},vx W n is F H Q→Fr W n sc env A μ H F s→KS W env μ s Q R→Wp W A (exec st env) R s
noncomputable def ed(W:Wd)(n:Nat)(sc:Scope)(is:aK)(st:List Stmt):Prop:=∀{F:aO} {H:AH} {Q:Fl→aO→AH→Prop} {env:Env} {A:Around} {s:Shared} {μ:Mu} {R:Flow→Shared→Prop},dc W n is F H Q→Fr W n sc env A μ H F s→KS W env μ s Q R→Wp W A (execs st env) R s
noncomputable def jW(x:Expr):Bool:=x.ctorIdx != 8&&(x.ctorIdx != 9&&x.ctorIdx != 10)
noncomputable def notTuple(x:Expr):Bool:=x.ctorIdx != 25
theorem si{t:Option Expr}{l:Nat}{env:Env}:∀{x:Expr},jW x=true→swapsWith x t l env=pure false:=by
 intro x;cases x<;>first|exact fun _=>rfl|exact fun h=>(ax h).elim
theorem Vw{ts:List Expr}{k:Nat}{p:Pos}{env:Env}:∀{x:Expr},notTuple x=true→swappedStores [.Tuple ts k p] x env=pure none:=by
 intro x;cases x<;>first|exact fun _=>rfl|exact fun h=>(ax h).elim
theorem Vv{o:Expr}{nm:Str}{p:Pos}{env:Env}:∀{x:Expr},swappedStores [.Attribute o nm p] x env=pure none:=by
 intro x;cases x<;>exact rfl
section
variable{W:Wd}{n:Nat}{sc:Scope}{F F':aO}{H H':AH}{env:Env}{A:Around}{s s':Shared}{μ μ':Mu}{R:Flow→Shared→Prop}{M:Model}
theorem SS.asg{x:Str}{e:IE}{xe:Expr}{px pos:Pos}(he:SE W n sc e xe)(hx:dt sc x=true)(hok:cH x=true)(hc:jW xe=true):SS W n sc (.asg (aS x) e) (.Assign [.Name x px] xe pos):=fun{F H Q _ _ _ _ _} ev K k=>
 wpAny_Assign_Name (he (Q:=fun v H=>Q .aL (upd F (aS x) v) H) ev K fun q X r=>oE (K.nx X).fo X.N K.eo (nT hx) (gu hok) r fun Y=>k q ((K.sx X).trans Y) .aL) (si hc)
theorem SS.bw{a i e:IE}{xa xi xe:Expr}{p pos:Pos}(he:SE W n sc e xe)(ha:SE W n sc a xa)(hi:SE W n sc i xi)(hc:jW xe=true):SS W n sc (.bw a i e) (.Assign [.Subscript xa xi p] xe pos):=fun{F H Q _ _ _ _ _} ev K k=>
 wpAny_Assign_Subscript (he (Q:=fun v H=>ay W n a F H fun u H=>ay W n i F H fun x H=>Ex fun H'=>au (gG W u x v H H') (Q .aL F H')) ev K fun q X r=>SE.both ha hi q (K.nx X) fun q Y hu hx=>let ⟨⟨p,q⟩⟩:=q;
  p ((K.nx X).nx Y).ok hu hx (Y.up r) fun Z=>k q (K.sx ((X.trans Y).trans Z)) .aL) (si hc)
theorem SS.setAttr{o e:IE}{xo xe:Expr}{nm:Str}{p pos:Pos}(he:SE W n sc e xe)(ho:SE W n sc o xo)(hn:nm∈W.attrs)(hc:jW xe=true):SS W n sc (.setAttr o (aS nm) e) (.Assign [.Attribute xo nm p] xe pos):=fun{F H Q env A s μ R} ev K k=>by
 rw[arm_exec_Assign];refine aF (d8 ?_);show Wp W A (swapsWith xe (some (.Attribute xo nm p)) pos.line env >>= _) R s;rw[si hc];refine aF (ae ?_);rw[aD (by decide)]
 refine aF (he (Q:=fun v H=>ay W n o F H fun u H=>Ex fun H'=>au (hH (aS nm) H v u H') (Q .aL F H')) ev K fun{v _ _ cv s'} q X r=>?_);rw[Vv];refine aF (ae ?_);show Wp W A (assign (.Attribute xo nm p) env cv >>= fun _=>pure Flow.next) R s';rw[arm_assign_Attribute];exact aF (aF (eG (ho q (K.nx X) fun q Y hu=>aF (d8 (aF (eG (let ⟨⟨p,q⟩⟩:=q;HJ K.wk Y.N hn hu (Y.up r) p fun Z=>wpAny_release' (ae (k q (K.sx ((X.trans Y).trans Z)) .aL)))))))))
theorem SS.expr{e:IE}{xe:Expr}{pos:Pos}(he:SE W n sc e xe)(hc:jW xe=true):SS W n sc (.expr e) (.Expr xe pos):=fun{F H Q env _ _ _ _} ev K k=>by
 rw[exec_Expr env xe pos (by unfold interactive;rw[K.eo.kind];rfl) (si hc)]
 exact aF (d8 (aF (he (Q:=fun _ H=>Q .aL F H) ev K fun q X r=>wpAny_dropValue (k q (K.sx X) .aL))))
theorem SS.ret{e:IE}{xe:Expr}{pos:Pos}(he:SE W n sc e xe):SS W n sc (.ret e) (.Return (some xe) pos):=fun{F H Q _ _ _ _ _} ev K k=>
 wpAny_Return_some (he (Q:=fun v H=>Q (.ret v) F H) ev K fun q X r=>k q (K.sx X) (.ret r))
theorem SS.U8{pos:Pos}:SS W n sc (.ret (.const .none)) (.Return none pos):=fun{_ _ _ _ _ s _ _} ev K k=>wpAny_Return_none (k ev (K.s0 (tk:=s.toks)) (.ret .of_none))
theorem SS.cont{pos:Pos}:SS W n sc .cont (.Continue pos):=fun{_ _ _ _ _ s _ _} ev K k=>aF (d8 (ae (k ev (K.s0 (tk:=s.toks)) .cnt)))
theorem SS.pass{pos:Pos}:SS W n sc .pass (.Pass pos):=fun{_ _ _ _ _ s _ _} ev K k=>wpAny_Pass (k ev (K.s0 (tk:=s.toks)) .aL)
theorem ed.nil:ed W n sc .nil []:=fun{_ _ _ _ _ s _ _} ev K k=>wpAny_execs_nil (k ev (K.s0 (tk:=s.toks)) .aL)
theorem ed.cons{is:IS}{iss:aK}{st:Stmt}{sts:List Stmt}(h1:SS W n sc is st)(h2:ed W n sc iss sts):ed W n sc (.cons is iss) (st::sts):=fun{F H Q _ _ _ _ _} ev K k=>
 wpAny_execs_cons (h1 (Q:=zS (fun F H=>dc W n iss F H Q) Q) ev K fun q X hf=>by
  cases hf with
  |aL=>exact h2 q (K.p4 X) fun q Y hf=>k q (X.trans Y) hf
  |brk=>exact k q X .brk
  |cnt=>exact k q X .cnt
  |ret r=>exact k q X (.ret r))
theorem SS.ite{c:IE}{a b:aK}{xc:Expr}{xa xb:List Stmt}{pos:Pos}(hc:ST W n sc c xc)(ha:ed W n sc a xa)(hb:ed W n sc b xb):SS W n sc (.ite c a b) (.If xc xa xb pos):=fun{F H Q _ _ _ _ _} ev K k=>
 wpAny_If (hc (Q:=fun _ t H=>if t=true then dc W n a F H Q else dc W n b F H Q) ev K fun{_ t _ _ _} q _ X=>by
  cases t with
  |true=>exact ha (by rw[aG rfl] at q;exact q) (K.nx X) fun q Y hf=>k q ((K.sx X).trans Y) hf
  |false=>exact hb (by rw[aD ax] at q;exact q) (K.nx X) fun q Y hf=>k q ((K.sx X).trans Y) hf)
inductive gF(sc:Scope):List Nat→List Expr→Prop
 |nil:gF sc [] []
 |cons {x:Str} {p:Pos} {xs:List Nat} {es:List Expr}:dt sc x=true→cH x=true→gF sc xs es→gF sc (aS x::xs) (.Name x p::es)
theorem gF.len{xs:List Nat}{es:List Expr}(h:gF sc xs es):es.length=xs.length:=by
 induction h with
 |nil=>rfl
 |cons _ _ _ ih=>exact aE (·+1) ih
theorem gF.LA{xs:List Nat}{es:List Expr}(h:gF sc xs es)(env:Env):(assignEach es env).length=es.length:=by
 induction h with
 |nil=>rfl
 |cons _ _ _ ih=>exact aE (·+1) ih
theorem gF.each{xs:List Nat}{es:List Expr}(h:gF sc xs es)(env:Env):(assignEach es env).findIdx? (·.1)=none:=by
 induction h with
 |nil=>rfl
 |@cons x p xs es _ _ _ ih=>
  show((false,assign (.Name x p) env)::assignEach es env).findIdx? _=none;rw[List.findIdx?_cons,ih];rfl
theorem Jf{xs:List Nat}{es:List Expr}(hn:gF sc xs es):∀{F:aO} {l:List V} {vs:List Value} {s:Shared} {μ:Mu} {R:Unit→Shared→Prop},l.length=xs.length→Fr W n sc env A μ H F s→aM μ s.heap l vs→(∀{s'},fM W env μ s (gw F xs l) H μ s'→R () s')→
  Wp W A (assignInOrder ((assignEach es env).map (·.2)) vs) R s:=by
 induction hn with
 |nil=>
  intro F l vs s μ R hl K hv k
  cases l with
  |cons=>cases hl
  |nil=>exact ae (k (K.s0 (tk:=s.toks)))
 |@cons x p xs es hx hok _ ih=>
  intro F l vs s μ R hl K hv k
  cases l with
  |nil=>cases hl
  |cons v l=>
   refine hv.d7 (P:=fun vs=>Wp W A (assignInOrder (assign (.Name x p) env::(assignEach es env).map (·.2)) vs) R s) fun cv r hv hr=>?_;exact aF (eG (An (oE K.fo K.N K.eo (nT hx) (gu hok) hv fun X=>ih (oq hl) (K.p4 X) (hr.ext X.E K.fo.lF) fun Y=>k (X.trans Y))))
theorem Ib(hh:A.handled=none)(N:aW W μ H s.heap){l:List V}{cv:Value}(hv:VR μ s.heap (.tup l) cv){k:Nat}(hk:l.length=k){Q:List Value→Shared→Prop}
  (h:∀{s₁ vs},bO W μ s H μ s₁→aM μ s₁.heap l vs→Q vs s₁):Wp W A (unpackItems cv k none) Q s:=
 hv.fq (P:=fun cv=>Wp W A (unpackItems cv k none) Q s) fun a items _ x z r=>by
  have:=wpAny_unpackItems_tuple (prog:=W.prog) (w:=W.w) (A:=A) (E:=F0) (Q:=Q) hh x.is fun h' he=>have X:bO W μ s H μ {s with heap:=h'}:=.grow N fun b o e=>he b o (eB (gE e)) e;h X (by rw[qw];exact X.ups r)
  rwa [bM,r.length,hk] at this
theorem SS.fR{xs:List Nat}{es:List Expr}{e:IE}{xe:Expr}{k:Nat}{p pos:Pos}(he:SE W n sc e xe)(hn:gF sc xs es)(hc:jW xe=true)(hw:∀env,ft sc env→swappedStores [.Tuple es k p] xe env=pure none):
  SS W n sc (.fR xs e) (.Assign [.Tuple es k p] xe pos):=fun{F H Q env A s μ R} ev K kk=>
 Assign_Tuple (he (Q:=fun v H=>Ex fun l=>au (v=.tup l) (au (l.length=xs.length) (Q .aL (gw F xs l) H))) ev K fun q X r=>by
  obtain⟨⟨e,hl,q⟩⟩:=q;subst e;rw[arm_assign_Tuple];refine aF (d8 ?_);unfold unpack;rw[hn.each env,hn.LA env,hn.len,←hl];exact aF (eG (Ib K.rb.hd X.N r rfl fun Y r=>Jf hn hl ((K.nx X).nx Y) r fun Z=>kk q ((K.sx (X.trans Y)).trans Z) .aL))) (show swapsWithSole [.Tuple es k p] xe pos.line env=pure false from si (t:=some (.Tuple es k p)) (l:=pos.line) (env:=env) hc) (hw env K.eo)
theorem XH:2≤aJ:=by decide
theorem SS.swap{x y:Str}{a b:IE}{xa xb:Expr}{k k':Nat}{px py p p' pos:Pos}(ha:SE W n sc a xa)(hb:SE W n sc b xb)(hsx:noStar xa=true)(hsy:noStar xb=true)(hx:dt sc x=true)(hy:dt sc y=true)(hox:cH x=true)(hoy:cH y=true)
  (hw:∀env,ft sc env→swappedStores [.Tuple [.Name x px,.Name y py] k p] (.Tuple [xa,xb] k' p') env=pure (some [x,y])):
  SS W n sc (.swap (aS x) (aS y) a b) (.Assign [.Tuple [.Name x px,.Name y py] k p] (.Tuple [xa,xb] k' p') pos):=fun{F H Q env A s μ R} ev K kk=>by
 refine PyProof.Rows.Assign_Tuple_swapped (names:=[x,y]) (?_:Wp W A (eval (.Tuple [xa,xb] k' p') env) _ s) rfl (hw env K.eo);show Wp W A (do standAt p';newTuple (←spliced (backTo p' (starEach [xa,xb] env)))) _ s;refine aF (d8 (aF (o6 (ha (Q:=fun u H=>ay W n b F H fun w H=>Q .aL (upd (upd F (aS y) w) (aS x) u) H) ev K fun q X hu=>o6 (hb q (K.nx X) fun q Y hw=>rF ?_) (jb hsy _ _)) (jb hsx _ _))));refine i8 ?_ (by size_fits)
 refine zJ (R:=fun v s=>Wp W A (unpackItems v 2 none) (fun items s₂=>Wp W A (assignInOrder [fun v=>bindName env y v,fun v=>bindName env x v] items.reverse) (fun _=>R .next) s₂) s) (tk:=_) Y.N (.cons (Y.up hu) (.one hw)) XH (b8 _ _) (gK _) .new fun{_ s₃ _} Z r=>?_;refine Ib K.rb.hd Z.N r rfl ?_;intro s₄ vs U r;refine r.qJ (P:=fun vs=>Wp W A (assignInOrder [fun v=>bindName env y v,fun v=>bindName env x v] vs.reverse) (fun _=>R .next) s₄) fun cu cw hu hw=>?_;have K1:=K.nx (((X.trans Y).trans Z).trans U);show Wp W A (assignInOrder [fun v=>bindName env y v,fun v=>bindName env x v] [cw,cu]) _ _;refine aF (eG (wpAny_bindName (oE K1.fo K1.N K1.eo (nT hy) (gu hoy) hw fun V=>?_)));refine aF (eG (wpAny_bindName (oE (K1.p4 V).fo V.N K1.eo (nT hx) (gu hox) (hu.ext V.E K1.fo.lF) fun V'=>?_)));exact ae (kk q (((K.sx (((X.trans Y).trans Z).trans U)).trans V).trans V') .aL)
end
theorem Fw:typeLookup (.type "list") (dunderI "add")=pure (some (.builtin "list.__iadd__")):=by rw[md,lx];kernel_rfl
theorem Ld:fillsInplaceSlot (.type "list") "add" (Operator.Add == .Add)=pure false:=by
 unfold fillsInplaceSlot;show(typeLookup (.type "list") (dunderI "add") >>= fun fi=>pure (fi.isSome&&!isSeqSlot fi))=pure false;rw[Fw]
 kernel_rfl
theorem VV:seqSlot? (.type "list") (dunderI "add")=pure (some (.builtin "list.__iadd__")):=by
 unfold seqSlot?;rw[Fw]
 kernel_rfl
section
variable{W:Wd}{n:Nat}{sc:Scope}{F F':aO}{H H':AH}{env:Env}{A:Around}{s s':Shared}{μ μ':Mu}{R:Flow→Shared→Prop}{M:Model}
theorem Nj{prog:Program}{w:World}{E:Value→Shared→Prop}{l b:Addr}{xs ys:List Value}{Q:Value→Shared→Prop}(hl:XL s.heap l xs)(hb:XL s.heap b ys)(hz:xs.length+ys.length≤aJ)
  (h:∀h',XL h' l (xs++ys)→Heap.SameBut l s.heap h'→Q (.ref l) {s with heap:=h'}):wpAny (model prog w) A (inplaceOp .Add (.ref l) (.ref b)) Q E s:=by
 have z2:xs.toArray.size+ys.toArray.size≤sizeLine:=by rw[bM,bM];exact eS hz
 unfold inplaceOp;refine eG ?_;refine aF (wpAny_typeOf (jd hl) (aF (gR Ld ?_)));show wpAny _ A (if false=true then _ else _) Q E s
 rw[aD ax];refine aF (PySem.wpAny_binaryOp1_none (nm:="add") (jd hl) (jd hb) noFill_list_add ?_);refine aF (gR VV ?_);refine aF (vo ?_);obtain⟨ho⟩:=hl;obtain⟨ho2⟩:=hb;refine call_meets PySem.F.slot_list_iadd ⟨_,ho,rfl⟩ PySem.F.entry_list_iadd (PySem.F.args_list_iadd_2 _ _) (AutoSeq1.list___iadd___list_list_0 l xs.toArray _ b ys.toArray _ ?_ (aA (aT _ _) z2) (eI z2)) ⟨ho,ho2,?_⟩
 ·exact fun q=>fL.mpr z2 (c6 ((de _ _▸q).2))
 ·exact h _ (tA (f:=fun x=>x++ys.toArray) ho (BC _ _)) (ji ..)
theorem CS{op:Operator}{u w:V}{cu cw:Value}{Q:V→AH→Prop}{R:Value→Shared→Prop}(N:aW W μ H s.heap)(hu:VR μ s.heap u cu)(hw:VR μ s.heap w cw)(q:lU op u H w Q)(k:KE W μ s Q R):Wp W A (inplaceOp op cu cw) R s:=by
 cases q with
 |add o e e' q=>
  subst o;subst e;subst e';exact hu.bz (P:=fun c=>Wp W A (inplaceOp .Add c cw) R s) fun t=>hw.bz (P:=fun c=>Wp W A (inplaceOp .Add _ c) R s) fun t'=>PySem.P.iadd_int (k q (.refl N) .e7)
 |sub o e e' q=>
  subst o;subst e;subst e';exact hu.bz (P:=fun c=>Wp W A (inplaceOp .Sub c cw) R s) fun t=>hw.bz (P:=fun c=>Wp W A (inplaceOp .Sub _ c) R s) fun t'=>PySem.P.isub_int (k q (.refl N) .e7)
 |@lst i l l' o e hc hl z q=>
  subst o;subst e;exact hl.at N hw (P:=fun c=>Wp W A (inplaceOp .Add cu c) R s) fun b ys hb rb zb=>gq N hc hu (P:=fun c=>Wp W A (inplaceOp .Add c (.ref b)) R s) fun a xs hp hx rx zx=>
   Nj hx hb (by rw[rx.length,rb.length];exact z) fun h' hx' hs=>have T:=qI (tk:=s.toks) N hp hx (lK hs) hx' (rx.append rb) (by rw[a5];exact z);k q T (VR.sL (p:=(a,none)) (jY T.E.pre hp))
theorem SS.aug{x:Str}{op:Operator}{e:IE}{xe:Expr}{p pos:Pos}(he:SE W n sc e xe)(hx:dt sc x=true)(hok:cH x=true)(hcd:(x == ("__classdict__":Str))=false):
  SS W n sc (.aug (aS x) op e) (.AugAssign (.Name x p) op xe pos):=fun{F H Q _ _ _ _ _} ev K k=>
 let ⟨h0,ev⟩:=ev
 wpAny_AugAssign_Name (Fu K.fo K.eo (by unfold isVar;rcases nT hx with q|q<;>rw[q]) (gu hok) hcd h0 fun cv hcv=>
  he ev K fun q X hw=>CS X.N (X.up hcv) hw q fun q Y r=>oE (K.nx (X.trans Y)).fo Y.N K.eo (nT hx) (gu hok) r fun Z=>k q ((K.sx (X.trans Y)).trans Z) .aL)
theorem SS.jo{o e:IE}{xo xe:Expr}{nm:Str}{op:Operator}{p pos:Pos}(ho:SE W n sc o xo)(he:SE W n sc e xe)(hn:nm∈W.attrs):
  SS W n sc (.jo o (aS nm) op e) (.AugAssign (.Attribute xo nm p) op xe pos):=fun{F H Q env A s μ R} ev K k=>by
 rw[arm_exec_AugAssign_2];refine aF (d8 (aF (ho ev K fun{u _ _ co _} q X hu=>?_)));obtain⟨⟨ha,q⟩⟩:=q;refine aF (eG (aF (d8 (aF (CQ K.wk X.N hn hu ha fun Y hv=>?_)))));have K2:=K.nx (X.trans Y);refine aF (eG (he q K2 fun q Z hw=>?_));refine aF (d8 (wpAny_operating (CS Z.N (Z.up hv) hw q fun q U r=>?_)));obtain⟨_,⟨⟨p,q⟩⟩⟩:=q;exact aF (d8 (aF (eG (HJ K.wk U.N hn (U.up (Z.up (Y.up hu))) r p fun V=>aF (wpAny_release' (ae (k q (K.sx ((((X.trans Y).trans Z).trans U).trans V)) .aL)))))))
end
inductive gb(h:Heap)(d:Addr)(es:Array DictEntry)(ep:Nat):Prop
 |mk {o:Obj} (at_:h.get? d=some o) (x:o.ExactDict) (dat:o.data=.dict es ep)
section
variable{prog:Program}{w:World}{A:Around}{s:Shared}{d it:Addr}{es es':Array DictEntry}{ep ep' i:Nat}{h h':Heap}{E:Value→Shared→Prop}
theorem gb.typeIs(x:gb s.heap d es ep):s.TypeIs (.ref d) "dict":=let ⟨ho,hc,_⟩:=x;⟨_,ho,hc.1⟩
theorem gb.to(x:gb h d es ep)(k:∀o,h.get? d=some o→h'.get? d=some o):gb h' d es ep:=let ⟨a,b,c⟩:=x;⟨k _ a,b,c⟩
theorem gb.is(x:gb h d es ep){o:Obj}(ho:h.get? d=some o):o.data=.dict es ep:=let ⟨a,_,c⟩:=x;av (a.symm.trans ho)▸c
theorem gb.inj(x:gb h d es ep)(y:gb h d es' ep'):es=es'∧ep=ep':=let ⟨a,_,c⟩:=y;Data.dict.inj ((x.is a).symm.trans c)
theorem Uh{Q:Value→Shared→Prop}(hsm:(d == sysModules)=false)(hm:gb s.heap d es ep)
  (hQ:Q (.ref s.heap.objs.size) {s with heap:=s.heap.push {cls:=.type "dict_keyiterator",data:=.fields #[.ref d,.int 0 0,.int es.size 0,.int ep 0]}}):
  wpAny (model prog w) A (pyIter (.ref d)) Q E s:=by
 have hT:=hm.typeIs;obtain⟨ho,hc,hdat⟩:=hm;refine wpAny_pyIter_slot hT F.slot_dict_iter (me F.slot_dict_iter hT F.entry_dict_iter ?_ (F.args_dict_iter_1 _));unfold Builtin.«dict.__iter__» Builtin.Dict.dictSlotNone;refine aF (aF (wpAny_notOrdered_dict hT ?_));show wpAny _ _ (pure (Value.ref d)) _ _ s;refine ae ?_;show wpAny _ _ (Builtin.Dict.showsAll d >>= _) _ _ s;unfold Builtin.Dict.showsAll;rw[aD (by rw[hsm];exact ax)]
 refine aF (ae (aF (wpAny_dictEntries ho hdat (aF (wpAny_dictEpoch ho hdat ?_)))));exact aF (i8 (ae ⟨_,rfl,"dict_keyiterator",_,⟨_,dW _ rfl,rfl⟩,A1.lookup,hQ⟩))
theorem GO{i:Nat}:¬((i:Int)<0):=kU.mpr (eH i)
theorem HL{Q:Option Value→Shared→Prop}(hh:A.handled=none)(hit:s.heap.IsKeyIter it d i es.size ep)(hm:gb s.heap d es ep)
  (h1:∀e,es[i]?=some e→∀h',h'.IsKeyIter it d (i+1) es.size ep→Heap.SameBut it s.heap h'→Q (some e.key) {s with heap:=h'})
  (h2:es[i]?=none→∀h',Heap.ExtBut it s.heap h'→Q none {s with heap:=h'}):wpAny (model prog w) A (pyNext (.ref it)) Q E s:=by
 obtain⟨o,ho,hc,hd⟩:=id hit;obtain⟨hod,hcd,hdd⟩:=hm;unfold pyNext;refine aF (vl (Ao (name:=Str.ofString "__next__") hit.typeIs A1
  (me A1 hit.typeIs F.entry_dict_keyiterator_next ?_ (F.args_dict_keyiterator_next_1 _))))
 refine aF (ae (aF (aF ?_)))
 first|refine aF (Iq hit.typeIs (ae ?_))|refine aF (Ir hit.typeIs (ae ?_))
 refine aF (wpAny_fieldsOf ho hd ?_);have hown:Builtin.Dict_items.ownsTuple "dict_keyiterator"=false:=by decide
 rw[aD (show ¬(Builtin.Dict_items.ownsTuple "dict_keyiterator"=true) by rw[hown];exact ax)]
 show wpAny _ _ (if (Value.ref d == Value.none)=true then _ else _) _ _ s
 rw[aD (show ¬((Value.ref d == Value.none)=true) from ax)]
 refine aF (ae (aF (wpAny_dictEntries hod hdd ?_)));rw[aD (by simp)]
 refine aF (ae (aF (wpAny_dictEpoch hod hdd ?_)));rw[aD (by simp)]
 refine ae ?_
 cases hx:es[i]? with
 |some e=>
  have hxx:(if (i:Int)<0 then none else es[(i:Int).toNat]?)=some e:=(aD GO).trans hx
  dsimp only
  rw[hxx]
  dsimp only
  refine aF ?_
  first|refine aF (Iq hit.typeIs (ae ?_))|refine aF (Ir hit.typeIs (ae ?_))
  refine aF (wpAny_isOneOf_keyiter hit.typeIs ?_);show wpAny _ _ (setField (.ref it) 1 (rawInt ((i:Int)+1)) >>= _) _ _ s;refine aF (vp ho hd (by simp) ?_)
  have hit':(s.heap.update it (Obj.mapFields (·.setIfInBounds 1 (rawInt ((i:Int)+1))))).IsKeyIter it d (i+1) es.size ep:=
   ⟨_,kT _ ho (Bi (q6 hd _)),(Obj.cls_mapFields ..).trans hc,by rw[q6 hd];simp [rawInt]⟩
  refine aF (eG ?_);refine aF (wpAny_isOneOf_keyiter (s:={s with heap:=s.heap.update it (Obj.mapFields (·.setIfInBounds 1 (rawInt ((i:Int)+1))))}) hit'.typeIs ?_);show wpAny _ _ (pure e.key) _ _ _;exact ae (ae ⟨_,rfl,ae (h1 e hx _ hit' (ji ..))⟩)
 |none=>
  have hxx:(if (i:Int)<0 then none else es[(i:Int).toNat]?)=none:=(aD GO).trans hx
  dsimp only
  rw[hxx]
  dsimp only
  refine aF ?_
  first|refine aF (Iq hit.typeIs (ae ?_))|refine aF (Ir hit.typeIs (ae ?_))
  show wpAny _ _ (setField (.ref it) 0 .none >>= _) _ _ s;refine aF (vp ho hd (by simp) ?_)
  show wpAny _ _ (newExc (.type "StopIteration") [] >>= _) _ _ _;refine aF ?_;simp only[newExc,newTuple];refine aF (i8 ?_ (by size_fits))
  refine aF (m:=firstArgMember _ _) (gR (a:=Value.none) (by first|rfl|(simp only[firstArgMember];rfl)) ?_)
  refine i8 ?_ (by size_fits)
  refine aF (wpAny_handled ?_);rw[show A.in1.handled=none from hh]
  refine aF (ae (wpAny_throw ?_));refine aF (vm (T:="StopIteration") (b:=true) ⟨_,dW _ rfl,rfl⟩ isSubtype_stop ?_);exact ae (h2 hx _ (((ji ..).extBut.push _).push _))
end
inductive nG(μ:Mu)(h:Heap)(a:Addr)(l:List V):Prop
 |mk {es:Array DictEntry} {ep:Nat} (x:gb h a es ep) (r:aM μ h l (es.toList.map (·.key))):nG μ h a l
section
variable{W:Wd}{μ:Mu}{h:Heap}{a:Addr}{P:Program}{w:World}
theorem i9.vr{k:Atom}{v:Value}(x:i9 k v):VR μ h (cG k) v:=by
 cases x with
 |int=>exact .e7
 |str=>exact .vD
theorem QL{kvs:List (Atom×V)}{cs:List (Atom×Value)}(r:PR μ h kvs cs):∀{es:List DictEntry},Pairs (cE P w) es cs→aM μ h (kvs.map fun p=>cG p.1) (es.map (·.key)):=by
 induction r with
 |nil=>intro es p;cases p;exact .nil
 |cons hv _ ih=>
  intro es p
  cases p with
  |cons h1 _ h3=>
   have q:=(lr h1).vr (μ:=μ) (h:=h);exact .cons q (ih h3)
theorem C8{kvs:List (Atom×V)}{cs:List (Atom×Value)}(d:h.DictOf (cE P w) a cs)(r:PR μ h kvs cs):nG μ h a (kvs.map fun p=>cG p.1):=by
 obtain⟨_,_,_,ho,x,hd,_,hp,_⟩:=d;exact⟨⟨ho,x,hd⟩,QL r hp⟩
theorem QM{kvs:List (List Atom×V)}{cs:List (List Atom×Addr×Value)}(r:TR μ h kvs cs):aM μ h (kvs.map fun p=>V.tup (p.1.map cG)) ((cs.map (entryOfKey (tupleKind (cE P w)))).map (·.key)):=by
 induction r with
 |nil=>exact .nil
 |cons _ hk _ ih=>exact .cons hk ih
theorem IF{kvs:List (List Atom×V)}{cs:List (List Atom×Addr×Value)}(d:h.DictOfH (tupleKind (cE P w)) a cs)(r:TR μ h kvs cs):nG μ h a (kvs.map fun p=>V.tup (p.1.map cG)):=by
 obtain⟨_,_,_,ho,x,hd,he,_,_⟩:=d;exact⟨⟨ho,x,hd⟩,by rw[he];exact QM r⟩
end
noncomputable abbrev gz(I:Addr)(h h':Heap):Prop:=∀b o,b≠I→h.get? b=some o→h'.get? b=some o
theorem hO{I:Addr}{h h':Heap}(hs:Heap.SameBut I h h'):gz I h h':=fun b _ n e=>(hs.2 b n).trans e
theorem tw{I:Addr}{h h':Heap}(hs:Heap.ExtBut I h h'):gz I h h':=fun b o n e=>hs b o n e
theorem Gl{μ:Mu}{h:Heap}{D I:Addr}{o:Obj}(hD:D∈μ.g∨h.get? D=none)(nf:I∉foot μ)(ho:h.get? I=some o):I≠D:=fun e=>
 hD.elim (fun m=>nf (e▸gX _ m)) fun m=>ao (m.symm.trans (e▸ho))
theorem TU{h:Heap}{I:Addr}{oI:Obj}{vs:Array Value}(hI:h.get? I=some oI)(hd:oI.data=.fields vs):hG (·=I) h:=fun b o e ho xs n q=>
 nomatch hd.symm.trans ((av ((e▸hI:h.get? b=some oI).symm.trans ho)▸q:oI.data=.seq xs n))
inductive g5(h:Heap)(I:Addr):Prop
 |mk {o:Obj} {vs:Array Value} (at_:h.get? I=some o) (d:o.data=.fields vs)
theorem rh{μ:Mu}{h h':Heap}{I:Addr}(x:g5 h I)(hk:gz I h h'):Kp μ h μ h':=let ⟨hI,hd⟩:=x;
 ⟨lY _,fun _ m=>.inl m,fun b o xs n e d _=>hk b o (fun q=>TU hI hd b o q e xs n d) e⟩
noncomputable def I5(W:Wd)(I:Addr)(C:AH→Prop)(l:List V)(A:Around)(St:Mu→Heap→Nat→Prop):Prop:=∀{μ:Mu} {H:AH} {s:Shared} {i:Nat} {v:V} {Q:Option Value→Shared→Prop},aW W μ H s.heap→C H→St μ s.heap i→l[i]?=some v→
  (∀{h':Heap} {tk:Nat} {c:Value},VR μ h' v c→St μ h' (i+1)→gz I s.heap h'→Q (some c) {s with heap:=h',toks:=tk})→Wp W A (pyNext (.ref I)) Q s
noncomputable def I4(W:Wd)(I:Addr)(C:AH→Prop)(l:List V)(A:Around)(St:Mu→Heap→Nat→Prop):Prop:=∀{μ:Mu} {H:AH} {s:Shared} {i:Nat} {Q:Option Value→Shared→Prop},aW W μ H s.heap→C H→St μ s.heap i→l[i]?=none→
  (∀{h':Heap} {tk:Nat},gz I s.heap h'→Q none {s with heap:=h',toks:=tk})→Wp W A (pyNext (.ref I)) Q s
structure ki(W:Wd)(C:AH→Prop)(l:List V)(A:Around)(I:Addr)(St:Mu→Heap→Nat→Prop):Prop where
 item:I5 W I C l A St
 done:I4 W I C l A St
 keep:∀{X:Addr→Prop} {μ μ':Mu} {h h':Heap} {H H':AH} {i:Nat},bf X μ h μ' h'→hG X h→¬X I→aW W μ H h→aW W μ' H' h'→C H→C H'→St μ h i→St μ' h' i
 grow:∀{μ μ':Mu} {h h':Heap} {H:AH} {i:Nat} {D:Addr},aW W μ H h→Kp μ h μ' h'→I∉foot μ'→D∈μ.g∨h.get? D=none→gz D h h'→St μ h i→St μ' h' i
 nf:∀{μ:Mu} {h:Heap} {i:Nat},St μ h i→I∉foot μ
 fl:∀{μ:Mu} {h:Heap} {i:Nat},St μ h i→g5 h I
 self:∀{μ:Mu} {s:Shared} {i:Nat} {Q:Value→Shared→Prop},St μ s.heap i→Q (.ref I) s→Wp W A (pyIter (.ref I)) Q s
inductive jL(it:Heap→Nat→Prop)(I:Addr)(src:V)(a:Addr)(μ:Mu)(h:Heap)(i:Nat):Prop
 |mk (nf:I∉foot μ) (hv:VR μ h src (.ref a)) (it:it h i)
section
variable{W:Wd}{A:Around}{I:Addr}{μ μ':Mu}{H H':AH}{h h':Heap}{src:V}{l:List V}{a:Addr}{s:Shared}
theorem IsL.ref(x:IsL H l src)(N:aW W μ H h)(hv:VR μ h src (.ref a)){P:Prop}(k:∀items,XL h a items→aM μ h l items→P):P:=
 x.at (s:={heap:=h}) N hv (P:=fun c=>c=.ref a→P) (fun _ items x r _ e=>by cases e;exact k items x r) rfl
theorem IP(hv:VR μ h (.tup l) (.ref a)){P:Prop}(k:∀items,XT h a items→aM μ h l items→P):P:=
 hv.fq (P:=fun c=>c=.ref a→P) (fun _ items _ x _ r e=>by cases e;exact k items x r) rfl
theorem Fg{i:Nat}(x:h.IsListIter I a i)(k:∀o,h.get? I=some o→h'.get? I=some o):h'.IsListIter I a i:=let ⟨_,e,r⟩:=x;⟨_,k _ e,r⟩
theorem IJ{i:Nat}(x:h.IsTupleIter I a i)(k:∀o,h.get? I=some o→h'.get? I=some o):h'.IsTupleIter I a i:=let ⟨_,e,r⟩:=x;⟨_,k _ e,r⟩
theorem uq{i:Nat}(x:h.IsListIter I a i):g5 h I:=let ⟨_,e,_,d⟩:=x;⟨e,d⟩
theorem ve{i:Nat}(x:h.IsTupleIter I a i):g5 h I:=let ⟨_,e,_,d⟩:=x;⟨e,d⟩
theorem ui{i n e:Nat}(x:h.IsKeyIter I a i n e):g5 h I:=let ⟨_,e,_,d⟩:=x;⟨e,d⟩
theorem Gs{items:List Value}{i:Nat}(r:aM μ h l items)(hi:l[i]?=none):items.toArray[i]?=none:=by rw[kX];exact wC.mpr (r.length▸wC.mp hi)
theorem jL.to{J:Heap→Nat→Prop}{i:Nat}(x:jL J I src a μ h i)(E:Kp μ h μ' h')(nf':I∉foot μ')(hj:J h i→J h' i):jL J I src a μ' h' i:=let ⟨_,v,t⟩:=x;⟨nf',v.kp E,hj t⟩
theorem g5.nf(x:g5 h I){X:Addr→Prop}(E:bf X μ h μ' h')(nf:I∉foot μ):I∉foot μ':=let ⟨e,_⟩:=x;E.nf nf e
theorem g5.off(x:g5 h I){D:Addr}(hD:D∈μ.g∨h.get? D=none)(nf:I∉foot μ):I≠D:=let ⟨e,_⟩:=x;Gl hD nf e
theorem jL.keep{J:Heap→Nat→Prop}(mv:∀{h h' i},J h i→(∀o,h.get? I=some o→h'.get? I=some o)→J h' i)(fl:∀{h i},J h i→g5 h I){X:Addr→Prop}{i:Nat}(E:bf X μ h μ' h')(nX:hG X h)(hI:¬X I)(x:jL J I src a μ h i):jL J I src a μ' h' i:=
 let ⟨nf,_,t⟩:=x;x.to (E.kp nX) ((fl t).nf E nf) fun t=>mv t fun o e=>E.keep _ o e nf hI
theorem jL.grow{J:Heap→Nat→Prop}(mv:∀{h h' i},J h i→(∀o,h.get? I=some o→h'.get? I=some o)→J h' i)(fl:∀{h i},J h i→g5 h I){i:Nat}{D:Addr}(E:Kp μ h μ' h')(nf':I∉foot μ')(hD:D∈μ.g∨h.get? D=none)(hk:gz D h h')(x:jL J I src a μ h i):jL J I src a μ' h' i:=
 let ⟨nf,_,t⟩:=x;x.to E nf' fun t=>mv t fun o e=>hk _ o ((fl t).off hD nf) e
theorem Vr(hh:A.handled=none):ki W (It .lst src l) l A I (jL (fun h i=>h.IsListIter I a i) I src a) where
 item:=fun{μ H s i v Q} N c st hi k=>by
  cases c with|lst hl=>
  obtain⟨nf,hv,it⟩:=st;exact hl.ref N hv fun items x r=>by
   obtain⟨⟨hc,hvc⟩⟩:=r.get hi;refine wpAny_pyNext_list_item it x.is (by rw[kX];exact hc) fun h' hit' hs'=>?_
   have E:=rh (μ:=μ) (uq it) (hO hs');exact k (tk:=s.toks) (hvc.kp E) ⟨nf,hv.kp E,hit'⟩ (hO hs')
 done:=fun{μ H s i Q} N c st hi k=>by
  cases c with|lst hl=>
  obtain⟨nf,hv,it⟩:=st;exact hl.ref N hv fun items x r=>wpAny_pyNext_list_end hh it x.is (Gs r hi) fun h' hs'=>k (tk:=s.toks) (tw hs')
 keep:=fun E nX hI _ _ _ _ st=>st.keep (J:=fun h i=>h.IsListIter I a i) Fg uq E nX hI
 grow:=fun _ E nf' hD hk st=>st.grow (J:=fun h i=>h.IsListIter I a i) Fg uq E nf' hD hk
 nf:=fun st=>let ⟨nf,_,_⟩:=st;nf
 fl:=fun st=>let ⟨_,_,it⟩:=st;uq it
 self:=fun st q=>let ⟨_,_,it⟩:=st;wpAny_pyIter_listiter it q
theorem Vt(hh:A.handled=none):ki W (It .tup src l) l A I (jL (fun h i=>h.IsTupleIter I a i) I src a) where
 item:=fun{μ H s i v Q} N c st hi k=>by
  cases c;obtain⟨nf,hv,it⟩:=st;exact IP hv fun items x r=>by
   obtain⟨⟨hc,hvc⟩⟩:=r.get hi;refine wpAny_pyNext_tuple_item it x.is (by rw[kX];exact hc) fun h' hit' hs'=>?_
   have E:=rh (μ:=μ) (ve it) (hO hs');exact k (tk:=s.toks) (hvc.kp E) ⟨nf,hv.kp E,hit'⟩ (hO hs')
 done:=fun{μ H s i Q} N c st hi k=>by
  cases c;obtain⟨nf,hv,it⟩:=st;exact IP hv fun items x r=>wpAny_pyNext_tuple_end hh it x.is (Gs r hi) fun h' hs'=>k (tk:=s.toks) (tw hs')
 keep:=fun E nX hI _ _ _ _ st=>st.keep (J:=fun h i=>h.IsTupleIter I a i) IJ ve E nX hI
 grow:=fun _ E nf' hD hk st=>st.grow (J:=fun h i=>h.IsTupleIter I a i) IJ ve E nf' hD hk
 nf:=fun st=>let ⟨nf,_,_⟩:=st;nf
 fl:=fun st=>let ⟨_,_,it⟩:=st;ve it
 self:=fun st q=>let ⟨_,_,it⟩:=st;wpAny_pyIter_tupleiter it q
inductive JG(n:Nat)(I:Addr)(μ:Mu)(h:Heap)(i:Nat):Prop
 |mk (nf:I∉foot μ) (it:IsRangeIter h I (i:Int) ((n:Int)-i) 1)
theorem Sx{n i:Nat}{v:V}(h:(iI n)[i]?=some v):i<n∧V.int (i:Int)=v:=by
 unfold iI at h;rw[fI] at h;obtain⟨j,hj,e⟩:=ou.mp h;have hlt:=(dE.mp hj).1;rw[jH] at hlt;rw[BK hlt] at hj;exact⟨hlt,av hj▸e⟩
theorem Sz{n i:Nat}(h:(iI n)[i]?=none):n≤i:=by
 have:=wC.mp h
 rwa [iI,aN,jH] at this
theorem Vs{n:Nat}(hh:A.handled=none):ki W (fun _=>True) (iI n) A I (JG n I) where
 item:=fun{μ H s i v Q} N _ st hi k=>by
  obtain⟨nf,it⟩:=st;obtain⟨hlt,e⟩:=Sx hi;subst e;refine wpAny_pyNext_range_item it (Int.sub_pos_of_lt (fu.mpr hlt)) fun h' hit' hs'=>?_;refine k .e7 ⟨nf,?_⟩ (hO hs');have e2:(n:Int)-i-1=(n:Int)-((i+1:Nat):Int):=Int.sub_sub _ _ _;rw[e2] at hit';exact hit'
 done:=fun{μ H s i Q} N _ st hi k=>let ⟨nf,it⟩:=st;wpAny_pyNext_range_end hh it (Int.sub_nonpos_of_le (kW.mpr (Sz hi))) fun h' hs'=>k (tk:=s.toks) (tw hs')
 keep:=fun E nX hI _ _ _ _ st=>let ⟨nf,it⟩:=st;⟨E.nf nf it,E.keep _ _ it nf hI⟩
 grow:=fun _ E nf' hD hk st=>let ⟨nf,it⟩:=st;⟨nf',hk _ _ (Gl hD nf it) it⟩
 nf:=fun st=>let ⟨nf,_⟩:=st;nf
 fl:=fun st=>let ⟨_,it⟩:=st;⟨it,rfl⟩
 self:=fun st q=>let ⟨_,it⟩:=st;wpAny_pyIter_rangeiter it q
end
inductive wg(I:Addr)(j:Nat)(d:Addr)(μ:Mu)(h:Heap)(i:Nat):Prop
 |mk {es:Array DictEntry} {ep:Nat} (nf:I∉foot μ) (hp:μ.l[j]?=some (d,none)) (hm:gb h d es ep) (it:h.IsKeyIter I d i es.size ep):wg I j d μ h i
noncomputable def vu(W:Wd)(j st:Nat)(l:List V)(C:AH→Prop):Prop:=∀{μ:Mu} {H:AH} {h:Heap},aW W μ H h→C H→∀{d:Addr},μ.l[j]?=some (d,none)→au (nG μ h d l) (μ.st j=st)
section
variable{W:Wd}{A:Around}{I:Addr}{μ μ':Mu}{H H':AH}{h h':Heap}{l:List V}{a d:Addr}{s:Shared}{j st:Nat}{C:AH→Prop}
theorem Ky:vu W j st l (It (.dict st) (.obj j) l):=fun{μ H h} N c d hp=>by
 cases c with|dict hc=>exact let ⟨hp',⟨e,dd,r⟩,q⟩:=N.cS hc;n9 hp' hp (P:=fun p=>au (nG μ h p.1 _) (μ.st j=st)) ⟨C8 dd r,q _ rfl⟩
theorem WO:vu W j st l (It (.aY st) (.obj j) l):=fun{μ H h} N c d hp=>by
 cases c with|aY hc=>exact let ⟨hp',⟨e,dd,r⟩,q⟩:=N.cS hc;n9 hp' hp (P:=fun p=>au (nG μ h p.1 _) (μ.st j=st)) ⟨IF dd r,q _ rfl⟩
theorem FE{i n e:Nat}(x:h.IsKeyIter I a i n e)(k:∀o,h.get? I=some o→h'.get? I=some o):h'.IsKeyIter I a i n e:=let ⟨_,e,r⟩:=x;⟨_,k _ e,r⟩
theorem QI{es:Array DictEntry}{i:Nat}{v:V}(r:aM μ h l (es.toList.map (·.key)))(hi:l[i]?=some v){P:Prop}(k:∀e,es[i]?=some e→VR μ h v e.key→P):P:=by
 obtain⟨⟨hc,hv⟩⟩:=r.get hi;rw[fI] at hc;obtain⟨e,he,q⟩:=ou.mp hc;exact k e ((Array.getElem?_toList).symm.trans he) (q▸hv)
theorem QJ{es:Array DictEntry}(r:aM μ h l (es.toList.map (·.key))):es.size=l.length:=by
 have:=r.length
 rwa [aN,mh] at this
theorem Tj(N:aW W μ H h){D:Addr}{o:Obj}(hD:D∈μ.g∨h.get? D=none){p:Addr×Option Addr}(hp:μ.l[j]?=some p)(ho:h.get? p.1=some o):p.1≠D:=fun q=>
 hD.elim (fun m=>(eZ.mp N.apart).2.2 D m p.1 (kY.mpr ⟨p,dj hp,.head _⟩) q.symm) fun m=>ao ((q▸m:h.get? p.1=none).symm.trans ho)
theorem Hx(hh:A.handled=none)(hC:vu W j st l C):ki W C l A I (wg I j d) where
 item:=fun{μ H s i v Q} N c st hi k=>by
  obtain⟨nf,hp,hm,it⟩:=st;obtain⟨⟨hm',r⟩,_⟩:=hC N c hp;obtain⟨e1,e2⟩:=hm.inj hm';subst e1;subst e2;refine QI r hi fun e he hv=>HL hh it hm (fun e' he' h' it' hs'=>?_) fun hn=>ao (hn.symm.trans he);have E:=rh (μ:=μ) (ui it) (hO hs');have q:=av (he'.symm.trans he);refine k (tk:=s.toks) (q▸hv.kp E) ⟨nf,hp,hm.to fun o e=>hO hs' _ o (fun z=>nf (z▸uQ hp)) e,it'⟩ (hO hs')
 done:=fun{μ H s i Q} N c st hi k=>by
  obtain⟨nf,hp,hm,it⟩:=st;obtain⟨⟨hm',r⟩,_⟩:=hC N c hp;obtain⟨e1,e2⟩:=hm.inj hm';subst e1;subst e2;exact HL hh it hm (fun e' he'=>absurd (Array.getElem?_eq_some_iff.mp he').1 (fL.mpr (QJ r▸wC.mp hi))) fun _ h' hs'=>k (tk:=s.toks) (tw hs')
 keep:=fun E nX hI N N' c c' st=>by
  obtain⟨nf,hp,hm,it⟩:=st;obtain⟨_,s1⟩:=hC N c hp;have hp':=jY E.pre hp;obtain⟨_,s2⟩:=hC N' c' hp';exact⟨(ui it).nf E nf,hp',hm.to ((E.eT j _ hp).2 (s2.trans s1.symm)),FE it fun o e=>E.keep _ o e nf hI⟩
 grow:=fun N E nf' hD hk st=>by
  obtain⟨nf,hp,hm,it⟩:=st;exact⟨nf',jY E.pre hp,hm.to fun o e=>hk _ o (Tj N hD hp e) e,FE it fun o e=>hk _ o ((ui it).off hD nf) e⟩
 nf:=fun st=>let ⟨nf,_,_,_⟩:=st;nf
 fl:=fun st=>let ⟨_,_,_,it⟩:=st;ui it
 self:=fun st q=>let ⟨_,_,_,it⟩:=st;wpAny_pyIter_keyiter it q
noncomputable def wA(W:Wd)(C:AH→Prop)(l:List V)(μ:Mu)(s:Shared)(Q:Value→Shared→Prop):Prop:=∀{o:Obj} {St:Mu→Heap→Nat→Prop},(∀{A':Around},A'.handled=none→ki W C l A' s.heap.objs.size St)→St μ (s.heap.push o) 0→Q (.ref s.heap.objs.size) {s with heap:=s.heap.push o}
theorem DA(wk:jO W)(N:aW W μ H s.heap)(hp:μ.l[j]?=some (d,none))(x:nG μ s.heap d l){Q:Value→Shared→Prop}
  (k:∀{o:Obj} {t:Unit},(s.heap.objs.size∉foot μ→wg s.heap.objs.size j d μ (s.heap.push o) 0)→Q (.ref s.heap.objs.size) {s with heap:=s.heap.push o}):Wp W A (pyIter (.ref d)) Q s:=
 let ⟨hm,_⟩:=x;Uh (lC wk N hp) hm (k (t:=()) fun nf=>⟨nf,hp,hm.to (b8 _ _ _),⟨_,dW _ rfl,rfl,rfl⟩⟩)
theorem yT{k:Kd}{src:V}(wk:jO W)(N:aW W μ H s.heap){cv:Value}(hv:VR μ s.heap src cv)(x:It k src l H){Q:Value→Shared→Prop}(q:wA W (It k src l) l μ s Q):Wp W A (pyIter cv) Q s:=by
 have nf:s.heap.objs.size∉foot μ:=N.out (gK _);have up:∀{o:Obj} {v:V} {c:Value},VR μ s.heap v c→VR μ (s.heap.push o) v c:=fun r=>r.kp ((l8 (b8 _ _)).kp .none)
 cases x with
 |@tup l H=>
  refine hv.fq (P:=fun c=>VR μ s.heap (.tup l) c→Wp W A (pyIter c) Q s) (fun a items _ x _ _ hv=>?_) hv;obtain⟨ho⟩:=x;exact wpAny_pyIter_tuple ⟨_,ho,rfl,_,rfl⟩ (q Vt ⟨nf,up hv,⟨_,dW _ rfl,rfl,rfl⟩⟩)
 |lst hl=>
  refine hl.at N hv (P:=fun c=>VR μ s.heap src c→Wp W A (pyIter c) Q s) (fun a items x _ _ hv=>?_) hv;obtain⟨ho⟩:=x;exact wpAny_pyIter_list ⟨_,ho,rfl,_,rfl⟩ (q Vr ⟨nf,up hv,⟨_,dW _ rfl,rfl,rfl⟩⟩)
 |dict hc=>exact jQ N hc hv (P:=fun c=>Wp W A (pyIter c) Q s) fun a cs hp d r=>DA wk N hp (C8 d r) fun{_ _} y=>q (fun hh=>Hx hh Ky) (y nf)
 |aY hc=>exact oF N hc hv (P:=fun c=>Wp W A (pyIter c) Q s) fun a cs hp d r=>DA wk N hp (IF d r) fun{_ _} y=>q (fun hh=>Hx hh WO) (y nf)
end
noncomputable def mR(x:Expr):Bool:=x.ctorIdx != 7
theorem pL{x:Expr}(h:mR x=true)(env:Env)(v:Value):foldedSetIterable x env v=pure v:=by
 cases x<;>first|rfl|cases h
section
variable{W:Wd}{n:Nat}{sc:Scope}{F F':aO}{H H':AH}{env:Env}{A:Around}{s s' s₀:Shared}{μ μ' μ₀:Mu}{R:Flow→Shared→Prop}{C:AH→Prop}{l:List V}{I:Addr}{St:Mu→Heap→Nat→Prop}{h h':Heap}
theorem jf{α:Type}{m:Sem α}{R:α→Shared→Prop}{E:Value→Shared→Prop}(h:Wp W A m R s):wpAny (model W.prog W.w) A m R E s:=lT h (fun _ _ q=>q) fun _ _ e=>e.elim
inductive Bs(W:Wd)(env:Env)(μ:Mu)(s:Shared)(c:aO→AH→(V→AH→Prop)→Prop)(b:aO→AH→(Fl→aO→AH→Prop)→Prop)(Q:Fl→aO→AH→Prop)(k:Nat)(s':Shared):Prop
 |mk {μ':Mu} {F:aO} {H:AH} (X:fM W env μ s F H μ' s') (q:rB c b k F H Q):Bs W env μ s c b Q k s'
theorem SS.da{c:IE}{b:aK}{xc:Expr}{xb:List Stmt}{pos:Pos}(hc:ST W n sc c xc)(hb:ed W n sc b xb):SS W n sc (.da c b) (.While xc xb [] pos):=fun{F H Q env A s μ R} ev K kk=>by
 obtain⟨ev⟩:=ev;rename_i k;refine wpAny_While (codeAny_whileLoop (Bs W env μ s (ay W n c) (fun F H Q=>dc W n b F H Q) Q) ?_ k ⟨K.s0 (tk:=s.toks),ev⟩);intro k s₁ x;obtain⟨X,q⟩:=x;rename_i μ₁ F₁ H₁
 cases k with
 |zero=>exact q.elim
 |succ k=>
  refine jf (hc (Q:=fun _ t H=>if t=true then dc W n b F₁ H (vf (fun F H=>rB (ay W n c) (fun F H Q=>dc W n b F H Q) k F H Q) Q) else Q .aL F₁ H) q (K.p4 X) fun{_ t _ _ s₂} q _ Y=>?_)
  have Z:=X.trans ((K.p4 X).sx Y)
  cases t with
  |false=>
   rw[aD ax] at q ⊢;exact wpAny_execs_nil (kk q Z .aL)
  |true=>
   rw[aG rfl] at q ⊢;refine jf (hb q (K.p4 Z) fun q Y hf=>?_)
   cases hf with
   |aL=>exact⟨k,dY _,Z.trans Y,q⟩
   |cnt=>exact⟨k,dY _,Z.trans Y,q⟩
   |brk=>exact kk q (Z.trans Y) .aL
   |ret r=>exact kk q (Z.trans Y) (.ret r)
theorem fM.but(X:fM W env μ₀ s₀ F H μ s)(hI0:s₀.heap.get? I=none)(hw:W.h₀.get? I=none)(ho:¬own env I)(nf:I∉foot μ)(f:g5 s.heap I)(hk:gz I s.heap h'){tk:Nat}:fM W env μ₀ s₀ F H μ {s with heap:=h',toks:=tk}:=
 have ne:∀{b o},s₀.heap.get? b=some o→b≠I:=fun e q=>ao (hI0.symm.trans (q▸e));have kp:=rh (μ:=μ) f hk
 ⟨X.g,X.o,⟨X.E.pre,X.E.gs,X.E.new,fun b o e n1 n2=>hk b o (ne e) (X.E.keep b o e n1 n2),fun b o e=>let ⟨⟨e',r⟩⟩:=X.E.live b o e;⟨⟨hk b _ (ne e) e',r⟩⟩,
  fun i p hp=>⟨(X.E.eT i p hp).1,fun q o e=>hk _ _ (ne e) ((X.E.eT i p hp).2 q o e)⟩,fun a m o e=>hk a o (ne e) (X.E.gk a m o e)⟩,
  X.N.to kp (fun a o m e=>hk a o (fun q=>nf (q▸m)) e) (fun a o e0 e=>hk a o (fun q=>ao (hw.symm.trans (q▸e0))) e),X.fo.to kp fun a o m e=>hk a o (fun q=>ho (q▸m)) e⟩
theorem jh.c{x:Nat}{b:aO→AH→(Fl→aO→AH→Prop)→Prop}{Q:Fl→aO→AH→Prop}(q:jh C x b l F H Q):C H:=by
 cases l with
 |nil=>exact let ⟨c,_⟩:=q;c
 |cons=>exact let ⟨c,_⟩:=q;c
inductive A4(W:Wd)(env:Env)(μ₀:Mu)(s₀:Shared)(C:AH→Prop)(l:List V)(St:Mu→Heap→Nat→Prop)(x:Nat)(b:aO→AH→(Fl→aO→AH→Prop)→Prop)(Q:Fl→aO→AH→Prop)(k:Nat)(s':Shared):Prop
 |mk {i:Nat} {r:List V} {μ' μ₂:Mu} {F:aO} {H H₂:AH} {h₂:Heap} (hk:r.length=k) (hd:l.drop i=r) (X:fM W env μ₀ s₀ F H μ' s') (N:aW W μ₂ H₂ h₂) (c:C H₂) (st:St μ₂ h₂ i) (nX:hG (own env) h₂) (E:bf (own env) μ₂ h₂ μ' s'.heap) (q:jh C x b r F H Q):A4 W env μ₀ s₀ C l St x b Q k s'
theorem DD{α:Type}{l r:List α}{i:Nat}{x:α}(h:l.drop i=x::r):l[i]?=some x∧l.drop (i+1)=r:=by
 refine⟨?_,?_⟩
 ·have:=aE (·[0]?) h
  rwa [List.getElem?_drop] at this
 ·rw[←List.tail_drop,h];rfl
theorem DF{α:Type}{l:List α}{i:Nat}(h:l.drop i=[]):l[i]?=none:=oY (BE.mp h)
theorem Ly{x:Str}{px:Pos}{b:aK}{xb:List Stmt}{Q:Fl→aO→AH→Prop}(K:Fr W n sc env A μ H F s)(hst:ki W C l A I St)(hx:dt sc x=true)(hok:cH x=true)(hb:ed W n sc b xb)
  (hI0:s₀.heap.get? I=none) (hw:W.h₀.get? I=none) (ho:¬own env I) (X:fM W env μ₀ s₀ F H μ s) (st:St μ s.heap 0) (q:jh C (aS x) (fun F H Q=>dc W n b F H Q) l F H Q) {Rr:Result→Shared→Prop}
  (hR:KS W env μ₀ s₀ Q (fun f s'=>Rr (.ok f) s')):codeAny (model W.prog W.w) A (.forLoop (.Name x px) (.ref I) xb [] env) Rr s:=by
 refine codeAny_forLoop (A4 W env μ₀ s₀ C l St (aS x) (fun F H Q=>dc W n b F H Q) Q) ?_ l.length ⟨rfl,rfl,X,K.N,q.c,st,K.fo.lF,.refl,q⟩;intro k s₁ y;obtain⟨hk,hd,X,N₂,c₂,st,nX,E,q⟩:=y;rename_i i r μ₁ μ₂ F₁ H₁ H₂ h₂;have st:=hst.keep E nX ho N₂ X.N c₂ q.c st
 cases r with
 |nil=>
  obtain⟨c,q⟩:=q;exact jf (hst.done X.N c st (DF hd) fun hb=>wpAny_execs_nil (hR q (X.but hI0 hw ho (hst.nf st) (hst.fl st) hb) .aL))
 |cons v r=>
  obtain⟨c,q⟩:=q;obtain⟨d1,d2⟩:=DD hd;refine jf (hst.item X.N c st d1 fun{h' tk cv} hc st' hbt=>?_);have X':=X.but hI0 hw ho (hst.nf st) (hst.fl st) hbt (tk:=tk);refine An (oE X'.fo X'.N K.eo (nT hx) (gu hok) hc fun Y=>?_);refine jf (hb q ⟨K.wk,K.eo,K.rb,Y.N,Y.fo⟩ fun q Z hf=>?_);have T:=(X'.trans Y).trans Z
  cases hf with
  |aL=>exact⟨r.length,hk▸dY _,rfl,d2,T,X'.N,c,st',X'.fo.lF,(Y.trans Z).E,q⟩
  |cnt=>exact⟨r.length,hk▸dY _,rfl,d2,T,X'.N,c,st',X'.fo.lF,(Y.trans Z).E,q⟩
  |brk=>exact hR q T .aL
  |ret rv=>exact hR q T (.ret rv)
theorem Dj{x:Str}{px:Pos}{b:aK}{xb:List Stmt}{Q:Fl→aO→AH→Prop}(K:Fr W n sc env A μ H F s)(hx:dt sc x=true)(hok:cH x=true)(hb:ed W n sc b xb)(X:bO W μ s H' μ' s')(q:jh C (aS x) (fun F H Q=>dc W n b F H Q) l F H' Q){Rr:Result→Shared→Prop}
  (hR:KS W env μ s Q (fun f s'=>Rr (.ok f) s')):wA W C l μ' s' (fun v s=>∀{a:Addr},v=.ref a→codeAny (model W.prog W.w) A (.forLoop (.Name x px) (.ref a) xb [] env) Rr s):=fun{o St} hst st0 a e=>by
 cases e;have hI:=gK s'.heap;have G:=bO.grow (tk:=s'.toks) X.N (b8 s'.heap o);have T:=X.trans G;exact Ly (K.nx T) (hst K.rb.hd) hx hok hb (X.E.none hI) (X.N.nL hI) ((K.nx X).fo.Gw hI) (K.sx T) st0 q hR
theorem SS.forIn{x:Str}{e:IE}{b:aK}{xe:Expr}{xb:List Stmt}{px pos:Pos}(he:SE W n sc e xe)(hx:dt sc x=true)(hok:cH x=true)(hns:mR xe=true)(hb:ed W n sc b xb):
  SS W n sc (.forIn (aS x) e b) (.For (.Name x px) xe xb [] pos):=fun{F H Q env A s μ R} ev K kk=>
 wpAny_For (he ev K fun q X r=>let ⟨it,q⟩:=q;yT K.wk X.N r it fun hst st0=>Dj K hx hok hb X q kk hst st0 rfl) (pL hns env)
end
section
variable{W:Wd}{n:Nat}{sc:Scope}{F F':aO}{H H':AH}{env:Env}{A:Around}{s s' s₀:Shared}{μ μ' μ₀:Mu}{R:Flow→Shared→Prop}{C:AH→Prop}{l:List V}{I:Addr}{St:Mu→Heap→Nat→Prop}{h h':Heap}
inductive wd(h:Heap)(r:Addr)(k:Nat):Prop
 |mk {t u v:Tok} (x:IsRange h r 0 (k:Int) 1 t u v):wd h r k
theorem z6{a:IE}{xa:Expr}{p pos:Pos}(hg:sc.names.lookup ("range":Str)=some .globalImplicit)(hb:("range":Str)∈W.eK)(ha:SE W n sc a xa)(hst:noStar xa=true)(K:Fr W n sc env A μ H F s){P:Nat→AH→Prop}(e:ay W n a F H fun v H=>v8 v fun k=>P k H){Q:Value→Shared→Prop}
  (h:∀{k:Nat} {H':AH} {μ':Mu} {s':Shared} {r:Addr},P k H'→k≤aJ→bO W μ s H' μ' s'→wd s'.heap r k→Q (.ref r) s'):
  Wp W A (eval (.Call (.Name "range" p) [xa] [] pos) env) Q s:=
 Call_ (ph K hg hb (u:=.type "range") (by decide+kernel) (by decide+kernel) (rM (p7 hst) (tm ha hst K e fun{u H₁ μ₁ cu s₁} q X hu=>by
  obtain⟨e,z,p⟩:=q;subst e;refine hu.bz (P:=fun c=>Wp W A (call (.type "range") [c]) _ s₁) fun t=>call_range_1 ?_;exact h p z (X.trans (.grow X.N (b8 s₁.heap _))) ⟨dW _ rfl⟩)))
theorem uO{x:Int}(h0:-1≤x)(h1:x≤17000000):Builtin.Range.rangeFitsLong x=true:=by
 unfold Builtin.Range.rangeFitsLong;rw[de];exact⟨a9 (jF (by decide) h0),a9 (v7 h1 (by decide))⟩
theorem z7(N:aW W μ H s.heap){k:Nat}(hk:k≤aJ){r:Addr}(x:wd s.heap r k){Q:Value→Shared→Prop}(q:wA W (fun _=>True) (iI k) μ s Q):Wp W A (pyIter (.ref r)) Q s:=by
 obtain⟨hr⟩:=x;have hsz:Builtin.Range.rangeSize 0 (k:Int) 1=(k:Int):=by
  rw[rangeSize_one];split
  ·exact Int.sub_zero _
  ·rename_i q;exact(Int.le_antisymm (eH k) (kU.mp q))
 have hk0:(0:Int)≤(k:Int):=eH k;have hk1:(k:Int)≤16000000:=kW.mpr hk;have hk2:(k:Int)≤17000000:=jF hk1 (by decide)
 refine wpAny_pyIter_range hr ?_ (q Vs ⟨N.out (gK _),?_⟩)
 ·unfold Builtin.Range.small;rw[hsz,aG (by decide),uO (x:=0) (by decide) (by decide),uO (x:=(k:Int)) (jF (by decide) hk0) hk2,uO (x:=1) (by decide) (by decide),uO (x:=(k:Int)+(1-1)) (jF (by decide) (jF hk0 (Int.le_of_eq (Int.add_zero _).symm))) (jF (Int.le_of_eq (Int.add_zero _)) hk2),Bool.or_true]
  rfl
 ·rw[hsz];have e:((k:Int)-((0:Nat):Int))=(k:Int):=Int.sub_zero _;rw[e];exact dW _ rfl
theorem SS.forR{x:Str}{e:IE}{b:aK}{xe:Expr}{xb:List Stmt}{px p pc pos:Pos}(he:SE W n sc e xe)(hst:noStar xe=true)(hg:sc.names.lookup ("range":Str)=some .globalImplicit)(hbn:("range":Str)∈W.eK)(hx:dt sc x=true)(hok:cH x=true)(hb:ed W n sc b xb):
  SS W n sc (.forR (aS x) e b) (.For (.Name x px) (.Call (.Name "range" p) [xe] [] pc) xb [] pos):=fun{F H Q env A s μ R} ev K kk=>
 wpAny_For (z6 hg hbn he hst K ev fun q z X r=>z7 X.N z r fun hst st0=>Dj K hx hok hb X q kk hst st0 rfl) (pL rfl env)
end
section
variable{sc:Scope}{env:Env}
theorem w5(eo:ft sc env):env.blockKind=.function:=by unfold Env.blockKind;rw[eo.kind];rfl
theorem CI{xa xb:Expr}{f:Expr→Bool}(h1:noStar xa=true)(h2:noStar xb=true)(hf:∀x,noStar x=true→f x=false):[xa,xb].any f=false:=by
 rw[oU,oU,hf _ h1,hf _ h2];rfl
theorem DY{β:Type}{a b:Expr}{f:Expr→Option β}{o1 o2:Option β}(h1:f a=o1)(h2:f b=o2):List.filterMap f [a,b]=o1.toList++o2.toList:=by
 rw[tO,tO,h1,h2];cases o1<;>cases o2<;>rfl
theorem G5{x:Str}{p:Pos}{l:Nat}{o:Option NameKind}(h:o=some .local)(hl:(p.line == l)=true):(if (o == some .local&&p.line == l)=true then some x else none)=some x:=by rw[h,hl];rfl
theorem G4{x:Str}{p:Pos}{l:Nat}{o:Option NameKind}(h:o=some .cell):(if (o == some .local&&p.line == l)=true then some x else none)=none:=by rw[h];rfl
theorem RA{α:Type}{a b:Option α}(h:a=none∨b=none):((a.toList++b.toList).length != 2)=true:=by
 cases a<;>cases b<;>first|rfl|(rcases h with h|h<;>cases h)
noncomputable def sd(sc:Scope)(x y:Str)(px py:Pos)(xa xb:Expr):Bool:=
 (sc.names.lookup x == some .local)&&(sc.names.lookup y == some .local)&&px.line == py.line&&!(y == x)&&noStar xa&&noStar xb&&!([xa,xb].all (foldedForSure 8))&&!([xa,xb].all (constantsAlone 8))
theorem V8{x y:Str}{px py p p':Pos}{xa xb:Expr}{k k':Nat}(h:sd sc x y px py xa xb=true)(eo:ft sc env):
  swappedStores [.Tuple [.Name x px,.Name y py] k p] (.Tuple [xa,xb] k' p') env=pure (some [x,y]):=by
 unfold sd at h;simp only[de,tE] at h;obtain⟨⟨⟨⟨⟨⟨⟨h1,h2⟩,h3⟩,h4⟩,h5⟩,h6⟩,h7⟩,h8⟩:=h;have k1:=eo.loc x (bY h1);have k2:=eo.loc y (bY h2);have hl:(py.line == px.line)=true:=by rw[bY h3];exact ig _
 have hb:=w5 eo;have h4':¬y=x:=fun q=>by rw[q,ig] at h4;cases h4
 have hn:([Expr.Name x px,.Name y py].filterMap fun| .Name id pos=>if (env.kindOf id == some .local&&pos.line == px.line)=true then some id else none|_=>none)=[x,y]:=DY (o1:=some x) (o2:=some y) (G5 k1 (ig _)) (G5 k2 hl)
 have c1:¬((!(([Expr.Name x px,.Name y py].length == 2)||([Expr.Name x px,.Name y py].length == 3))||[xa,xb].length != [Expr.Name x px,.Name y py].length||env.blockKind != .function)=true):=by rw[hb];exact ax
 have c2:=CI h5 h6 (f:=fun| .Starred ..=>true|_=>false) (fun z hz=>by cases z<;>first|rfl|cases hz)
 have c3:∀{l:List Str},l=[x,y]→¬((l.length != 2||l.eraseDups.length != l.length)=true):=fun e=>by rw[e];simp [h4',List.eraseDups_cons]
 exact(aD c1).trans ((aD fun q=>ax (c2.symm.trans q)).trans ((aD (c3 hn)).trans ((aD (by rw[h7];exact ax)).trans ((aD (by rw[h8];exact ax)).trans (aE (fun n=>(pure (some n):Sem (Option (List Str)))) hn)))))
noncomputable def t9(sc:Scope)(x y:Str)(xa xb:Expr):Bool:=noStar xa&&noStar xb&&((sc.names.lookup x == some .cell)||(sc.names.lookup y == some .cell))
theorem KP{x y:Str}{px py p p':Pos}{xa xb:Expr}{k k':Nat}(h:t9 sc x y xa xb=true)(eo:ft sc env):
  swappedStores [.Tuple [.Name x px,.Name y py] k p] (.Tuple [xa,xb] k' p') env=pure none:=by
 unfold t9 at h;rw[de,de,tF] at h;obtain⟨⟨h5,h6⟩,h⟩:=h;have hb:=w5 eo;have c1:¬((!(([Expr.Name x px,.Name y py].length == 2)||([Expr.Name x px,.Name y py].length == 3))||[xa,xb].length != [Expr.Name x px,.Name y py].length||env.blockKind != .function)=true):=by rw[hb];exact ax
 have c2:=CI h5 h6 (f:=fun| .Starred ..=>true|_=>false) (fun z hz=>by cases z<;>first|rfl|cases hz)
 have q:((if (env.kindOf x == some .local&&px.line == px.line)=true then some x else none).toList++(if (env.kindOf y == some .local&&py.line == px.line)=true then some y else none).toList:List Str).length != 2:=
  RA (h.imp (fun h=>G4 (eo.cell x (bY h))) fun h=>G4 (eo.cell y (bY h)))
 have c3:(([Expr.Name x px,.Name y py].filterMap fun| .Name id pos=>if (env.kindOf id == some .local&&pos.line == px.line)=true then some id else none|_=>none).length != 2||([Expr.Name x px,.Name y py].filterMap fun| .Name id pos=>if (env.kindOf id == some .local&&pos.line == px.line)=true then some id else none|_=>none).eraseDups.length != ([Expr.Name x px,.Name y py].filterMap fun| .Name id pos=>if (env.kindOf id == some .local&&pos.line == px.line)=true then some id else none|_=>none).length)=true:=by
  rw[DY rfl rfl,tF];exact .inl q
 exact(aD c1).trans ((aD fun q=>ax (c2.symm.trans q)).trans (aG c3))
end
structure qY(env:Env)(l:List (Str×NameKind))(cl:List (Str×Addr)):Prop where
 sub:∀p∈cl,env.cells.lookup p.1=some p.2
 all:∀y∈l,y.2=.free→∃c,(y.1,c)∈cl
inductive Aw(env:Env)(l:List (Str×NameKind))(acc:List (Str×Addr))(m:Sem (List (Str×Addr))):Prop
 |mk {cl:List (Str×Addr)} (e:m=pure cl) (c:qY env l cl) (o:∀p∈acc,p∈cl)
theorem xG{env:Env}(f:Str×NameKind→List (Str×Addr)→Sem (ForInStep (List (Str×Addr))))
  (hf:∀name kind cs,f (name,kind) cs=if (kind == .free)=true then(do let c ←cellOf env name;pure (.yield ((name,c)::cs))) else pure (.yield cs)):
  ∀(l:List (Str×NameKind)) (acc:List (Str×Addr)),(∀y∈l,y.2=.free→∃c,env.cells.lookup y.1=some c)→(∀p∈acc,env.cells.lookup p.1=some p.2)→Aw env l acc (forIn l acc f)
 | [],acc,_,h=>⟨by rw[List.forIn_nil],⟨h,fun _ q=>nomatch q⟩,fun _ q=>q⟩
 |(name,kind)::r,acc,hl,h=>by
  rw[List.forIn_cons,hf];by_cases hk:(kind == NameKind.free)=true
  ·obtain⟨c,hc⟩:=hl (name,kind) (.head _) (dm.mp hk);obtain⟨e,⟨h1,h3⟩,h2⟩:=xG f hf r ((name,c)::acc) (fun y hy=>hl y (.tail _ hy)) (fun p hp=>(a8.mp hp).elim (fun e=>e▸hc) (h p));refine⟨?_,⟨h1,fun y hy hy2=>(a8.mp hy).elim (fun e=>⟨c,e▸h2 _ (.head _)⟩) fun hy=>h3 y hy hy2⟩,fun p hp=>h2 p (.tail _ hp)⟩;rw[aG hk,show cellOf env name=pure c by unfold cellOf;rw[hc]]
   exact e
  ·obtain⟨e,⟨h1,h3⟩,h2⟩:=xG f hf r acc (fun y hy=>hl y (.tail _ hy)) h;refine⟨?_,⟨h1,fun y hy hy2=>(a8.mp hy).elim (fun e=>absurd (dm.mpr (show kind=.free from(e▸hy2:(name,kind).2=.free))) hk) fun hy=>h3 y hy hy2⟩,h2⟩
   rw[aD hk];exact e
theorem uB{env:Env}{scope:Scope}(hl:∀y∈scope.names,y.2=.free→∃c,env.cells.lookup y.1=some c):Aw env scope.names [] (closureFor scope env):=by
 have key:∃f:Str×NameKind→List (Str×Addr)→Sem (ForInStep (List (Str×Addr))),closureFor scope env=(forIn scope.names [] f >>= pure)∧
   ∀name kind cs,f (name,kind) cs=if (kind == .free)=true then(do let c ←cellOf env name;pure (.yield ((name,c)::cs))) else pure (.yield cs):=by
  refine⟨_,rfl,fun name kind cs=>?_⟩
  dsimp only
 obtain⟨f,h1,h2⟩:=key;obtain⟨e,c,o⟩:=xG (env:=env) f h2 scope.names [] hl (fun _ q=>nomatch q);exact⟨by rw[h1,e];rfl,c,o⟩
noncomputable def Mu.ghost(μ:Mu)(D:Addr):Mu:=⟨D::μ.g,μ.l,μ.st⟩
section
variable{W:Wd}{μ₁ μ μ' μ'':Mu}{h₁ h h':Heap}{D a:Addr}{H H' H₂:AH}{X Y:Addr→Prop}
theorem rT(m:a∈foot (μ.ghost D)):a=D∨a∈foot μ:=a8.mp m
theorem pR(m:a∈foot μ):a∈foot (μ.ghost D):=BR _ m
theorem Jh:D∈foot (μ.ghost D):=m6
theorem bf.off(E:bf Y μ₁ h₁ μ h)(E':bf X μ h μ' h')(hX:∀a,X a→h₁.get? a=Option.none):bf Y μ₁ h₁ μ' h':=
 have T:bf (fun a=>Y a∨X a) μ₁ h₁ μ' h':=(E.weaken fun _=>.inl).trans (E'.weaken fun _=>.inr)
 ⟨T.pre,T.gs,T.new,fun b o e n1 n2=>T.keep b o e n1 fun q=>q.elim n2 fun q=>ao ((hX b q).symm.trans e),T.live,T.eT,T.gk⟩
theorem bf.heap(E:bf Y μ₁ h₁ μ h)(k:∀b o,h₁.get? b=some o→∀o',h.get? b=some o'→h'.get? b=some o'):bf Y μ₁ h₁ μ h':=
 ⟨E.pre,E.gs,E.new,fun b o e n1 n2=>k b o e _ (E.keep b o e n1 n2),fun b o e=>let ⟨⟨e',r⟩⟩:=E.live b o e;⟨⟨k b o e _ e',r⟩⟩,fun i p hp=>⟨(E.eT i p hp).1,fun q o e=>k _ o e _ ((E.eT i p hp).2 q o e)⟩,fun a m o e=>k a o e _ (E.gk a m o e)⟩
theorem yr(hD:h.get? D=none)(hk:∀b o,h.get? b=some o→h'.get? b=some o):Kp μ h (μ.ghost D) h':=
 ⟨lY _,fun a m=>(rT m).elim (fun e=>.inr (e▸hD)) .inl,fun b o _ _ e _ _=>hk b o e⟩
theorem aW.ghost(N:aW W μ H h)(hD:h.get? D=none)(hk:∀b o,h.get? b=some o→h'.get? b=some o)(hl:∃o,h'.get? D=some o):aW W (μ.ghost D) H h' where
 base:=fun b o e=>hk b o (N.base b o e)
 fresh:=fun a m=>(rT m).elim (fun e=>e▸N.nL hD) (N.fresh a)
 apart:=ba.mpr ⟨N.out hD,N.apart⟩
 iA:=fun a m=>(a8.mp m).elim (fun e=>e▸hl) fun m=>let ⟨o,e⟩:=N.iA a m;⟨o,hk a o e⟩
 len:=N.len
 cS:=fun e=>(N.cS e).kp (yr hD hk) (fun p hp a ha o=>hk a o) rfl
theorem FH:Kp (μ.ghost D) h μ h:=⟨lY _,fun a m=>.inl (pR m),fun b o _ _ e _ _=>e⟩
theorem aW.nf(N:aW W (μ.ghost D) H h):D∉foot μ:=(ba.mp N.apart).1
theorem aW.drop(N:aW W (μ.ghost D) H h):aW W μ H h:=
 ⟨N.base,fun a m=>N.fresh a (pR m),(ba.mp N.apart).2,fun a m=>N.iA a (.tail _ m),N.len,fun e=>(N.cS e).kp FH (fun p hp a ha o=>id) rfl⟩
theorem vK(m:a∈foot (μ.push (D,none))):a∈foot (μ.ghost D):=(xl m).elim pR fun m=>(a6.mp m)▸Jh
theorem FF:Kp (μ.ghost D) h (μ.push (D,none)) h:=⟨oe _ _,fun a m=>.inl (vK m),fun b o _ _ e _ _=>e⟩
theorem aW.adopt(N:aW W (μ.ghost D) H h){c:Cell}(hc:CR W (μ.push (D,none)) h (D,none) c)(hst:stampOf c=none):aW W (μ.push (D,none)) (H++[c]) h where
 base:=N.base
 fresh:=fun a m=>N.fresh a (vK m)
 apart:=xm μ (D,none)▸eZ.mpr ⟨N.drop.apart,Hp D,fun a ha b hb e=>N.nf ((show a=D from e.trans (a6.mp hb))▸ha)⟩
 iA:=fun a m=>N.iA a (.tail _ m)
 len:=by show(μ.l++[_]).length=_;rw[a5,a5,show μ.l.length=H.length from N.len];rfl
 cS:=fun{i c'} e=>by
  have hl:μ.l.length=H.length:=N.len;rcases CJ e with e|⟨hi,e⟩
  ·exact(N.cS e).kp FF (fun p hp a ha o=>id) (aD (eB (hl▸(dE.mp e).1)))
  ·rw[hi,←e];exact⟨by rw[←hl];exact uo _ _,hc,fun k q=>ao (hst.symm.trans q)⟩
theorem Ti(N:aW W μ H h)(hD:D∈μ.g){i:Nat}{p:Addr×Option Addr}(hp:μ.l[i]?=some p)(ha:a∈adr p):a≠D:=fun q=>
 (eZ.mp N.apart).2.2 D hD a (kY.mpr ⟨p,dj hp,ha⟩) q.symm
theorem yt(hD:D∈μ.g)(hk:gz D h h'):Kp μ h μ h':=⟨lY _,fun _ m=>.inl m,fun b o xs n e _ nf=>hk b o (fun q=>nf (q▸gX _ hD)) e⟩
theorem aW.Tv(N:aW W μ H h)(hD:D∈μ.g)(hk:gz D h h')(hl:∃o,h'.get? D=some o):aW W μ H h':=
 ⟨fun b o e=>hk b o (fun q=>ao ((N.fresh D (gX _ hD)).symm.trans (q▸e))) (N.base b o e),N.fresh,N.apart,fun a ma=>(ml (a=D)).elim (fun q=>q▸hl) fun q=>let ⟨o,ho⟩:=N.iA a ma;⟨o,hk a o q ho⟩,N.len,
  fun e=>(N.cS e).kp (yt hD hk) (fun p hp a ha o=>hk a o (Ti N hD hp ha)) rfl⟩
theorem bf.Ia(E:bf X (μ₁.ghost D) h₁ μ' h)(hD0:h₁.get? D=Option.none)(hp:μ₁.l <+:μ''.l)(hg:μ''.g=μ₁.g)(hf:∀a∈foot μ'',a∈foot μ')(hs:∀i,i<μ'.l.length→μ''.st i=μ'.st i):bf X μ₁ h₁ μ'' h where
 pre:=hp
 gs:=hg
 new:=fun a m=>(E.new a (hf a m)).elim (fun m=>(rT m).elim (fun e=>.inr (e▸hD0)) .inl) .inr
 keep:=fun b o e nf=>E.keep b o e fun m=>(rT m).elim (fun q=>ao (hD0.symm.trans (q▸e))) nf
 live:=fun b o e=>let ⟨⟨e',r⟩⟩:=E.live b o e;⟨⟨e',fun m=>r (pR m)⟩⟩
 eT:=fun i p q=>(hs i (dE.mp (jY E.pre q)).1)▸E.eT i p q
 gk:=fun a m=>E.gk a (.tail _ m)
theorem Ki{ws:List V}{v:V}{cvs:List Value}(E:Ext (μ₁.ghost D) h₁ μ' h)(N:aW W μ' H₂ h)(hD:XL h D cvs)(hv:aM μ' h ws cvs)(hD0:h₁.get? D=none)(z:ws.length≤aJ)(r:LR ws H₂ v H'){P:Prop}
  (k:∀{μ'':Mu},Ext μ₁ h₁ μ'' h→aW W μ'' H' h→VR μ'' h v (.ref D)→(∀a∈foot μ'',a∈foot μ')→P):P:=by
 have hg:=E.gs;obtain⟨g,l,st⟩:=μ'
 dsimp only at hg
 subst hg;have N:aW W ((⟨μ₁.g,l,st⟩:Mu).ghost D) H₂ h:=N
 cases r with
 |val=>exact k (μ'':=⟨μ₁.g,l,st⟩) (E.Ia hD0 E.pre rfl (fun _ m=>pR m) fun _ _=>rfl) N.drop ⟨rfl,N.nf,hD,z,aM.kp FH ws hv⟩ (fun _ m=>pR m)
 |cell=>exact k (μ'':=(⟨μ₁.g,l,st⟩:Mu).push (D,none)) (E.Ia hD0 (E.pre.trans (oe _ _)) rfl (fun _ m=>vK m) fun _ hi=>aD (eB hi)) (N.adopt ⟨rfl,z,hD,aM.kp FF ws hv⟩ rfl) (VR.sL (p:=(D,none)) (by rw[show H₂.length=l.length from N.len.symm];exact uo _ _)) fun _ m=>vK m
end
structure jB(sc sc2:Scope)(x:Str):Prop where
 kind:sc2.kind=.function
 cell:∀y∈sc2.names,y.2≠.cell
 loc:∀y∈sc2.names,y.2=.local→sc2.names.lookup y.1=some .local
 EH:sc2.names.lookup x=some .local
 ok:dJ x
 only:∀y∈sc2.names,y.2=.local→dJ y.1→y.1=x
 free:∀y∈sc2.names,y.2=.free→sc.names.lookup y.1=some .cell∨sc.names.lookup y.1=some .free
theorem mem_of_lookup{β:Type}:∀{l:List (Str×β)} {x:Str} {b:β},l.lookup x=some b→(x,b)∈l
 | [],_,_,h=>ao h
 |(n,k)::r,x,b,h=>by
  rw[m5] at h
  cases q:x == n with
  |true=>rw[q] at h;rw[bY q,←av h];exact .head _
  |false=>rw[q] at h;exact .tail _ (mem_of_lookup h)
theorem lookup_some{β:Type}:∀{l:List (Str×β)} {x:Str} {b:β},(x,b)∈l→∃c,l.lookup x=some c
 |(n,k)::r,x,b,h=>by
  rw[m5]
  cases q:x == n with
  |true=>exact⟨k,rfl⟩
  |false=>exact(a8.mp h).elim (fun e=>by rw[nE e |>.1,ig] at q;cases q) lookup_some
noncomputable def mW(env:Env)(x:Str)(k:NameKind):NameKind:=if (k == NameKind.free&&env.scope.kind == .function&&env.kindOf x == some .cell) then NameKind.cell else k
theorem Fy{env:Env}:∀{names:List (Str×NameKind)} {x:Str},
  (names.map fun(n,k)=>if (k == NameKind.free&&env.scope.kind == .function&&env.kindOf n == some .cell) then(n,NameKind.cell) else(n,k)).lookup x=(names.lookup x).map (mW env x)
 | [],x=>rfl
 |(n,k)::r,x=>by
  have ih:=@Fy env r x;have e:(if (k == NameKind.free&&env.scope.kind == .function&&env.kindOf n == some .cell)=true then(n,NameKind.cell) else(n,k))=(n,mW env n k):=by unfold mW;split<;>rfl
  show List.lookup x ((if (k == NameKind.free&&env.scope.kind == .function&&env.kindOf n == some .cell)=true then(n,NameKind.cell) else(n,k))::_)=_
  rw[e,m5,m5]
  cases hx:x == n with
  |true=>rw[bY hx];rfl
  |false=>exact ih
section
variable{W:Wd}{μ μ':Mu}{H H':AH}{F F':aO}{env:Env}{sc sc2:Scope}{h h':Heap}{m cm:Str→Option Value}{x:Str}{cl:List (Str×Addr)}{D:Addr}
theorem rO(y:Str):(compEnvC sc2 cl D env).kindOf y=(sc2.names.lookup y).map (mW env y):=Fy
theorem HS{y:Str}{k:NameKind}(h:k≠.free):mW env y k=k:=aD fun q=>h (bY (de _ _▸(de _ _▸q).1).1)
theorem HR{y:Str}:mW env y .free=.cell∨mW env y .free=.free:=by
 unfold mW;split
 ·exact .inl rfl
 ·exact .inr rfl
theorem Kj(K:jB sc sc2 x)(eo:ft sc env)(hf:qY env sc2.names cl):ft sc2 (compEnvC sc2 cl D env) where
 kind:=K.kind
 g:=eo.g
 b:=eo.b
 loc:=fun y hy=>by rw[rO,hy];rfl
 cell:=fun y hy=>absurd rfl (K.cell _ (mem_of_lookup hy))
 free:=fun y hy=>by
  rw[rO,hy];exact(HR (env:=env) (y:=y)).imp (aE some) (aE some)
 glob:=fun y hy=>by rw[rO,hy];rfl
 cells:=fun y hy=>hy.elim (fun hy=>absurd rfl (K.cell _ (mem_of_lookup hy))) fun hy=>let ⟨c,hc⟩:=hf.all _ (mem_of_lookup hy) rfl;lookup_some hc
noncomputable def without(F:aO)(n:Nat):aO:=fun k=>if k=n then none else F k
theorem Ih(F:aO)(n:Nat)(v:V):upd (without F n) n v=upd F n v:=by
 funext k;unfold upd without;split<;>rfl
theorem Xn{n:Nat}:without F n n=none:=aG rfl
theorem Xm{n k:Nat}{v:V}(e:without F n k=some v):F k=some v:=by
 unfold without at e;split at e
 ·exact ao e
 ·exact e
theorem FO.less(fo:FO W μ F h env m cm)(hF:∀k v,F' k=some v→F k=some v):FO W μ F' h env m cm:=
 ⟨fo.ns,fo.out,fo.old,fo.cell,fo.apart,fun nm v a b c=>fo.loc nm v a (hF _ _ b) c,fun nm v a b c=>fo.cS nm v a (hF _ _ b) c⟩
theorem dU.less(fo:dU W μ F h env)(hF:∀k v,F' k=some v→F k=some v):dU W μ F' h env:=let ⟨f⟩:=fo;⟨f.less hF⟩
theorem dU.out(fo:dU W μ F h env){a:Addr}(ha:own env a):a∉foot μ:=let ⟨f⟩:=fo;(f.zj ha).1
theorem kinds(K:jB sc sc2 x){y:Str}(k:(compEnvC sc2 cl D env).kindOf y=some .local):sc2.names.lookup y=some .local:=by
 rw[rO] at k;obtain⟨k0,hk0,hk1⟩:=ou.mp k;rw[hk0];by_cases q:k0=.free
 ·rw[q] at hk1;rcases HR (env:=env) (y:=y) with r|r<;>(rw[r] at hk1;cases hk1)
 ·rw[HS q] at hk1;rw[hk1]
theorem QP(K:jB sc sc2 x){y:Str}(k:(compEnvC sc2 cl D env).kindOf y=some .cell∨(compEnvC sc2 cl D env).kindOf y=some .free):sc2.names.lookup y=some .free:=by
 rw[rO] at k
 cases q:sc2.names.lookup y with
 |none=>rw[q] at k;rcases k with k|k<;>cases k
 |some k0=>
  rw[q] at k;by_cases r:k0=.free
  ·rw[r]
  ·rw[wZ,HS r] at k;rcases k with k|k
   ·exact absurd (av k) (K.cell _ (mem_of_lookup q))
   ·exact absurd (av k) r
theorem Kk(K:jB sc sc2 x)(eo:ft sc env)(fo:FO W μ F h env m cm)(hcl:qY env sc2.names cl)
  {m':Str→Option Value} (hns:h.Ns D m') (hout:D∉foot μ) (hold:W.h₀.get? D=none) (hDc:∀n,env.cells.lookup n≠some D):FO W μ (without F (aS x)) h (compEnvC sc2 cl D env) m' cm where
 ns:=hns
 out:=hout
 old:=hold
 cell:=fun n c hc=>have hc':=hcl.sub _ (mem_of_lookup hc);have q:=fo.cell n c hc';⟨q.is,q.out,q.old,fun q=>hDc n (hc'.trans (aE some q))⟩
 apart:=fun n n' c a b=>fo.apart n n' c (hcl.sub _ (mem_of_lookup a)) (hcl.sub _ (mem_of_lookup b))
 loc:=fun nm v hn e k=>ao (Xn.symm.trans ((K.only _ (mem_of_lookup (kinds K k)) rfl hn:nm=x)▸e))
 cS:=fun nm v hn e k=>by
  have hfree:=QP K k;have hk:env.kindOf nm=some .cell∨env.kindOf nm=some .free:=(K.free _ (mem_of_lookup hfree) rfl).elim (fun q=>.inl (eo.cell _ q)) (eo.free _);obtain⟨h1,h2,h3⟩:=fo.cS nm v hn (Xm e) hk;obtain⟨c',hc'⟩:=hcl.all _ (mem_of_lookup hfree) rfl;obtain⟨c2,hc2⟩:=lookup_some hc';have q:env.cells.lookup nm=some c2:=hcl.sub _ (mem_of_lookup hc2);rw[h1] at q;exact⟨(av q)▸hc2,h2,h3⟩
end
inductive jg(W:Wd)(F:aO)(env:Env)(D:Addr)(μ₀:Mu)(s₀:Shared)(ys:List V)(H:AH)(μ':Mu)(s':Shared):Prop
 |mk {cvs:List Value} (g:s'.gens=s₀.gens) (o:s'.os=s₀.os) (G:Ext (μ₀.ghost D) s₀.heap μ' s'.heap) (N:aW W μ' H s'.heap) (fo:dU W μ' F s'.heap env) (hD:XL s'.heap D cvs) (hv:aM μ' s'.heap ys cvs):jg W F env D μ₀ s₀ ys H μ' s'
inductive Ay(W:Wd)(F:aO)(env:Env)(D:Addr)(μ₀:Mu)(s₀:Shared)(C:AH→Prop)(l:List V)(St:Mu→Heap→Nat→Prop)(x:Nat)(el:aO→AH→(V→AH→Prop)→Prop)(Q:List V→AH→Prop)(k:Nat)(s':Shared):Prop
 |mk {i:Nat} {r ys:List V} {μ':Mu} {H:AH} (hk:r.length=k) (hd:l.drop i=r) (hy:ys.length+r.length=l.length) (S:jg W (without F x) env D μ₀ s₀ ys H μ' s') (st:St μ' s'.heap i) (q:jC C el x F r H fun zs H=>Q (ys++zs) H):Ay W F env D μ₀ s₀ C l St x el Q k s'
section
variable{W:Wd}{n:Nat}{sc:Scope}{F F':aO}{H H':AH}{env:Env}{A:Around}{s s' s₀:Shared}{μ μ' μ₀:Mu}{C:AH→Prop}{l ys:List V}{I D:Addr}{St:Mu→Heap→Nat→Prop}{h h':Heap}
theorem jC.c{x:Nat}{el:aO→AH→(V→AH→Prop)→Prop}{Q:List V→AH→Prop}(q:jC C el x F l H Q):C H:=by
 cases l with
 |nil=>exact let ⟨c,_⟩:=q;c
 |cons=>exact let ⟨c,_⟩:=q;c
theorem jg.but(S:jg W F env D μ₀ s₀ ys H μ s)(hI0:s₀.heap.get? I=none)(hw:W.h₀.get? I=none)(ho:¬own env I)(nf:I∉foot μ)(f:g5 s.heap I)(hk:gz I s.heap h'){tk:Nat}:jg W F env D μ₀ s₀ ys H μ {s with heap:=h',toks:=tk}:=
 have kp:=rh (μ:=μ) f hk
 let ⟨g,o,G,N,fo,hD,hv⟩:=S
 ⟨g,o,G.heap fun b o e o'=>hk b o' fun q=>ao (hI0.symm.trans (q▸e)),N.to kp (fun a o m=>hk a o fun q=>nf (q▸m)) (fun a o e0=>hk a o fun q=>ao (hw.symm.trans (q▸e0))),fo.to kp fun a o m=>hk a o fun q=>ho (q▸m),
  hD.at fun o=>hk _ o fun q=>nf (q▸gX _ (G.gs▸m6)),hv.kp kp⟩
theorem jg.more{x:Nat}{v w:V}{cw:Value}{D:Addr}(g:s.gens=s₀.gens)(o:s.os=s₀.os)(G:Ext (μ₀.ghost D) s₀.heap μ s.heap)(hD0:s₀.heap.get? D=none)(N:aW W μ H s.heap)(fo:dU W μ (upd F x v) s.heap env){cvs:List Value}(hv:aM μ s.heap ys cvs)(hw:VR μ s.heap w cw)(hk:gz D s.heap h')(hD:XL h' D (cvs++[cw])){tk:Nat}:
  jg W (without F x) env D μ₀ s₀ (ys++[w]) H μ {s with heap:=h',toks:=tk}:=
 have hg:D∈μ.g:=G.gs▸m6;have kp:=yt hg hk
 ⟨g,o,G.heap fun b o e o'=>hk b o' fun q=>ao (hD0.symm.trans (q▸e)),N.Tv hg hk hD.some,(fo.to kp fun a o m=>hk a o fun q=>fo.out m (q▸gX _ hg)).less fun k u e=>by
  unfold without at e;unfold upd;split at e
  ·exact ao e
  ·rename_i q;rw[aD q];exact e,hD,aM.append (hv.kp kp) (.one (hw.kp kp))⟩
theorem Kn{x:Str}{elt:IE}{xe xi:Expr}{px pos:Pos}{scope:Scope}{Q:List V→AH→Prop}
  (wk:jO W) (R:Rb A n) (hst:ki W C l A I St) (eo:ft sc env) (hx:sc.names.lookup x=some .local) (hok:dJ x) (he:SE W n sc elt xe)
  (hI0:s₀.heap.get? I=none) (hw:W.h₀.get? I=none) (ho:¬own env I) (hC0:s₀.heap.get? env.locals=none) (hD0:s₀.heap.get? D=none) (hlen:l.length≤aJ)
  (S:jg W (without F (aS x)) env D μ₀ s₀ [] H μ s) (st:St μ s.heap 0) (q:jC C (fun F H Q=>ay W n elt F H Q) (aS x) F l H Q) {Rr:Result→Shared→Prop}
  (hR:∀{ws:List V} {H':AH} {s':Shared} {μ':Mu},Q ws H'→ws.length=l.length→jg W (without F (aS x)) env D μ₀ s₀ ws H' μ' s'→Rr (.ok .next) s'):
  codeAny (model W.prog W.w) A (.compLoop (.ListComp xe [⟨.Name x px,xi,[],0⟩] scope pos) 0 (.ref I) (.ref D) env) Rr s:=by
 refine codeAny_compLoop_tests (Ay W F env D μ₀ s₀ C l St (aS x) (fun F H Q=>ay W n elt F H Q) Q) ?_ l.length ⟨rfl,rfl,cP _,S,st,q⟩;intro k s₁ y;obtain⟨hk,hd,hy,S,st,q⟩:=y;rename_i i r ys μ₁ H₁;have c:=q.c
 cases r with
 |nil=>
  obtain⟨_,q⟩:=q;have N:=let ⟨_,_,_,N,_,_,_⟩:=S;N;rw[eY] at q;exact jf (hst.done N c st (DF hd) fun hb=>hR q hy (S.but hI0 hw ho (hst.nf st) (hst.fl st) hb))
 |cons v r=>
  obtain⟨_,q⟩:=q;obtain⟨d1,d2⟩:=DD hd;have N:=let ⟨_,_,_,N,_,_,_⟩:=S;N;refine jf (hst.item N c st d1 fun{h' tk cv} hc st' hbt=>?_);obtain⟨g,o,G,N,fo,hD,hv⟩:=S.but hI0 hw ho (hst.nf st) (hst.fl st) hbt (tk:=tk);refine An (H0 fo N eo hx hok hc fun{s₂} Y=>?_);rw[List.forIn_nil];refine ae ?_;rw[aG rfl];refine jf (he q ⟨wk,eo,R,Y.N,Ih F (aS x) v▸Y.fo⟩ fun{w _ _ _ s₃} q Z hw=>?_);have E:=Y.E.trans Z.E.any;have nX:hG (·=env.locals) h':=fun a o e=>fo.lF a o (.inl e);have G3:=G.off E fun a (e:a=env.locals)=>e▸hC0;have hg:D∈μ₁.g:=G.gs▸m6;obtain⟨hD⟩:=hD;have hD3:=E.gk D hg _ hD;have st3:=hst.keep E nX (fun q=>ho (.inl q)) N Z.N c q.c st';refine append_at hD3 (fun h5 hs5 hD5=>?_) ?_
  ·refine⟨r.length,hk▸dY _,rfl,d2,by rw[a5,bP,bR [w].length];exact hy,jg.more ((Z.g.trans Y.g).trans g) ((Z.o.trans Y.o).trans o) G3 hD0 Z.N (Ih F (aS x) v▸Y.fo.ext Z.E) (aM.ext E nX _ hv) hw (hO hs5) ⟨BS _ _▸hD5⟩ (tk:=s₃.toks),
    hst.grow Z.N (yt (G3.gs▸m6) (hO hs5)) (hst.nf st3) (.inl (G3.gs▸m6)) (hO hs5) st3,?_⟩
   have e:(fun zs H=>Q ((ys++[w])++zs) H)=fun zs H=>Q (ys++w::zs) H:=funext fun zs=>by rw[dX];rfl
   rw[e];exact q
  ·rw[bM,hv.length];exact aA (aA (hy▸aT _ _) hlen) AM
end
structure tH(W:Wd)(env:Env)(s₀:Shared)(Cd:Addr)(μ':Mu)(s':Shared):Prop where
 ns:∃m',s'.heap.Ns Cd m'
 nf:Cd∉foot μ'
 w:W.h₀.get? Cd=none
 s:s₀.heap.get? Cd=none
 no:¬own env Cd
section
variable{W:Wd}{n:Nat}{sc:Scope}{F F':aO}{H H':AH}{env:Env}{A:Around}{s s' s₀:Shared}{μ μ' μ₀:Mu}{C:AH→Prop}{l ys:List V}{St:Mu→Heap→Nat→Prop}{h h':Heap}{cl:List (Str×Addr)}
theorem zY{h:Heap}{a:Addr}(ha:h.objs.size≤a):h.get? a=none:=by
 cases e:h.get? a with
 |none=>rfl
 |some o'=>exact absurd (gE e) (fL.mpr ha)
theorem dU.Gu(fo:dU W μ F h env){a:Addr}(hd:h.get? a=none):a≠env.locals∧∀k,env.cells.lookup k≠some a:=
 have q:=fo.Gw hd
 ⟨fun e=>q (.inl e),fun k e=>q (.inr ⟨k,e⟩)⟩
theorem Kl{x:Str}{elt:IE}{xe xi:Expr}{px pos:Pos}{scope:Scope}{Q:V→AH→Prop}{h₁ HI:Heap}{Cd D:Addr}{tk:Nat}
  (K:jB sc scope x) (he:SE W n scope elt xe) (K1:Fr W n sc env A μ H F s) (hc:qY env scope.names cl) (hst:ki W C l A s.heap.objs.size St) (st0:St μ HI 0) (hlen:l.length≤aJ) (q:jC C (fun F H Q=>ay W n elt F H Q) (aS x) F l H fun ws H=>m9 ws H Q)
  (keI:∀b o,s.heap.get? b=some o→HI.get? b=some o) (oldI:∀b o,HI.get? b=some o→h₁.get? b=some o) (hDI:HI.get? D=none) (hD0:s.heap.get? D=none) (hC0:s.heap.get? Cd=none) (hID:s.heap.objs.size≠D) (hIC:s.heap.objs.size≠Cd) (hDC:D≠Cd)
  (hD:h₁.get? D=some {cls:=.type "list",data:=.seq ([]:List Value).toArray 0}) {m':Str→Option Value} (hns:h₁.Ns Cd m')
  (X0:bO W μ₀ s₀ H μ s) {RR:Result→Shared→Prop} (hRR:∀{s':Shared} {μ':Mu} {v:V} {H':AH},Q v H'→bO W μ₀ s₀ H' μ' s'→VR μ' s'.heap v (.ref D)→tH W env s₀ Cd μ' s'→RR (.ok .next) s'):
  codeAny (model W.prog W.w) A (.compLoop (.ListComp xe [⟨.Name x px,xi,[],0⟩] scope pos) 0 (.ref s.heap.objs.size) (.ref D) (compEnvC scope cl Cd env)) RR {s with heap:=h₁,toks:=tk}∧St (μ.ghost D) h₁ 0:=by
 have old:∀b o,s.heap.get? b=some o→h₁.get? b=some o:=fun b o e=>oldI b o (keI b o e);have hI0:=gK s.heap;have out:∀{a:Addr},s.heap.get? a=none→a≠D→a∉foot (μ.ghost D):=fun hn ne q=>(rT q).elim ne (K1.N.out hn);have st₁:=hst.grow (K1.N.grow keI) (yr hDI oldI) (out hI0 hID) (.inr hDI) (fun b o _ e=>oldI b o e) st0;obtain⟨c1,c2⟩:=K1.fo.Gu hC0;obtain⟨fo⟩:=K1.fo;have foi:=Kk (D:=Cd) K K1.eo (fo.to (yr hD0 old) fun a o _ e=>old a o e) hc hns (out hC0 (jJ hDC)) (K1.N.nL hC0) c2;have hIo:¬own (compEnvC scope cl Cd env) s.heap.objs.size:=fun q=>q.elim hIC fun⟨k,q⟩=>(K1.fo.Gu hI0).2 k (hc.sub _ (mem_of_lookup q));refine⟨Kn (s:={s with heap:=h₁,toks:=tk}) (s₀:=s) (μ₀:=μ) K1.wk K1.rb hst (Kj K K1.eo hc) K.EH K.ok he hI0 (K1.N.nL hI0) hIo hC0 hD0 hlen
  ⟨rfl,rfl,l8 old,K1.N.ghost hD0 old ⟨_,hD⟩,⟨foi⟩,⟨hD⟩,.nil⟩ st₁ q fun q hl S=>?_,st₁⟩
 obtain⟨g,o,G,N,fo',hD,hv⟩:=S;obtain⟨r,q⟩:=q;exact Ki G N hD hv hD0 (hl▸hlen) r fun E N' hv' hs=>hRR q (X0.trans ⟨g,o,E,N'⟩) hv' (let ⟨f⟩:=fo';⟨⟨_,f.ns⟩,fun m=>f.out (hs _ m),f.old,X0.E.none hC0,fun q=>q.elim c1 fun⟨k,q⟩=>c2 k q⟩)
theorem uH{x:Str}{elt:IE}{xe xi:Expr}{px pos:Pos}{scope:Scope}{o:Obj}{Q:V→AH→Prop}
  (K:jB sc scope x) (he:SE W n scope elt xe) (K1:Fr W n sc env A μ H F s) (hc:qY env scope.names cl) (hst:ki W C l A s.heap.objs.size St) (st0:St μ (s.heap.push o) 0) (hlen:l.length≤aJ) (q:jC C (fun F H Q=>ay W n elt F H Q) (aS x) F l H fun ws H=>m9 ws H Q)
  (X0:bO W μ₀ s₀ H μ s) {RR:Value→Addr→Result→Shared→Prop} (hRR:∀{Cd D:Addr} {s':Shared} {μ':Mu} {v:V} {H':AH},Q v H'→bO W μ₀ s₀ H' μ' s'→VR μ' s'.heap v (.ref D)→tH W env s₀ Cd μ' s'→RR (.ref D) Cd (.ok .next) s'):
  Wp W A (newList []) (fun acc s₃=>Wp W A (newFunctionEnv scope env.globals cl [] env.qual none .none (some env)) (fun cenv s₄=>
   codeAny (model W.prog W.w) A (.compStart (.ListComp xe [⟨.Name x px,xi,[],0⟩] scope pos) 0 (.ref s.heap.objs.size) acc {cenv with scope:=relabel scope env}) (RR acc cenv.locals) s₄) s₃)
   {s with heap:=s.heap.push o}:=by
 refine i8 (wpAny_newFunctionEnv K.cell (fun y hy=>nomatch hy) (fun h₁ hns₁ hsb₁=>?_) K.kind)
 dsimp only at hns₁ hsb₁ ⊢
 have szI:(s.heap.push o).objs.size=s.heap.objs.size+1:=by rw[tL]
 have keI:=b8 s.heap o;generalize hHI:s.heap.push o=HI at*;have keL:=b8 HI {cls:=.type "list",dict:=none,data:=.seq ([]:List Value).toArray 0};have atL:(HI.push {cls:=.type "list",dict:=none,data:=.seq ([]:List Value).toArray 0}).get? HI.objs.size=some {cls:=.type "list",dict:=none,data:=.seq ([]:List Value).toArray 0}:=dW _ rfl;have szC:(HI.push {cls:=.type "list",dict:=none,data:=.seq ([]:List Value).toArray 0}).objs.size=HI.objs.size+1:=by rw[tL]
 generalize HI.push {cls:=.type "list",dict:=none,data:=.seq ([]:List Value).toArray 0}=H2 at*;have l0:s.heap.objs.size<HI.objs.size:=szI▸dY _;have l1:HI.objs.size<H2.objs.size:=szC▸dY _;have oldI:∀b o,HI.get? b=some o→h₁.get? b=some o:=fun b o e=>hsb₁.extBut b o (eB (iU (gE e) l1)) (mq _ (keL b o e));obtain⟨loop,st⟩:=Kl (tk:=s.toks+([]:List (Str×Value)).length) (RR:=RR (.ref HI.objs.size) H2.objs.size) (xi:=xi) (px:=px) (pos:=pos) K he K1 hc hst st0 hlen q keI oldI (gK HI) (zY (dk l0)) (zY (dk (iU l0 l1))) (eB l0) (eB (iU l0 l1)) (eB l1)
  (hsb₁.extBut _ _ (eB l1) (mq _ atL)) hns₁ X0 hRR
 exact codeAny_compStart_list loop (jf (hst.self (s:={s with heap:=h₁,toks:=s.toks+([]:List (Str×Value)).length}) st loop))
theorem TZ{a:Addr}{m:Str→Option Value}(x:h.Ns a m):hG (·=a) h:=let ⟨_,ho,q⟩:=vB x;fun b o (e:b=a) ho'=>av (ho.symm.trans (e▸ho'))▸q
theorem FG{a:Addr}{m:Str→Option Value}(x:h.Ns a m)(hk:gz a h h'):Kp μ h μ h':=⟨lY _,fun _ m=>.inl m,fun b o xs n e d _=>hk b o (fun q=>TZ x b o q e xs n d) e⟩
theorem Cy{Cd:Addr}{v:V}{cv:Value}{R:Value→Shared→Prop}(X:bO W μ₀ s₀ H' μ' s')(hv:VR μ' s'.heap v cv)(c:tH W env s₀ Cd μ' s'){M:Model}{Er:Value→Shared→Prop}(k:Kc W μ₀ s₀ H' v R):compPost M A Er none R cv Cd (.ok .next) s':=by
 obtain⟨⟨m',hn⟩,nf,hw,hs,_⟩:=c;refine⟨m',hn,fun h'' hs''=>?_⟩;have hk:=hO hs'';have kp:=FG (μ:=μ') hn hk;exact k ⟨X.g,X.o,X.E.heap fun b o e o'=>hk b o' fun q=>ao (hs.symm.trans (q▸e)),X.N.to kp (fun a o m=>hk a o fun q=>nf (q▸m)) fun a o e0=>hk a o fun q=>ao (hw.symm.trans (q▸e0))⟩ (hv.kp kp)
theorem SE.comp{e it:IE}{x:Str}{xe xi:Expr}{px pos:Pos}{scope:Scope}(K:jB sc scope x)(he:SE W n scope e xe)(hi:SE W n sc it xi)(hns:mR xi=true):
  SE W n sc (.comp e (aS x) it) (.ListComp xe [⟨.Name x px,xi,[],0⟩] scope pos):=fun{F H Q env A s μ R} ev K1 k=>by
 obtain⟨hclos,hc,_⟩:=uB (env:=env) (scope:=scope) fun y hy hf=>K1.eo.cells _ (K.free y hy hf);rw[eval_ListComp];exact Ap (use:=none) rfl (pL hns env) hclos K.kind K.loc (hi ev K1 fun q X r=>let ⟨it,⟨z,q⟩⟩:=q;yT K1.wk X.N r it fun hst st0=>
  uH K he (K1.nx X) hc (hst K1.rb.hd) st0 z q X fun q Y r c=>Cy Y r c (k.kc q))
theorem GP{k:Nat}:(iI k).length=k:=by unfold iI;rw[aN,jH]
theorem SE.f7{e it:IE}{x:Str}{xe xi:Expr}{px p pc pos:Pos}{scope:Scope}(K:jB sc scope x)(he:SE W n scope e xe)(hi:SE W n sc it xi)(hst:noStar xi=true)(hg:sc.names.lookup ("range":Str)=some .globalImplicit)(hbn:("range":Str)∈W.eK):
  SE W n sc (.f7 e (aS x) it) (.ListComp xe [⟨.Name x px,.Call (.Name "range" p) [xi] [] pc,[],0⟩] scope pos):=fun{F H Q env A s μ R} ev K1 k=>by
 obtain⟨hclos,hc,_⟩:=uB (env:=env) (scope:=scope) fun y hy hf=>K1.eo.cells _ (K.free y hy hf);rw[eval_ListComp];exact Ap (use:=none) rfl (pL rfl env) hclos K.kind K.loc (z6 hg hbn hi hst K1 ev fun q z X r=>z7 X.N z r fun hst st0=>
  uH K he (K1.nx X) hc (hst K1.rb.hd) st0 (GP▸z) q X fun q Y r c=>Cy Y r c (k.kc q))
noncomputable def qR(y:Str)(py pos:Pos)(scope:Scope):Bool:=py.line == pos.line&&!(scope.names.any fun(n,k)=>n == y&&(k == .local||k == .cell))
theorem H5{y:Str}{py pos:Pos}{scope:Scope}{xe xi:Expr}{x:Str}{px:Pos}{l:Nat}(eo:ft sc env)(hy:sc.names.lookup y=some .local)(hu:qR y py pos scope=true):
  swapsWith (.ListComp xe [⟨.Name x px,xi,[],0⟩] scope pos) (some (.Name y py)) l env=pure true:=by
 unfold qR at hu;rw[de] at hu;show(pure (env.blockKind == .function&&env.kindOf y == some .local&&py.line == pos.line&&!(scope.names.any fun(n,k)=>n == y&&(k == .local||k == .cell))):Sem Bool)=pure true;rw[w5 eo,eo.loc y hy,hu.1,hu.2];rfl
theorem Ii{y:Str}{py:Pos}{Cd D:Addr}{v:V}{Q:Fl→aO→AH→Prop}{R:Flow→Shared→Prop}(K:Fr W n sc env A μ H F s)(hy:sc.names.lookup y=some .local)(hok:cH y=true)(q:Q .aL (upd F (aS y) v) H')(k:KS W env μ s Q R)
  (X:bO W μ s H' μ' s') (hv:VR μ' s'.heap v (.ref D)) (c:tH W env s Cd μ' s') {Er:Value→Shared→Prop}:compPost (model W.prog W.w) A Er (some (assign (.Name y py) env)) (fun _ s'=>R .next s') (.ref D) Cd (.ok .next) s':=by
 obtain⟨⟨m',hn⟩,nf,hw,hs,no⟩:=c;show wpAny _ A (assign (.Name y py) env (.ref D)) _ Er s';refine An (oE (K.fo.ext X.E) X.N K.eo (.inl hy) (gu hok) hv fun{s₂} Y=>?_);have hn2:s₂.heap.Ns Cd m':=Gh hn fun o e=>Y.E.keep Cd o e nf no;refine⟨m',hn2,fun h'' hs''=>?_⟩;have hk:=hO hs'';have kp:=FG (μ:=μ') hn2 hk;have T:=(K.sx X).trans Y;exact k q ⟨T.g,T.o,T.E.heap fun b o e o'=>hk b o' fun q=>ao (hs.symm.trans (q▸e)),T.N.to kp (fun a o m=>hk a o fun q=>nf (q▸m)) (fun a o e0=>hk a o fun q=>ao (hw.symm.trans (q▸e0))),T.fo.to kp fun a o m=>hk a o fun q=>no (q▸m)⟩ .aL
theorem SS.Jc{e it:IE}{x y:Str}{xe xi:Expr}{px py pos spos:Pos}{scope:Scope}(K:jB sc scope x)(he:SE W n scope e xe)(hi:SE W n sc it xi)(hns:mR xi=true)
  (hy:sc.names.lookup y=some .local) (hok:cH y=true) (hu:qR y py pos scope=true):
  SS W n sc (.asg (aS y) (.comp e (aS x) it)) (.Assign [.Name y py] (.ListComp xe [⟨.Name x px,xi,[],0⟩] scope pos) spos):=fun{F H Q env A s μ R} ev K1 k=>by
 obtain⟨hclos,hc,_⟩:=uB (env:=env) (scope:=scope) fun y hy hf=>K1.eo.cells _ (K.free y hy hf);rw[exec_Assign_Name_used _ _ _ _ (H5 K1.eo hy hu)];refine aF (d8 (aF ?_));show Wp W A (do let _ ←comprehension (.ListComp xe [⟨.Name x px,xi,[],0⟩] scope pos) scope env _ (newList []) false (eval xi env) (some (assign (.Name y py) env))) _ s;exact aF (lT (Ap (use:=some (assign (.Name y py) env)) (Q:=fun _ s'=>R .next s') rfl (pL hns env) hclos K.kind K.loc
  (hi ev K1 fun q X r=>let ⟨it,⟨z,q⟩⟩:=q;yT K1.wk X.N r it fun hst st0=>uH K he (K1.nx X) hc (hst K1.rb.hd) st0 z q X fun q Y r c=>Ii K1 hy hok q k Y r c)) (fun _ s' hq=>ae (ae hq)) fun _ _ e=>e)
theorem SS.Jd{e it:IE}{x y:Str}{xe xi:Expr}{px py p pc pos spos:Pos}{scope:Scope}(K:jB sc scope x)(he:SE W n scope e xe)(hi:SE W n sc it xi)(hst:noStar xi=true)(hg:sc.names.lookup ("range":Str)=some .globalImplicit)(hbn:("range":Str)∈W.eK)
  (hy:sc.names.lookup y=some .local) (hok:cH y=true) (hu:qR y py pos scope=true):
  SS W n sc (.asg (aS y) (.f7 e (aS x) it)) (.Assign [.Name y py] (.ListComp xe [⟨.Name x px,.Call (.Name "range" p) [xi] [] pc,[],0⟩] scope pos) spos):=fun{F H Q env A s μ R} ev K1 k=>by
 obtain⟨hclos,hc,_⟩:=uB (env:=env) (scope:=scope) fun y hy hf=>K1.eo.cells _ (K.free y hy hf);rw[exec_Assign_Name_used _ _ _ _ (H5 K1.eo hy hu)];refine aF (d8 (aF ?_));show Wp W A (do let _ ←comprehension (.ListComp xe [⟨.Name x px,.Call (.Name "range" p) [xi] [] pc,[],0⟩] scope pos) scope env _ (newList []) false (eval (.Call (.Name "range" p) [xi] [] pc) env) (some (assign (.Name y py) env))) _ s;exact aF (lT (Ap (use:=some (assign (.Name y py) env)) (Q:=fun _ s'=>R .next s') rfl (pL rfl env) hclos K.kind K.loc
  (z6 hg hbn hi hst K1 ev fun q z X r=>z7 X.N z r fun hst st0=>uH K he (K1.nx X) hc (hst K1.rb.hd) st0 (GP▸z) q X fun q Y r c=>Ii K1 hy hok q k Y r c)) (fun _ s' hq=>ae (ae hq)) fun _ _ e=>e)
end
section
variable{W:Wd}{μ:Mu}{H:AH}{F:aO}{s s₁:Shared}{A:Around}{env:Env}{n:Nat}{h:Heap}{m cm:Str→Option Value}
noncomputable def tV(μ:Mu)(h:Heap)(env:Env)(F:aO)(m:Str→Option Value):Prop:=∀nm v,dJ nm→F (aS nm)=some v→env.kindOf nm=some .local→qe μ h m nm v
noncomputable def tG(μ:Mu)(h:Heap)(env:Env)(F:aO)(cm:Str→Option Value):Prop:=∀nm v,dJ nm→F (aS nm)=some v→env.kindOf nm=some .cell∨env.kindOf nm=some .free→qb μ h env cm nm v
theorem Nq{c:Prop}[Decidable c]{p nm:Str}{cv:Value}(hne:nm≠p):(if c then(fun y=>if y=p then some cv else m y) else m) nm=m nm:=by
 split
 ·exact aD hne
 ·rfl
theorem Np{c:Prop}[Decidable c]{p nm:Str}{cv:Value}(hne:nm≠p):(if c then m else(fun y=>if y=p then some cv else m y)) nm=m nm:=by
 split
 ·rfl
 ·exact aD hne
theorem CX:∀{ps:List Str} {vs:List V} {cvs:List Value} {F:aO} {m cm:Str→Option Value},aM μ h vs cvs→(∀p∈ps,dJ p)→(∀p∈ps,env.kindOf p=some .local∨(env.kindOf p=some .cell∧∃c,env.cells.lookup p=some c))→tV μ h env F m→tG μ h env F cm→
  tV μ h env (gw F (ps.map aS) vs) (bindL env.kindOf (ps.zip cvs) m)∧tG μ h env (gw F (ps.map aS) vs) (bindC env.kindOf (ps.zip cvs) cm)
 | [],vs,cvs,F,m,cm,_,_,_,h1,h2=>⟨h1,h2⟩
 |p::ps,[],cvs,F,m,cm,hv,_,_,h1,h2=>hv.iP (P:=fun cvs=>tV μ h env F (bindL env.kindOf (List.zip (p::ps) cvs) m)∧tG μ h env F (bindC env.kindOf (List.zip (p::ps) cvs) cm)) ⟨h1,h2⟩
 |p::ps,v::vs,cvs,F,m,cm,hv,hok,hk,h1,h2=>by
  refine hv.d7 (P:=fun cvs=>tV μ h env (gw (upd F (aS p) v) (ps.map aS) vs) (bindL env.kindOf (List.zip (p::ps) cvs) m)∧tG μ h env (gw (upd F (aS p) v) (ps.map aS) vs) (bindC env.kindOf (List.zip (p::ps) cvs) cm)) fun cv r hv0 hv'=>?_;refine CX hv' (fun q hq=>hok q (.tail _ hq)) (fun q hq=>hk q (.tail _ hq)) (fun nm u hn e k=>?_) fun nm u hn e k=>?_
  ·rcases qQ (hok p (.head _)) hn e with ⟨e1,e2⟩|⟨hne,e⟩
   ·subst e1;subst e2;exact⟨by rw[aG k];exact aG rfl,hv0⟩
   ·obtain⟨a,b⟩:=h1 nm u hn e k;exact⟨(Nq hne).trans a,b⟩
  ·rcases qQ (hok p (.head _)) hn e with ⟨e1,e2⟩|⟨hne,e⟩
   ·subst e1;subst e2;have hl:env.kindOf nm≠some .local:=fun q=>by rw[q] at k;rcases k with k|k<;>cases k
    rcases hk nm (.head _) with q|⟨_,c,hc⟩
    ·exact absurd q hl
    ·exact⟨hc,by rw[aD hl];exact aG rfl,hv0⟩
   ·obtain⟨a,a',b⟩:=h2 nm u hn e k;exact⟨a,(Np hne).trans a',b⟩
theorem Gz:∀{l:List (Str×Addr)},(l.Pairwise fun x y=>x.2≠y.2)→∀{p q:Str×Addr},p∈l→q∈l→p.2=q.2→p=q
 | [],_,_,_,hp,_,_=>nomatch hp
 |x::l,h,p,q,hp,hq,e=>by
  rw[List.pairwise_cons] at h;rcases a8.mp hp with e1|hp'
  ·rcases a8.mp hq with e2|hq'
   ·exact e1.trans e2.symm
   ·exact absurd (e1▸e) (h.1 q hq')
  ·rcases a8.mp hq with e2|hq'
   ·exact absurd (e2▸e.symm) (h.1 p hp')
   ·exact Gz h.2 hp' hq' e
theorem xD:∀{names:List (Str×NameKind)} {k:Nat} {acc:List (Str×Addr)} {x:Str},((x,NameKind.cell)∈names∨∃c,(x,c)∈acc)→∃c,(x,c)∈cellsFrom k names acc
 | [],_,_,_,h=>h.elim (fun h=>nomatch h) id
 |(y,kd)::r,k,acc,x,h=>by
  unfold cellsFrom;split
  ·exact xD (h.elim (fun h=>(a8.mp h).elim (fun e=>.inr ⟨_,by rw[(nE e).1];exact .head _⟩) .inl) fun⟨c,h⟩=>.inr ⟨c,.tail _ h⟩)
  ·rename_i hk;exact xD (h.elim (fun h=>(a8.mp h).elim (fun e=>absurd (dm.mpr (nE e).2.symm) hk) .inl) .inr)
structure A3(W:Wd)(fi:mn)(a:Addr)(fd:FuncData)(ps:List Str)(body:List Stmt):Prop where
 obj:∃o,W.h₀.get? a=some o∧o.data=.func fd
 code:W.h₀.CodeRec fd.code fd.qualname
 CZ:fd.body=.stmts body
 bind:∀vals:List Value,vals.length=ps.length→bindArgs fd ⟨vals,[]⟩=pure (ps.zip vals)
 Cq:fd.closure=[]
 g:fd.globals=mainGlobals
 b:fd.builtins=builtinsNs
 co:fd.scope.isCoroutine=false
 gen:fd.scope.isGenerator=false
 kind:fd.scope.kind=.function
 par:fi.params=ps.map aS
 ok:∀p∈ps,dJ p
 kinds:∀p∈ps,fd.scope.names.lookup p=some .local∨fd.scope.names.lookup p=some .cell
 free:∀x,fd.scope.names.lookup x≠some .free
 run:∀n,ed W n fd.scope fi.body body
theorem J4{fd:FuncData}(hk:fd.scope.kind=.function)(hg:fd.globals=mainGlobals)(hb:fd.builtins=builtinsNs)(hfree:∀x,fd.scope.names.lookup x≠some .free){L a:Addr}:ft fd.scope (callEnvC fd L a) where
 kind:=hk
 g:=hg
 b:=hb
 loc:=fun _ h=>h
 cell:=fun _ h=>h
 free:=fun x h=>absurd h (hfree x)
 glob:=fun _ h=>h
 cells:=fun x hx=>hx.elim (fun hx=>let ⟨c,hc⟩:=xD (k:=L+1) (acc:=[]) (.inl (mem_of_lookup hx));lookup_some hc) fun hx=>absurd hx (hfree x)
noncomputable def HT(Q:V→AH→Prop):Fl→aO→AH→Prop
 | .aL,_,H=>Q .none H
 | .ret v,_,H=>Q v H
 |_,_,_=>False
theorem VF{a n c:Nat}(h:a+20*(n+1)+1300<c):a+3+20*n+1310<c:=by omega
theorem HX{a n c:Nat}(h:a+3*(n+1)+2<c):a+1+3*n+4<c∧a<c:=by omega
theorem bf.call{X:Addr→Prop}{μ₂:Mu}{h h₁ h₂:Heap}(E:bf X μ h₁ μ₂ h₂)(ke:∀b o,h.get? b=some o→h₁.get? b=some o)(hX:∀a,X a→h.get? a=Option.none):Ext μ h μ₂ h₂:=
 (l8 ke).off E hX
theorem Lo{f:Nat}{fi:mn}{a:Addr}{fd:FuncData}{ps:List Str}{body:List Stmt}{vs:List V}{Q:V→AH→Prop}(ha:W.k6 f=some a)(X:A3 W fi a fd ps body)(hlen:fi.params.length=vs.length)(ev:dc W n fi.body (gw (fun _=>none) fi.params vs) H (HT Q)):Fn W (n+1) f vs H Q:=fun ha'=>by
 have e:=av (ha.symm.trans ha');subst e;intro A s μ cvs R K hv kk;obtain⟨o,ho,hd⟩:=X.obj;have N:=K.N;have hl:cvs.length=ps.length:=by rw[hv.length,←hlen,X.par,aN]
 have eo:ft fd.scope (callEnvC fd s.heap.objs.size a):=J4 X.kind X.g X.b X.free;have Rb':Rb (A.deeper (callEnvC fd s.heap.objs.size a)) n:=⟨by rw[units_deeper];exact VF K.rm.u,by rw[depth_deeper];exact(HX K.rm.d).1,K.rm.hd⟩
 have hkin:∀p∈ps,(callEnvC fd s.heap.objs.size a).kindOf p=some .local∨((callEnvC fd s.heap.objs.size a).kindOf p=some .cell∧∃c,(callEnvC fd s.heap.objs.size a).cells.lookup p=some c):=fun p hp=>(X.kinds p hp).imp id fun q=>⟨q,eo.cells p (.inl q)⟩;refine codeAny_call_cells (HX K.rm.d).2 (N.base a o ho) hd (K.wk.lim.keeps N.base) (X.code.keeps N.base) X.CZ (X.bind cvs hl) X.Cq (fun x hx=>?_) (fun s₁ I=>?_) X.co X.gen X.kind
 ·rcases hkin x.1 (List.of_mem_zip hx).1 with q|⟨q,c,hc⟩
  ·exact .inl q
  ·exact .inr ⟨q,wY.mpr ⟨c,hc⟩⟩
 ·obtain⟨h₁,tk,e⟩:=I.toInCall.same;subst e;have ke:∀b o,s.heap.get? b=some o→h₁.get? b=some o:=I.toInCall.keep;have above:∀{c},s.heap.objs.size≤c→s.heap.get? c=none:=zY;have lt:∀{k c},(callEnvC fd s.heap.objs.size a).cells.lookup k=some c→s.heap.objs.size<c:=fun hc=>I.above _ _ (mem_of_lookup hc);obtain⟨b1,b2⟩:=CX (μ:=μ) (h:=h₁) (env:=callEnvC fd s.heap.objs.size a) (F:=fun _=>none) (m:=fun _=>none) (cm:=fun _=>none) (aM.ext (l8 ke) .none _ hv) X.ok hkin (fun _ _ _ e=>ao e) (fun _ _ _ e=>ao e);have fo:dU W μ (gw (fun _=>none) fi.params vs) h₁ (callEnvC fd s.heap.objs.size a):=⟨⟨I.toInCall.ns,N.out (above (ai _)),N.nL (above (ai _)),fun k c hc=>
    ⟨I.cell k c hc,N.out (above (dk (lt hc))),N.nL (above (dk (lt hc))),jJ (eB (lt hc))⟩,
   fun k k' c hc hc'=>aE Prod.fst (Gz I.apart (mem_of_lookup hc) (mem_of_lookup hc') rfl),by rw[X.par];exact b1,by rw[X.par];exact b2⟩⟩
  refine jf (X.run n ev ⟨K.wk,eo,Rb',N.grow ke,fo⟩ fun{fl _ H' μ₂ _ s₂} q Y hf=>?_);have E:Ext μ s.heap μ₂ s₂.heap:=Y.E.call ke fun c q=>above (q.elim (fun e=>bS e.symm) fun⟨k,q⟩=>dk (lt q));have S:bO W μ s H' μ₂ s₂:=⟨Y.g,Y.o,E,Y.N⟩
  cases hf with
  |aL=>exact kk q S .of_none
  |brk=>exact q.elim
  |cnt=>exact q.elim
  |ret r=>exact kk q S r
end
noncomputable def G8(x:Expr):Bool:=x.ctorIdx != 0&&(x.ctorIdx != 3&&(x.ctorIdx != 5&&x.ctorIdx != 15))
theorem UL{x:Expr}(h:G8 x=true)(env:Env):PySem.isTrue x env (eval x env)=(do let v ←eval x env;standAt x.pos;holding [v] (truthy v)):=by
 cases x<;>first|exact(ax h).elim|exact rfl
noncomputable def uF(sc sc2:Scope)(x:Str):Bool:=
 sc2.kind == .function&&(cH x&&((sc2.names.lookup x == some .local)&&
  sc2.names.all fun y=>!(y.2 == .cell)&&((!(y.2 == .local)||((sc2.names.lookup y.1 == some .local)&&(!cH y.1||y.1 == x)))&&(!(y.2 == .free)||((sc.names.lookup y.1 == some .cell)||(sc.names.lookup y.1 == some .free))))))
theorem Tp{x:Str}(h:dJ x):cH x=true:=dh.mpr fun c hc=>a9 (h c hc)
theorem cR{a b:Bool}{P:Prop}(h:(a&&b)=true)(k:a=true→b=true→P):P:=by
 cases a with
 |true=>exact k rfl h
 |false=>exact(ax h).elim
theorem uX{a b:Bool}(h:(!a||b)=true)(ha:a=true):b=true:=by rw[ha] at h;exact h
theorem Gr{a b:Bool}(h:(a||b)=true):a=true∨b=true:=Bool.or_eq_true_iff.mp h
theorem uG{sc sc2:Scope}{x:Str}(h:uF sc sc2 x=true):jB sc sc2 x:=
 cR h fun h1 h=>cR h fun h2 h=>cR h fun h3 h4=>
 have h4:=dh.mp h4
 {kind:=bY h1
  cell:=fun y hy q=>cR (h4 y hy) fun a _=>by rw[dm.mpr q] at a;exact ax a
  loc:=fun y hy q=>cR (h4 y hy) fun _ b=>cR b fun b _=>cR (uX b (dm.mpr q)) fun c _=>bY c
  EH:=bY h3
  ok:=gu h2
  only:=fun y hy q o=>cR (h4 y hy) fun _ b=>cR b fun b _=>cR (uX b (dm.mpr q)) fun _ d=>bY (uX d (Tp o))
  free:=fun y hy q=>cR (h4 y hy) fun _ b=>cR b fun _ c=>(Gr (uX c (dm.mpr q))).imp bY bY}
structure ee where
 attrs:List Str
 jU:List Str
 eK:List Str
 jt:Str→Option Int
 js:Str→Option Nat
 jr:Str→Option Nat
structure dz(S:ee)(W:Wd):Prop where
 attrs:∀x∈S.attrs,x∈W.attrs
 jU:∀x∈S.jU,x∈W.jU
 eK:∀x∈S.eK,x∈W.eK
 jt:∀x i,S.jt x=some i→W.jt x=some i
 js:∀x i,S.js x=some i→W.js x=some i
 jr:∀x i,S.jr x=some i→W.jr x=some i
noncomputable def glob(sc:Scope)(x:Str):Bool:=sc.names.lookup x == some .globalImplicit
noncomputable def bi(S:ee)(sc:Scope)(x:Str):Bool:=glob sc x&&S.eK.contains x
noncomputable def u9(x:Str):Bool:=!(x == ("__debug__":Str))&&!(x == ("__classdict__":Str))
theorem pz{x:Str}(h:u9 x=true):(x == ("__debug__":Str))=false∧(x == ("__classdict__":Str))=false:=cR h fun a b=>⟨tE _▸a,tE _▸b⟩
section
variable{S:ee}{W:Wd}{sc:Scope}{x:Str}
theorem dz.bi(So:dz S W)(h:Mine.bi S sc x=true):sc.names.lookup x=some .globalImplicit∧x∈W.eK:=cR h fun a b=>⟨bY a,So.eK _ (jj.mp b)⟩
end
inductive Rs{α:Type}(P:α→Prop):Type
 |no
 |ok (a:α) (h:P a)
section
variable{α β:Type}{P:α→Prop}{Q:β→Prop}
noncomputable def Rs.go(r:Rs P)(k:∀a,P a→Rs Q):Rs Q:=Rs.rec .no k r
noncomputable def Rs.or(r:Rs P)(k:∀a,P a→Rs Q)(n:Rs Q):Rs Q:=Rs.rec n k r
noncomputable def Rs.val(r:Rs P):Option α:=Rs.rec none (fun a _=>some a) r
theorem Rs.get{r:Rs P}{a:α}(h:r.val=some a):P a:=by
 cases r with
 |no=>exact ao h
 |ok b p=>exact av h▸p
noncomputable def gd(c:Bool)(k:c=true→Rs Q):Rs Q:=Bool.rec (motive:=fun b=>(b=true→Rs Q)→Rs Q) (fun _=>.no) (fun k=>k rfl) c k
noncomputable def ge(c:Bool)(k:c=true→Rs Q)(n:Rs Q):Rs Q:=Bool.rec (motive:=fun b=>(b=true→Rs Q)→Rs Q) (fun _=>n) (fun k=>k rfl) c k
noncomputable def opt(o:Option α)(k:∀a,o=some a→Rs Q):Rs Q:=Option.rec (motive:=fun b=>(∀a,b=some a→Rs Q)→Rs Q) (fun _=>.no) (fun a k=>k a rfl) o k
noncomputable def Gq(o:Option α)(k:∀a,o=some a→Rs Q)(n:Rs Q):Rs Q:=Option.rec (motive:=fun b=>(∀a,b=some a→Rs Q)→Rs Q) (fun _=>n) (fun a k=>k a rfl) o k
end
inductive XV:Expr→Type
 |const (c:Const) (k:Nat) (p:Pos):XV (.Constant c k p)
 |name (x:Str) (p:Pos):XV (.Name x p)
 |un (op:UnaryOp) (a:Expr) (p:Pos):XV (.UnaryOp op a p)
 |bin (a:Expr) (op:Operator) (b:Expr) (p:Pos):XV (.BinOp a op b p)
 |Cb (op:BoolOp) (xs:List Expr) (p:Pos):XV (.BoolOp op xs p)
 |cmp (a:Expr) (ops:List CmpOp) (bs:List Expr) (p:Pos):XV (.Compare a ops bs p)
 |ite (c a b:Expr) (p:Pos):XV (.IfExp c a b p)
 |tup (es:List Expr) (k:Nat) (p:Pos):XV (.Tuple es k p)
 |lst (es:List Expr) (p:Pos):XV (.List es p)
 |dict (ks:List (Option Expr)) (vs:List Expr) (p:Pos):XV (.Dict ks vs p)
 |sub (a i:Expr) (p:Pos):XV (.Subscript a i p)
 |slice (lo hi st:Option Expr) (p:Pos):XV (.Slice lo hi st p)
 |attr (a:Expr) (nm:Str) (p:Pos):XV (.Attribute a nm p)
 |call (fn:Expr) (args:List Expr) (iE:List Keyword) (p:Pos):XV (.Call fn args iE p)
 |comp (elt:Expr) (gs:List Comprehension) (scope:Scope) (p:Pos):XV (.ListComp elt gs scope p)
 |no {x:Expr}:XV x
noncomputable def view(x:Expr):XV x:=by
 cases x with
 |Constant c k p=>exact .const c k p
 |Name x p=>exact .name x p
 |UnaryOp op a p=>exact .un op a p
 |BinOp a op b p=>exact .bin a op b p
 |BoolOp op xs p=>exact .Cb op xs p
 |Compare a ops bs p=>exact .cmp a ops bs p
 |IfExp c a b p=>exact .ite c a b p
 |Tuple es k p=>exact .tup es k p
 |List es p=>exact .lst es p
 |Dict ks vs p=>exact .dict ks vs p
 |Subscript a i p=>exact .sub a i p
 |Slice lo hi st p=>exact .slice lo hi st p
 |Attribute a nm p=>exact .attr a nm p
 |Call fn args iE p=>exact .call fn args iE p
 |ListComp elt gs scope p=>exact .comp elt gs scope p
 |_=>exact .no
section
variable{x:Expr}
noncomputable def XV.pf(v:XV x):Rs (fun r:Str×Pos=>x=.Name r.1 r.2):=by
 cases v with
 |name n p=>exact .ok (n,p) rfl
 |_=>exact .no
noncomputable def XV.xK(v:XV x):Rs (fun r:Const×Nat×Pos=>x=.Constant r.1 r.2.1 r.2.2):=by
 cases v with
 |const n k p=>exact .ok (n,k,p) rfl
 |_=>exact .no
noncomputable def XV.Fs(v:XV x):Rs (fun r:List Expr×Pos=>x=.List r.1 r.2):=by
 cases v with
 |lst n p=>exact .ok (n,p) rfl
 |_=>exact .no
noncomputable def XV.Vh(v:XV x):Rs (fun r:Option Expr×Option Expr×Option Expr×Pos=>x=.Slice r.1 r.2.1 r.2.2.1 r.2.2.2):=by
 cases v with
 |slice a b c p=>exact .ok (a,b,c,p) rfl
 |_=>exact .no
noncomputable def XV.J2(v:XV x):Rs (fun r:Expr×List Expr×List Keyword×Pos=>x=.Call r.1 r.2.1 r.2.2.1 r.2.2.2):=by
 cases v with
 |call a b c p=>exact .ok (a,b,c,p) rfl
 |_=>exact .no
noncomputable def XV.XD(v:XV x):Rs (fun r:List Expr×Nat×Pos=>x=.Tuple r.1 r.2.1 r.2.2):=by
 cases v with
 |tup a b p=>exact .ok (a,b,p) rfl
 |_=>exact .no
noncomputable def XV.f7(v:XV x):Rs (fun r:Expr×List Comprehension×Scope×Pos=>x=.ListComp r.1 r.2.1 r.2.2.1 r.2.2.2):=by
 cases v with
 |comp a b c p=>exact .ok (a,b,c,p) rfl
 |_=>exact .no
end
noncomputable def vE{α:Type}(l:List α):Rs (fun a:α=>l=[a]):=by
 cases l with
 |nil=>exact .no
 |cons a r=>cases r with
  |nil=>exact .ok a rfl
  |cons=>exact .no
noncomputable def mM{α:Type}(l:List α):Rs (fun _:Unit=>l=[]):=by
 cases l with
 |nil=>exact .ok () rfl
 |cons=>exact .no
noncomputable def kI(x:Expr):Bool:=x.ctorIdx != 5
noncomputable def p0(x:Expr):Bool:=x.ctorIdx != 7
theorem Gf{x:Expr}(h:p0 x=true)(op:CmpOp):behindInMarks op x=false:=by
 cases x<;>first|rfl|cases h
inductive TE(S:ee)(sc:Scope)(x:Expr)(ie:IE):Prop
 |mk (se:∀{W:Wd} {n:Nat},dz S W→SE W n sc ie x) (st:kI x=true→∀{W:Wd} {n:Nat},dz S W→ST W n sc ie x)
noncomputable abbrev RE(S:ee)(sc:Scope)(x:Expr):Type:=Rs (TE S sc x)
noncomputable abbrev RL(S:ee)(sc:Scope)(xs:List Expr):Type:=Rs fun es:c9=>∀{W:Wd} {n:Nat},dz S W→f3 W n sc es xs
section
variable{S:ee}{sc:Scope}{x:Expr}{ie:IE}{W:Wd}{n:Nat}
theorem TE.se(t:TE S sc x ie)(so:dz S W):SE W n sc ie x:=let ⟨a,_⟩:=t;a so
theorem TE.st(t:TE S sc x ie)(h:kI x=true)(so:dz S W):ST W n sc ie x:=let ⟨_,b⟩:=t;b h so
theorem TE.pl(h:G8 x=true)(se:∀{W:Wd} {n:Nat},dz S W→SE W n sc ie x):TE S sc x ie:=⟨se,fun _ {_ _} so=>ST.plain (se so) fun env=>UL h env⟩
theorem TE.ce(h:∀{W:Wd} {n:Nat},dz S W→CE W n sc ie x):TE S sc x ie:=⟨fun so=>(h so).se,fun _ {_ _} so=>(h so).st⟩
end
section
variable(S:ee)(f:∀sc x,RE S sc x)(sc:Scope)
noncomputable def qG(xs:List Expr):RL S sc xs:=List.rec (motive:=fun xs=>RL S sc xs) (.ok .nil fun _=>.nil)
 (fun x xs ih=>gd (noStar x) fun h=>(f sc x).go fun a ha=>ih.go fun es he=>.ok (.cons a es) fun so=>.cons (ha.se so) h (he so)) xs
structure TB(op:BoolOp)(xs:List Expr)(ie:IE):Prop where
 se:∀{W:Wd} {n:Nat} {pos:Pos},dz S W→SE W n sc ie (.BoolOp op xs pos)
 st:∀{W:Wd} {n:Nat} {pos:Pos},dz S W→ST W n sc ie (.BoolOp op xs pos)
noncomputable def Ca:BoolOp→IE→IE→IE
 | .And,a,b=>.and a b
 | .Or,a,b=>.or a b
theorem WK{op:BoolOp}{x:Expr}{a:IE}(h:kI x=true)(ha:TE S sc x a):TB S sc op [x] a:=⟨fun so=>SE.last (ha.se so),fun so=>by
 cases op with
 |And=>exact ST.Qu (ha.st h so)
 |Or=>exact ST.Qv (ha.st h so)⟩
theorem WJ{op:BoolOp}{x y:Expr}{ys:List Expr}{a b:IE}(h:kI x=true)(ha:TE S sc x a)(hb:TB S sc op (y::ys) b):TB S sc op (x::y::ys) (Ca op a b):=by
 cases op with
 |And=>exact⟨fun so=>SE.and (ha.se so) (hb.se so),fun so=>ST.and (ha.st h so) (hb.st so)⟩
 |Or=>exact⟨fun so=>SE.or (ha.se so) (hb.se so),fun so=>ST.or (ha.st h so) (hb.st so)⟩
noncomputable def Wn(op:BoolOp)(xs:List Expr):Rs (TB S sc op xs):=List.rec (motive:=fun xs=>Rs (TB S sc op xs)) .no
 (fun x xs=>List.rec (motive:=fun xs=>Rs (TB S sc op xs)→Rs (TB S sc op (x::xs))) (fun _=>gd (kI x) fun h=>(f sc x).go fun a ha=>.ok a (WK S sc h ha))
  (fun y ys _ ih=>gd (kI x) fun h=>(f sc x).go fun a ha=>ih.go fun b hb=>.ok (Ca op a b) (WJ S sc h ha hb)) xs) xs
noncomputable def Wx(c:Const)(k:Nat)(p:Pos):RE S sc (.Constant c k p):=match c with
 | .int i=>.ok (.const (.int i)) (.pl rfl fun _=>SE.int)
 | .str x=>.ok (.const (.str x.cps.toList)) (.pl rfl fun _=>SE.str)
 | .bool b=>.ok (.const (.bool b)) (.pl rfl fun _=>SE.bool)
 | .none=>.ok (.const .none) (.pl rfl fun _=>SE.TP)
 |_=>.no
theorem WW{i:Int}{x:Expr}{p:Pos}{r:Const×Nat×Pos}(e:x=.Constant r.1 r.2.1 r.2.2)(ec:r.1=.int i):TE S sc (.UnaryOp .USub x p) (.const (.int (-i))):=by
 rw[e,ec];exact⟨fun _=>SE.neg,fun _ {_ _} _=>ST.plain SE.neg fun env=>rfl⟩
noncomputable def N5(c:Const):Rs (fun i:Int=>c=.int i):=match c with
 | .int i=>.ok i rfl
 |_=>.no
noncomputable def TQ(c:Const):Rs (fun _:Unit=>c=.none):=match c with
 | .none=>.ok () rfl
 |_=>.no
noncomputable def Vy(c:Const):Rs (fun i:Str=>c=.str i):=match c with
 | .str i=>.ok i rfl
 |_=>.no
noncomputable def XC(op:UnaryOp)(x:Expr)(p:Pos):RE S sc (.UnaryOp op x p):=match op with
 | .Not=>gd (kI x) fun h=>(f sc x).go fun a ha=>.ok (.not a) ⟨fun so=>SE.not (ha.se so),fun _ {_ _} so=>ST.not (ha.st h so)⟩
 | .USub=>(view x).xK.go fun r e=>(N5 r.1).go fun i ec=>.ok (.const (.int (-i))) (WW S sc e ec)
 |_=>.no
noncomputable def XA(xs:List Expr):Rs (fun l=>jM l xs):=List.rec (motive:=fun xs=>Rs (fun l=>jM l xs)) (.ok [] .nil)
 (fun x xs ih=>(view x).xK.go fun r e=>(Vy r.1).go fun s es=>ih.go fun l hl=>.ok (s.cps.toList::l) (by rw[e,es];exact .cons hl)) xs
theorem WX{a:Expr}{ie:IE}{x:Expr}{p:Pos}{r:Const×Nat×Pos}(ha:TE S sc a ie)(e:x=.Constant r.1 r.2.1 r.2.2)(ec:r.1=.none):TE S sc (.Compare a [.IsNot] [x] p) (.op .lG (.one ie)):=by
 rw[e,ec];exact .ce fun so=>SE.lG (ha.se so)
theorem WR{a:Expr}{ie:IE}{x:Expr}{p:Pos}{r:List Expr×Pos}(ha:TE S sc a ie)(e:x=.List r.1 r.2)(ec:r.1=[]):TE S sc (.Compare a [.NotEq] [x] p) (.op .fh (.one ie)):=by
 rw[e,ec];exact .ce fun so=>SE.fh (ha.se so)
theorem WZ{a:Expr}{ie:IE}{x:Expr}{p:Pos}{r:List Expr×Pos}{l:List (List Nat)}(ha:TE S sc a ie)(e:x=.List r.1 r.2)(hl:jM l r.1)(h:decide (r.1.length<1000)=true):TE S sc (.Compare a [.In] [x] p) (.op (.eE l) (.one ie)):=by
 rw[e];exact .ce fun so=>SE.eE (ha.se so) hl (c6 h)
theorem vb{a b:Expr}{ia ib:IE}{op:CmpOp}{p:Pos}(ha:TE S sc a ia)(hb:TE S sc b ib)(h:p0 b=true):TE S sc (.Compare a [op] [b] p) (.op (.cmp op) (.two ia ib)):=
 ⟨fun so=>SE.cmp (ha.se so) (hb.se so) (Gf h _),fun _ {_ _} so=>ST.cmp (ha.se so) (hb.se so) (Gf h _)⟩
noncomputable def Ww(a:Expr)(op:CmpOp)(b:Expr)(p:Pos):RE S sc (.Compare a [op] [b] p):=(f sc a).go fun ia ha=>
 have plain:RE S sc (.Compare a [op] [b] p):=gd (p0 b) fun h=>(f sc b).go fun ib hb=>.ok (.op (.cmp op) (.two ia ib)) (vb S sc ha hb h)
 match op with
 | .IsNot=>(view b).xK.go fun r e=>(TQ r.1).go fun _ ec=>.ok _ (WX S sc ha e ec)
 | .NotEq=>(view b).Fs.or (fun r e=>(mM r.1).go fun _ ec=>.ok _ (WR S sc ha e ec)) (gd (p0 b) fun h=>(f sc b).go fun ib hb=>.ok _ (vb S sc ha hb h))
 | .In=>(view b).Fs.or (fun r e=>gd (decide (r.1.length<1000)) fun hz=>(XA r.1).go fun l hl=>.ok _ (WZ S sc ha e hl hz)) (gd (p0 b) fun h=>(f sc b).go fun ib hb=>.ok _ (vb S sc ha hb h))
 |op=>gd (p0 b) fun h=>(f sc b).go fun ib hb=>.ok _ (vb S sc ha hb h)
noncomputable def Ke(a:Expr)(ops:List CmpOp)(bs:List Expr)(p:Pos):RE S sc (.Compare a ops bs p):=match ops,bs with
 | [op],[b]=>Ww S f sc a op b p
 |_,_=>.no
noncomputable def W8(a:Expr)(ia:IE)(ha:TE S sc a ia)(lo hi st:Option Expr)(q p:Pos):RE S sc (.Subscript a (.Slice lo hi st q) p):=match lo,hi,st with
 |none,some b,none=>(f sc b).go fun ib hb=>.ok (.op .i6 (.two ia ib)) (.pl rfl fun so=>SE.i6 (ha.se so) (hb.se so))
 |some b,none,none=>(f sc b).go fun ib hb=>.ok (.op .gj (.two ia ib)) (.pl rfl fun so=>SE.gj (ha.se so) (hb.se so))
 |some b,some d,none=>(f sc b).go fun ib hb=>(f sc d).go fun id hd=>.ok (.op .cut (.cons ia (.two ib id))) (.pl rfl fun so=>SE.cut (ha.se so) (hb.se so) (hd.se so))
 |_,_,_=>.no
noncomputable def Rs.cast{α:Type}{P Q:α→Prop}(r:Rs P)(h:∀a,P a→Q a):Rs Q:=r.go fun a p=>.ok a (h a p)
noncomputable def XB(a i:Expr)(p:Pos):RE S sc (.Subscript a i p):=(f sc a).go fun ia ha=>
 ge (za i) (fun h=>(f sc i).go fun ii hi=>.ok (.op .sub (.two ia ii)) (.pl rfl fun so=>SE.sub (ha.se so) (hi.se so) h))
  ((view i).Vh.go fun r e=>(W8 S f sc a ia ha r.1 r.2.1 r.2.2.1 r.2.2.2 p).cast fun _ h=>by rw[e];exact h)
end
structure One(S:ee)(sc:Scope)(q x:Str)(args:List Expr)(iE:List Keyword)(a:Expr):Prop where
 nm:x=q
 args:args=[a]
 iE:iE=[]
 st:noStar a=true
 bi:bi S sc q=true
section
variable(S:ee)(f:∀sc x,RE S sc x)(sc:Scope)
noncomputable def oneArg(q x:Str)(args:List Expr)(iE:List Keyword):Rs (One S sc q x args iE):=gd (x == q&&bi S sc q) fun h=>(vE args).go fun a ha=>(mM iE).go fun _ hk=>gd (noStar a) fun hs=>
 .ok a (cR h fun h1 h2=>⟨bY h1,ha,hk,hs,h2⟩)
structure qW(S:ee)(sc:Scope)(q:Str)(x:Expr)(r:Expr×Pos×Pos):Prop where
 eq:x=.Call (.Name q r.2.1) [r.1] [] r.2.2
 st:noStar r.1=true
 bi:bi S sc q=true
noncomputable def t7(q:Str)(x:Expr):Rs (qW S sc q x):=(view x).J2.go fun r e=>(view r.1).pf.go fun m em=>(oneArg S sc q m.1 r.2.1 r.2.2.1).go fun a o=>
 .ok (a,m.2,r.2.2.2) ⟨by rw[e,em,o.nm,o.args,o.iE],o.st,o.bi⟩
theorem WV{a b:Expr}{ib:IE}{p pos:Pos}{r:Expr×Pos×Pos}(c:qW S sc "reversed" a r)(hb:bi S sc "list"=true)(h:TE S sc r.1 ib):TE S sc (.Call (.Name "list" p) [a] [] pos) (.op .listRev (.one ib)):=by
 rw[c.eq];exact .pl rfl fun so=>SE.listRev (so.bi hb).1 (so.bi hb).2 (so.bi c.bi).1 (so.bi c.bi).2 (h.se so) c.st
noncomputable def LZ(x:Str):Rs (fun f:F1=>f.nm=x):=ge (x == F1.nm .len) (fun h=>.ok .len (bY h).symm) (ge (x == F1.nm .tuple) (fun h=>.ok .tuple (bY h).symm) (ge (x == F1.nm .sorted) (fun h=>.ok .sorted (bY h).symm)
 (ge (x == F1.nm .str) (fun h=>.ok .str (bY h).symm) (gd (x == F1.nm .list) fun h=>.ok .list (bY h).symm))))
theorem WU{a:Expr}{ia:IE}{x:Str}{g:F1}{p pos:Pos}(e:g.nm=x)(hb:bi S sc x=true)(hs:noStar a=true)(h:TE S sc a ia):TE S sc (.Call (.Name x p) [a] [] pos) (.op (.f1 g) (.one ia)):=by
 subst e;exact .pl rfl fun so=>SE.Ll (so.bi hb).1 (so.bi hb).2 (h.se so) hs
noncomputable def Wz(x:Str)(a:Expr)(p pos:Pos)(hb:bi S sc x=true)(hs:noStar a=true):RE S sc (.Call (.Name x p) [a] [] pos):=
 have one:RE S sc (.Call (.Name x p) [a] [] pos):=(LZ x).go fun g e=>(f sc a).go fun ia ha=>.ok (.op (.f1 g) (.one ia)) (WU S sc e hb hs ha)
 ge (x == ("list":Str)) (fun h=>(t7 S sc "reversed" a).or (fun r c=>(f sc r.1).go fun ib hi=>.ok (.op .listRev (.one ib)) (by rw[bY h] at hb ⊢;exact WV S sc (b:=a) c hb hi)) one) one
theorem WY{x:Str}{p pos:Pos}(hb:bi S sc x=true)(h:(x == ("set":Str))=true):TE S sc (.Call (.Name x p) [] [] pos) (.op .mS .nil):=by
 rw[bY h] at hb ⊢;exact .pl rfl fun so=>SE.VW (so.bi hb).1 (so.bi hb).2
noncomputable def Ws(x:Str)(p pos:Pos)(hb:bi S sc x=true)(args:List Expr):RE S sc (.Call (.Name x p) args [] pos):=match args with
 | []=>gd (x == ("set":Str)) fun h=>.ok _ (WY S sc hb h)
 | [a]=>gd (noStar a) fun hs=>Wz S f sc x a p pos hb hs
 |_=>.no
noncomputable def Wv(x:Str)(args:List Expr)(p pos:Pos):RE S sc (.Call (.Name x p) args [] pos):=gd (glob sc x&&u9 x) fun h=>
 Gq (S.js x) (fun i e=>(qG S f sc args).go fun es he=>.ok (.call i es) (.pl rfl fun so=>cR h fun a b=>SE.call (bY a) (so.js x i e) (pz b).1 (he so)))
  (Gq (S.jr x) (fun i e=>(qG S f sc args).go fun es he=>.ok (.new i es) (.pl rfl fun so=>cR h fun a b=>SE.new (bY a) (so.jr x i e) (pz b).1 (he so)))
   (gd (bi S sc x) fun hb=>Ws S f sc x p pos hb args))
noncomputable def OB(args:List Expr):Bool:=args.length == 1
noncomputable def SY(nm:Str)(args:List Expr):Rs (fun m:Mt=>m.nm=nm):=
 ge (nm == Mt.nm .append) (fun h=>.ok .append (bY h).symm) (ge (nm == Mt.nm .pop) (fun h=>ge (OB args) (fun _=>.ok .fV (bY h).symm) (.ok .pop (bY h).symm)) (ge (nm == Mt.nm .insert) (fun h=>.ok .insert (bY h).symm)
  (ge (nm == Mt.nm .add) (fun h=>.ok .add (bY h).symm) (ge (nm == Mt.nm .discard) (fun h=>.ok .discard (bY h).symm) (gd (nm == Mt.nm .eP) fun h=>.ok .eP (bY h).symm)))))
structure wI(o:Expr)(apos pos:Pos)(args:List Expr):Prop where
 base:lH o=true
 line:(apos.endLine == pos.line)=true
 DS:args.length<25
theorem WQ{o:Expr}{io:IE}{nm:Str}{m:Mt}{args:List Expr}{es:c9}{q p:Pos}(e:m.nm=nm)(k:wI o q p args)(h:TE S sc o io)(he:∀{W:Wd} {n:Nat},dz S W→f3 W n sc es args):TE S sc (.Call (.Attribute o nm q) args [] p) (.bm m io es):=by
 subst e;exact .pl rfl fun so=>SE.bm (h.se so) k.base k.DS k.line (he so)
theorem WS{o:Expr}{io ib:IE}{nm:Str}{args:List Expr}{q p:Pos}{a:Expr}{r:Expr×Pos×Pos}(e:(nm == ("extend":Str))=true)(ea:args=[a])(c:qW S sc "reversed" a r)(k:wI o q p args)(h:TE S sc o io)(hb:TE S sc r.1 ib):TE S sc (.Call (.Attribute o nm q) args [] p) (.hZ io ib):=by
 rw[bY e,ea,c.eq];exact .pl rfl fun so=>SE.hZ (h.se so) k.base k.line (hb.se so) c.st (so.bi c.bi).1 (so.bi c.bi).2
noncomputable def Wu(o:Expr)(nm:Str)(q:Pos)(args:List Expr)(p:Pos):RE S sc (.Call (.Attribute o nm q) args [] p):=gd (lH o&&((q.endLine == p.line)&&decide (args.length<25))) fun h=>
 have k:wI o q p args:=cR h fun a b=>cR b fun b c=>⟨a,b,c6 c⟩
 (f sc o).go fun io ho=>ge (S.jU.contains nm) (fun hm=>(qG S f sc args).go fun es he=>.ok (.aV io (aS nm) es) (.pl rfl fun so=>SE.aV (ho.se so) k.base (so.jU _ (jj.mp hm)) k.DS k.line (he so)))
  (ge (nm == ("extend":Str)) (fun e=>(vE args).go fun a ea=>(t7 S sc "reversed" a).go fun r c=>(f sc r.1).go fun ib hb=>.ok (.hZ io ib) (WS S sc e ea c k ho hb))
   ((SY nm args).go fun m e=>(qG S f sc args).go fun es he=>.ok (.bm m io es) (WQ S sc e k ho he)))
noncomputable def W3(x:Str)(p:Pos):RE S sc (.Name x p):=gd (u9 x) fun h=>ge (isVar sc x) (fun hv=>gd (cH x) fun ho=>.ok (.var (aS x)) (.pl rfl fun _=>SE.var hv ho (pz h).2 (pz h).1))
 (gd (glob sc x) fun hg=>opt (S.jt x) fun i e=>.ok (.const (.int i)) (.pl rfl fun so=>SE.NJ (bY hg) (so.jt _ _ e) (pz h).1))
noncomputable def NA(g:Comprehension):Rs (fun r:Str×Pos×Expr=>g=⟨.Name r.1 r.2.1,r.2.2,[],0⟩):=(view g.target).pf.go fun m em=>(mM g.ifs).go fun _ ei=>gd (g.is_async == 0) fun h=>.ok (m.1,m.2,g.iter) (by
 cases g;dsimp only at em ei h ⊢;rw[em,ei,bY h])
structure TC(S:ee)(sc:Scope)(elt:Expr)(gs:List Comprehension)(scope:Scope)(p:Pos)(ie:IE):Prop where
 se:∀{W:Wd} {n:Nat},dz S W→SE W n sc ie (.ListComp elt gs scope p)
 asg:∀{W:Wd} {n:Nat} {y:Str} {py q:Pos},dz S W→sc.names.lookup y=some .local→cH y=true→qR y py p scope=true→SS W n sc (.asg (aS y) ie) (.Assign [.Name y py] (.ListComp elt gs scope p) q)
theorem WM{elt:Expr}{gs:List Comprehension}{scope:Scope}{p:Pos}{ie im:IE}{g:Comprehension}{r:Str×Pos×Expr}{c:Expr×Pos×Pos}(e1:gs=[g])(e2:g=⟨.Name r.1 r.2.1,r.2.2,[],0⟩)(hK:uF sc scope r.1=true)(he:TE S scope elt ie)(hc:qW S sc "range" r.2.2 c)(hm:TE S sc c.1 im):TC S sc elt gs scope p (.f7 ie (aS r.1) im):=by
 rw[e1,e2,hc.eq];exact⟨fun so=>SE.f7 (uG hK) (he.se so) (hm.se so) hc.st (so.bi hc.bi).1 (so.bi hc.bi).2,fun so hy ho hu=>SS.Jd (uG hK) (he.se so) (hm.se so) hc.st (so.bi hc.bi).1 (so.bi hc.bi).2 hy ho hu⟩
theorem WL{elt:Expr}{gs:List Comprehension}{scope:Scope}{p:Pos}{ie im:IE}{g:Comprehension}{r:Str×Pos×Expr}(e1:gs=[g])(e2:g=⟨.Name r.1 r.2.1,r.2.2,[],0⟩)(hK:uF sc scope r.1=true)(he:TE S scope elt ie)(hn:mR r.2.2=true)(hm:TE S sc r.2.2 im):TC S sc elt gs scope p (.comp ie (aS r.1) im):=by
 rw[e1,e2];exact⟨fun so=>SE.comp (uG hK) (he.se so) (hm.se so) hn,fun so hy ho hu=>SS.Jc (uG hK) (he.se so) (hm.se so) hn hy ho hu⟩
noncomputable def IL(elt:Expr)(gs:List Comprehension)(scope:Scope)(p:Pos):Rs (TC S sc elt gs scope p):=(vE gs).go fun g e1=>(NA g).go fun r e2=>gd (uF sc scope r.1) fun hK=>(f scope elt).go fun ie he=>
 (t7 S sc "range" r.2.2).or (fun c hc=>(f sc c.1).go fun im hm=>.ok (.f7 ie (aS r.1) im) (WM S sc e1 e2 hK he hc hm)) (gd (mR r.2.2) fun hn=>(f sc r.2.2).go fun im hm=>.ok (.comp ie (aS r.1) im) (WL S sc e1 e2 hK he hn hm))
noncomputable def Wo(fn:Expr)(args:List Expr)(p:Pos):RE S sc (.Call fn args [] p):=match view fn with
 | .name x q=>Wv S f sc x args q p
 | .attr o nm q=>Wu S f sc o nm q args p
 |_=>.no
noncomputable def W9(x:Expr):RE S sc x:=match view x with
 | .const c k p=>Wx S sc c k p
 | .name x p=>W3 S sc x p
 | .un op a p=>XC S f sc op a p
 | .bin a op b p=>(f sc a).go fun ia ha=>(f sc b).go fun ib hb=>.ok (.op (.bin op) (.two ia ib)) (.pl rfl fun so=>SE.bin (ha.se so) (hb.se so))
 | .Cb op xs p=>(Wn S f sc op xs).cast fun _ h=>⟨h.se,fun _=>h.st⟩
 | .cmp a ops bs p=>Ke S f sc a ops bs p
 | .ite c a b p=>gd (kI c) fun h=>(f sc c).go fun ic hc=>(f sc a).go fun ia ha=>(f sc b).go fun ib hb=>.ok (.ite ic ia ib) ⟨fun so=>SE.ite (hc.st h so) (ha.se so) (hb.se so),fun q=>(ax q).elim⟩
 | .tup es k p=>(qG S f sc es).go fun ies he=>.ok (.op .tup ies) (.pl rfl fun so=>SE.tup (he so))
 | .lst es p=>(qG S f sc es).go fun ies he=>.ok (.op .lst ies) (.pl rfl fun so=>SE.lst (he so))
 | .dict ks vs p=>(mM ks).go fun _ hk=>(mM vs).go fun _ hv=>.ok (.op .e5 .nil) (by rw[hk,hv];exact .pl rfl fun _=>SE.dict)
 | .sub a i p=>XB S f sc a i p
 | .attr a nm p=>gd (S.attrs.contains nm&&lH a) fun h=>(f sc a).go fun ia ha=>.ok (.op (.attr (aS nm)) (.one ia)) (.pl rfl fun so=>cR h fun h1 h2=>SE.attr (ha.se so) (so.attrs _ (jj.mp h1)) (G9 h2 nm))
 | .call fn args iE p=>(mM iE).go fun _ hk=>(Wo S f sc fn args p).cast fun _ h=>by rw[hk];exact h
 | .comp elt gs scope p=>(IL S f sc elt gs scope p).cast fun _ h=>.pl rfl h.se
 |_=>.no
end
noncomputable def Wy(S:ee)(k:Nat):∀sc x,RE S sc x:=Nat.rec (fun _ _=>.no) (fun _ f sc x=>W9 S f sc x) k
noncomputable abbrev RS(S:ee)(sc:Scope)(s:Stmt):Type:=Rs fun is:IS=>∀{W:Wd} {n:Nat},dz S W→SS W n sc is s
noncomputable abbrev RB(S:ee)(sc:Scope)(ss:List Stmt):Type:=Rs fun is:aK=>∀{W:Wd} {n:Nat},dz S W→ed W n sc is ss
inductive SV:Stmt→Type
 |ret (e:Option Expr) (p:Pos):SV (.Return e p)
 |asg (ts:List Expr) (e:Expr) (p:Pos):SV (.Assign ts e p)
 |aug (t:Expr) (op:Operator) (e:Expr) (p:Pos):SV (.AugAssign t op e p)
 |Di (t e:Expr) (b c:List Stmt) (p:Pos):SV (.For t e b c p)
 |da (t:Expr) (b c:List Stmt) (p:Pos):SV (.While t b c p)
 |ite (t:Expr) (b c:List Stmt) (p:Pos):SV (.If t b c p)
 |expr (e:Expr) (p:Pos):SV (.Expr e p)
 |pass (p:Pos):SV (.Pass p)
 |cont (p:Pos):SV (.Continue p)
 |no {s:Stmt}:SV s
noncomputable def Xc(s:Stmt):SV s:=by
 cases s with
 |Return e p=>exact .ret e p
 |Assign ts e p=>exact .asg ts e p
 |AugAssign t op e p=>exact .aug t op e p
 |For t e b c p=>exact .Di t e b c p
 |While t b c p=>exact .da t b c p
 |If t b c p=>exact .ite t b c p
 |Expr e p=>exact .expr e p
 |Pass p=>exact .pass p
 |Continue p=>exact .cont p
 |_=>exact .no
section
variable(S:ee)(f:∀sc x,RE S sc x)(sc:Scope)
theorem Sr{x:Expr}{xs:List Expr}{ns:List Nat}{m:Str×Pos}(e:x=.Name m.1 m.2)(h:(dt sc m.1&&cH m.1)=true)(hn:gF sc ns xs):gF sc (aS m.1::ns) (x::xs):=by
 rw[e];exact cR h fun a b=>.cons a b hn
noncomputable def W4(xs:List Expr):Rs (fun ns=>gF sc ns xs):=List.rec (motive:=fun xs=>Rs (fun ns=>gF sc ns xs)) (.ok [] .nil)
 (fun x xs ih=>(view x).pf.go fun m e=>gd (dt sc m.1&&cH m.1) fun h=>ih.go fun ns hn=>.ok (aS m.1::ns) (Sr sc e h hn)) xs
noncomputable def IU{α:Type}(l:List α):Rs (fun r:α×α=>l=[r.1,r.2]):=by
 cases l with
 |nil=>exact .no
 |cons a r=>cases r with
  |nil=>exact .no
  |cons b r=>cases r with
   |nil=>exact .ok (a,b) rfl
   |cons=>exact .no
noncomputable def Wj(x:Str)(px:Pos)(e:Expr)(p:Pos):RS S sc (.Assign [.Name x px] e p):=gd (cH x) fun ho=>(view e).f7.or
 (fun r ec=>gd ((sc.names.lookup x == some .local)&&qR x px r.2.2.2 r.2.2.1) fun h=>(IL S f sc r.1 r.2.1 r.2.2.1 r.2.2.2).go fun ie hc=>.ok (.asg (aS x) ie) fun so=>by rw[ec];exact cR h fun a b=>hc.asg so (bY a) ho b)
 (gd (dt sc x&&jW e) fun h=>(f sc e).go fun ie he=>.ok (.asg (aS x) ie) fun so=>cR h fun a b=>SS.asg (he.se so) a ho b)
structure Pr(es:List Expr)(e:Expr)(x y:Str)(px py:Pos)(a b:Expr)(k:Nat)(q:Pos):Prop where
 es:es=[.Name x px,.Name y py]
 e:e=.Tuple [a,b] k q
theorem Vp{es:List Expr}{e:Expr}{x y:Str}{px py:Pos}{a b:Expr}{k kk:Nat}{q q' p:Pos}{ia ib:IE}(h:Pr es e x y px py a b k q)(h1:(dt sc x&&cH x)=true)(h2:(dt sc y&&cH y)=true)(hs:sd sc x y px py a b=true)(ha:TE S sc a ia)(hb:TE S sc b ib){W:Wd}{n:Nat}(so:dz S W):
  SS W n sc (.swap (aS x) (aS y) ia ib) (.Assign [.Tuple es kk q'] e p):=by
 rw[h.es,h.e];have hs':=hs;unfold sd at hs';obtain⟨a1,a2⟩:=gS.mp h1;obtain⟨b1,b2⟩:=gS.mp h2;obtain⟨c,c2⟩:=gS.mp (gS.mp (gS.mp hs').1).1;have c1:=(gS.mp c).2;intro F H Q env A s μ R;exact SS.swap (ha.se so) (hb.se so) c1 c2 a1 b1 a2 b2 fun env eo=>V8 hs eo
theorem Vm{es:List Expr}{e:Expr}{x y:Str}{px py:Pos}{a b:Expr}{k kk:Nat}{q q' p:Pos}{ie:IE}(h:Pr es e x y px py a b k q)(h1:(dt sc x&&cH x)=true)(h2:(dt sc y&&cH y)=true)(hs:t9 sc x y a b=true)(he:TE S sc e ie){W:Wd}{n:Nat}(so:dz S W):
  SS W n sc (.fR [aS x,aS y] ie) (.Assign [.Tuple es kk q'] e p):=by
 have he:SE W n sc ie e:=he.se so;rw[h.e] at he ⊢;rw[h.es];obtain⟨a1,a2⟩:=gS.mp h1;obtain⟨b1,b2⟩:=gS.mp h2;intro F H Q env A s μ R;exact SS.fR he (.cons a1 a2 (.cons b1 b2 .nil)) rfl fun env eo=>KP hs eo
noncomputable def Wl(es:List Expr)(k:Nat)(q:Pos)(e:Expr)(p:Pos):RS S sc (.Assign [.Tuple es k q] e p):=(view e).XD.or
 (fun t et=>(IU t.1).go fun ab eab=>(IU es).go fun xy exy=>(view xy.1).pf.go fun x ex=>(view xy.2).pf.go fun y ey=>gd (dt sc x.1&&cH x.1) fun h1=>gd (dt sc y.1&&cH y.1) fun h2=>
  have h:Pr es e x.1 y.1 x.2 y.2 ab.1 ab.2 t.2.1 t.2.2:=⟨by rw[exy,ex,ey],by rw[et,eab]⟩
  ge (sd sc x.1 y.1 x.2 y.2 ab.1 ab.2) (fun hs=>(f sc ab.1).go fun ia ha=>(f sc ab.2).go fun ib hb=>.ok (.swap (aS x.1) (aS y.1) ia ib) (Vp S sc h h1 h2 hs ha hb))
   (gd (t9 sc x.1 y.1 ab.1 ab.2) fun hs=>(f sc e).go fun ie he=>.ok (.fR [aS x.1,aS y.1] ie) (Vm S sc h h1 h2 hs he)))
 (gd (notTuple e&&jW e) fun h=>(W4 sc es).go fun ns hn=>(f sc e).go fun ie he=>.ok (.fR ns ie) fun so=>cR h fun a b=>SS.fR (he.se so) hn b fun env eo=>Vw a)
noncomputable def Wi(t e:Expr)(p:Pos):RS S sc (.Assign [t] e p):=match view t with
 | .name x px=>Wj S f sc x px e p
 | .tup es k q=>Wl S f sc es k q e p
 | .sub a i q=>gd (jW e) fun h=>(f sc e).go fun ie he=>(f sc a).go fun ia ha=>(f sc i).go fun ii hi=>.ok (.bw ia ii ie) fun so=>SS.bw (he.se so) (ha.se so) (hi.se so) h
 | .attr o nm q=>gd (jW e&&S.attrs.contains nm) fun h=>(f sc e).go fun ie he=>(f sc o).go fun io ho=>.ok (.setAttr io (aS nm) ie) fun so=>cR h fun a b=>SS.setAttr (he.se so) (ho.se so) (so.attrs _ (jj.mp b)) a
 |_=>.no
noncomputable def Wm(t:Expr)(op:Operator)(e:Expr)(p:Pos):RS S sc (.AugAssign t op e p):=match view t with
 | .name x q=>gd (dt sc x&&(cH x&&u9 x)) fun h=>(f sc e).go fun ie he=>.ok (.aug (aS x) op ie) fun so=>cR h fun a b=>cR b fun b c=>SS.aug (he.se so) a b (pz c).2
 | .attr a nm q=>gd (S.attrs.contains nm) fun h=>(f sc a).go fun ia ha=>(f sc e).go fun ie he=>.ok (.jo ia (aS nm) op ie) fun so=>SS.jo (ha.se so) (he.se so) (so.attrs _ (jj.mp h))
 |_=>.no
noncomputable def qF(g:∀s,RS S sc s)(ss:List Stmt):RB S sc ss:=List.rec (motive:=fun ss=>RB S sc ss) (.ok .nil fun _=>ed.nil) (fun s ss ih=>(g s).go fun is hs=>ih.go fun iss hss=>.ok (.cons is iss) fun so=>ed.cons (hs so) (hss so)) ss
theorem Vo{t e:Expr}{b c:List Stmt}{p:Pos}{m:Str×Pos}{r:Expr×Pos×Pos}{ie:IE}{ib:aK}(et:t=.Name m.1 m.2)(ec:c=[])(h:(dt sc m.1&&cH m.1)=true)(hr:qW S sc "range" e r)(he:TE S sc r.1 ie)(hb:∀{W:Wd} {n:Nat},dz S W→ed W n sc ib b){W:Wd}{n:Nat}(so:dz S W):SS W n sc (.forR (aS m.1) ie ib) (.For t e b c p):=by
 rw[et,ec,hr.eq];obtain⟨a1,a2⟩:=gS.mp h;exact SS.forR (he.se so) hr.st (so.bi hr.bi).1 (so.bi hr.bi).2 a1 a2 (hb so)
theorem Vn{t e:Expr}{b c:List Stmt}{p:Pos}{m:Str×Pos}{ie:IE}{ib:aK}(et:t=.Name m.1 m.2)(ec:c=[])(h:(dt sc m.1&&cH m.1)=true)(hn:mR e=true)(he:TE S sc e ie)(hb:∀{W:Wd} {n:Nat},dz S W→ed W n sc ib b){W:Wd}{n:Nat}(so:dz S W):SS W n sc (.forIn (aS m.1) ie ib) (.For t e b c p):=by
 rw[et,ec];obtain⟨a1,a2⟩:=gS.mp h;exact SS.forIn (he.se so) a1 a2 hn (hb so)
noncomputable def W2(g:∀s,RS S sc s)(t e:Expr)(b c:List Stmt)(p:Pos):RS S sc (.For t e b c p):=(mM c).go fun _ ec=>(view t).pf.go fun m et=>gd (dt sc m.1&&cH m.1) fun h=>
 (t7 S sc "range" e).or (fun r hr=>(f sc r.1).go fun ie he=>(qF S sc g b).go fun ib hb=>.ok (.forR (aS m.1) ie ib) (Vo S sc et ec h hr he hb))
  (gd (mR e) fun hn=>(f sc e).go fun ie he=>(qF S sc g b).go fun ib hb=>.ok (.forIn (aS m.1) ie ib) (Vn S sc et ec h hn he hb))
noncomputable def W5(e:Option Expr)(p:Pos):RS S sc (.Return e p):=match e with
 |some e=>(f sc e).go fun ie he=>.ok (.ret ie) fun so=>SS.ret (he.se so)
 |none=>.ok (.ret (.const .none)) fun _=>SS.U8
noncomputable def W7(g:∀s,RS S sc s)(s:Stmt):RS S sc s:=match Xc s with
 | .ret e p=>W5 S f sc e p
 | .asg ts e p=>(vE ts).go fun t et=>(Wi S f sc t e p).cast fun _ h=>by rw[et];exact h
 | .aug t op e p=>Wm S f sc t op e p
 | .Di t e b c p=>W2 S f sc g t e b c p
 | .da t b c p=>gd (kI t) fun h=>(mM c).go fun _ ec=>(f sc t).go fun it ht=>(qF S sc g b).go fun ib hb=>.ok (.da it ib) fun so=>by rw[ec];exact SS.da (ht.st h so) (hb so)
 | .ite t b c p=>gd (kI t) fun h=>(f sc t).go fun it ht=>(qF S sc g b).go fun ib hb=>(qF S sc g c).go fun ic hc=>.ok (.ite it ib ic) fun so=>SS.ite (ht.st h so) (hb so) (hc so)
 | .expr e p=>gd (jW e) fun h=>(f sc e).go fun ie he=>.ok (.expr ie) fun so=>SS.expr (he.se so) h
 | .pass p=>.ok .pass fun _=>SS.pass
 | .cont p=>.ok .cont fun _=>SS.cont
 | .no=>.no
end
noncomputable def W6(S:ee)(k:Nat)(sc:Scope)(j:Nat):∀s,RS S sc s:=Nat.rec (fun _=>.no) (fun _ g s=>W7 S (Wy S k) sc g s) j
set_option genSizeOf true
set_option genInjectivity true
noncomputable abbrev pg:Program:=PySem.Challenge.pw_no0186_01
noncomputable def Lp(p:Program):List (Str×Str×Arguments×List Stmt×Scope):=p.main.body.flatMap fun s=>match s with
 | .FunctionDef nm args body _ _ _ sc _ _ _=>[(nm,nm,args,body,sc)]
 | .ClassDef cn _ _ body _ _ _ _ _ _ _=>body.flatMap fun s=>match s with
  | .FunctionDef nm args body _ _ _ sc _ _ _=>[(nm,cn++(".":Str)++nm,args,body,sc)]
  |_=>[]
 |_=>[]
noncomputable def fnAt(k:Nat):Str×Str×Arguments×List Stmt×Scope:=((Lp pg)[k]?).getD (⟨#[]⟩,⟨#[]⟩,⟨[],[],none,[],[],none,[]⟩,[],⟨.function,[],false,false,[]⟩)
noncomputable section
noncomputable def A{α:Type}(l:List α):Array α:=l.toArray
noncomputable def z:Value:=.none
noncomputable def s(x:Str)(t:Nat):Value:=.str x t
noncomputable def sf(t:Nat):Value:=.str "/claim/cut.py" t
noncomputable def i(n:Int):Value:=.int n 0
noncomputable def r(a:Nat):Value:=.ref a
noncomputable def tp(l:List Value):Obj:=⟨.type "tuple",none,.seq (A l) 0,A []⟩
noncomputable def fl(l:List Value):Obj:=⟨.none,none,.fields (A l),A []⟩
noncomputable def di(l:List DictEntry)(n:Nat):Obj:=⟨.type "dict",none,.dict (A l) n,A []⟩
noncomputable def co(l:List Value):Obj:=⟨.type "code",none,.fields (A l),A []⟩
noncomputable def cd(nm qn:Str)(t l ac fg x u:Nat):Obj:=co [s nm t,s qn (t+1),sf (t+2),i l,i ac,i 0,i 0,i fg,r x,.bool true,i 181,r (x+1),z,r (x+2),r (x+3),r (x+4),i u,i l,sf (u+1)]
noncomputable def Dd(k:Nat)(g:Nat)(pm c:Value):Data:=.func ⟨(fnAt k).1,(fnAt k).2.1,(fnAt k).2.2.1,.stmts (fnAt k).2.2.2.1,(fnAt k).2.2.2.2,g,[],.none,.none,.none,pm,none,c,.none,0⟩
noncomputable def fr(k:Nat):Obj:=⟨.none,none,Dd k 0 .none .none,A []⟩
noncomputable def fo(k:Nat)(pm c:Value):Obj:=⟨.type "function",none,Dd k 3 pm c,A []⟩
noncomputable def TM(l:List Str):Nat→List Value:=List.rec (motive:=fun _=>Nat→List Value) (fun _=>[]) (fun n _ ih t=>s n t::ih (t+1)) l
noncomputable def bU:Str:="clausemill.abstract"
noncomputable def dv:Str:="clausemill.classify"
noncomputable def eW:Str:="law_no0186_01"
noncomputable def modS:Str:="clausemill.symbols"
noncomputable def az(k:Nat)(nm qn:Str)(t l ac fg x:Nat)(ns:List Str)(m:Str)(mt:Nat):List Obj:=[tp [],fl [],tp (TM ns (t+3)),tp [],fr k,cd nm qn t l ac fg x (t+3+ns.length),fo k (s m mt) (r (x+5))]
noncomputable def ent(P:Params)(x:Str)(t:Nat)(v:Value):DictEntry:=⟨PyData.keyHash P x,.str x t,v⟩
noncomputable def alt{α:Type}:List α→List α
 | []=>[]
 | [x]=>[x]
 |x::_::l=>x::alt l
noncomputable def tree:Nat→List Obj→BT
 |0,_=>.nil
 |n+1,l=>match l with
  | []=>.nil
  |x::l=>.node x (tree n (alt l)) (tree n (alt (l.drop 1)))
noncomputable def l0(l:List Obj)(P:Params):List Obj:=
 let e:=ent P
 l++[
tp [],
fl [],
co [s "<module>" 182,s "<module>" 183,sf 184,i 1,i 0,i 0,i 0,i 0,r 11,.bool false,i 181,r 12,z,z,z,z,i 185,i 1,sf 186],
⟨.type "frame",none,.plain,A [(some (r 13)),(some (r 3)),(some (r 3)),none,(some (s "__main__" 164)),none,(some (r 0))]⟩]
noncomputable def l1(l:List Obj)(P:Params):List Obj:=
 let e:=ent P
 let l:=l.set 3 (di [e "__name__" 165 (s bU 366),e "__doc__" 166 z,e "__package__" 167 z,e "__loader__" 168 (.builtin "__main__.__loader__#opaque"),e "__spec__" 169 z,e "__annotations__" 170 (r 6),e "__builtins__" 171 (r 4),e "__file__" 173 (sf 172),e "__cached__" 174 z,e "_wall" 193 (r 21),e "A_NIL" 197 (.int (0) 196),e "F_DOT" 199 (.int (0) 198),e "fixed_atoms" 205 (r 28),e "fixed_functors" 211 (r 35),e "Symbols" 331 (r 122),e "variables" 340 (r 133),e "variables_of" 351 (r 140),e "occurrences" 361 (r 147),e "CON" 363 (.int (4) 362),e "INT" 365 (.int (5) 364),e "constant_cell" 374 (r 154),e "CodeState" 450 (r 206)] 22)
 let l:=l.set 12 (fl [i 1,i 0,r 20,i 7,i 0,r 27,i 9,i 0,r 34,i 11,i 0,r 41,i 69,i 0,r 132,i 71,i 0,r 139,i 84,i 0,r 146,i 97,i 0,r 153,i 101,i 0,r 160])
 l++az 0 "_wall" "_wall" 187 1 1 3 15 ["k"] "__main__" 164++az 1 "fixed_atoms" "fixed_atoms" 200 7 0 3 22 [] modS 194++az 2 "fixed_functors" "fixed_functors" 206 9 0 3 29 [] modS 194++[
tp [],
⟨.type "builtin_function_or_method",none,(.fields (A [.builtin "type.__prepare__",.type "type"])),A []⟩,
di [e "__module__" 219 (s modS 194),e "__qualname__" 221 (s "Symbols" 220),e "__firstlineno__" 223 (.int (11) 222),e "__init__" 232 (r 49),e "atom" 242 (r 56),e "text" 250 (r 63),e "functor" 262 (r 70),e "func" 271 (r 77),e "name" 279 (r 84),e "arity" 287 (r 91),e "label" 295 (r 98),e "count" 302 (r 105),e "functor_count" 309 (r 112),e "known" 319 (r 119),e "__static_attributes__" 324 (r 120)] 15,
tp [],
fl [i 13,i 4,r 48,i 23,i 4,r 55,i 32,i 4,r 62,i 35,i 4,r 69,i 45,i 4,r 76,i 48,i 4,r 83,i 51,i 4,r 90,i 54,i 4,r 97,i 57,i 4,r 104,i 60,i 4,r 111,i 63,i 4,r 118],
co [s "Symbols" 214,s "Symbols" 215,sf 216,i 11,i 0,i 0,i 0,i 0,r 39,.bool false,i 181,r 40,z,z,z,z,i 217,i 11,sf 218],
⟨.type "frame",none,.plain,A [(some (r 41)),(some (r 3)),(some (r 38)),none,(some (s modS 194)),none,(some (r 0))]⟩]++az 3 "__init__" "Symbols.__init__" 224 13 1 3 43 ["self","text","row"] modS 194++az 4 "atom" "Symbols.atom" 233 23 2 3 50 ["self","text","found","number"] modS 194++az 5 "text" "Symbols.text" 243 32 2 3 57 ["self","number"] modS 194++az 6 "functor" "Symbols.functor" 251 35 3 3 64 ["self","atom","arity","key","found","number"] modS 194++az 7 "func" "Symbols.func" 263 45 3 3 71 ["self","text","arity"] modS 194++az 8 "name" "Symbols.name" 272 48 2 3 78 ["self","functor"] modS 194++az 9 "arity" "Symbols.arity" 280 51 2 3 85 ["self","functor"] modS 194++az 10 "label" "Symbols.label" 288 54 2 3 92 ["self","functor"] modS 194++az 11 "count" "Symbols.count" 296 57 1 3 99 ["self"] modS 194++az 12 "functor_count" "Symbols.functor_count" 303 60 1 3 106 ["self"] modS 194++az 13 "known" "Symbols.known" 310 63 3 3 113 ["self","text","arity","atom"] modS 194++[
tp [s "atom_numbers" 320,s "functor_numbers" 321,s "functors" 322,s "texts" 323],
di [e "__module__" 219 (s modS 194),e "__firstlineno__" 223 (.int (11) 222),e "__init__" 232 (r 49),e "atom" 242 (r 56),e "text" 250 (r 63),e "functor" 262 (r 70),e "func" 271 (r 77),e "name" 279 (r 84),e "arity" 287 (r 91),e "label" 295 (r 98),e "count" 302 (r 105),e "functor_count" 309 (r 112),e "known" 319 (r 119),e "__static_attributes__" 324 (r 120),e "__dict__" 326 (r 123),e "__weakref__" 328 (r 124),e "__doc__" 329 z] 4,
⟨.type "type",none,(.cls ⟨"Symbols",[.type "object"],[r 122,.type "object"],121,"Symbols",true,[],[],false,none,false⟩),A [none,none,(some (s "Symbols" 212)),(some (s "Symbols" 220)),(some (.builtin "object.__new__")),(some (.bool true))]⟩,
⟨.type "getset_descriptor",none,(.fields (A [s "__dict__" 325,r 122,.builtin "function.__dict__",.builtin "function.__dict__#set"])),A []⟩,
⟨.type "getset_descriptor",none,(.fields (A [s "__weakref__" 327,r 122,.builtin "ExceptionGroup.__weakref__",z])),A []⟩,
⟨.type "super",none,(.fields (A [r 122,r 122,r 122])),A []⟩,
⟨.type "builtin_function_or_method",none,(.fields (A [.builtin "object.__init_subclass__",r 122])),A []⟩]++az 14 "variables" "variables" 334 69 1 3 127 ["term"] "clausemill.terms" 332++az 15 "variables_of" "variables_of" 341 71 1 3 134 ["terms","seen","result","todo","term"] "clausemill.terms" 332++az 16 "occurrences" "occurrences" 352 84 1 3 141 ["term","counts","todo","part"] "clausemill.terms" 332++az 17 "constant_cell" "constant_cell" 368 97 1 3 148 ["term"] bU 366++[
tp [],
⟨.type "builtin_function_or_method",none,(.fields (A [.builtin "type.__prepare__",.type "type"])),A []⟩,
di [e "__module__" 382 (s bU 366),e "__qualname__" 384 (s "CodeState" 383),e "__firstlineno__" 386 (.int (101) 385),e "__init__" 395 (r 168),e "emit" 403 (r 175),e "new_temporary" 411 (r 182),e "is_void" 419 (r 189),e "is_permanent" 427 (r 196),e "place" 436 (r 203),e "__static_attributes__" 443 (r 204)] 10,
tp [],
fl [i 103,i 4,r 167,i 111,i 4,r 174,i 114,i 4,r 181,i 119,i 4,r 188,i 122,i 4,r 195,i 125,i 4,r 202],
co [s "CodeState" 377,s "CodeState" 378,sf 379,i 101,i 0,i 0,i 0,i 0,r 158,.bool false,i 181,r 159,z,z,z,z,i 380,i 101,sf 381],
⟨.type "frame",none,.plain,A [(some (r 160)),(some (r 3)),(some (r 157)),none,(some (s bU 366)),none,(some (r 0))]⟩]++az 18 "__init__" "CodeState.__init__" 387 103 3 3 162 ["self","kernel","plan"] bU 366++az 19 "emit" "CodeState.emit" 396 111 2 3 169 ["self","instruction"] bU 366++az 20 "new_temporary" "CodeState.new_temporary" 404 114 1 3 176 ["self","number"] bU 366++az 21 "is_void" "CodeState.is_void" 412 119 2 3 183 ["self","k"] bU 366++az 22 "is_permanent" "CodeState.is_permanent" 420 122 2 3 190 ["self","k"] bU 366++az 23 "place" "CodeState.place" 428 125 2 3 197 ["self","k","info"] bU 366++[
tp [s "code" 437,s "kernel" 438,s "local" 439,s "next_temporary" 440,s "plan" 441,s "seen" 442],
di [e "__module__" 382 (s bU 366),e "__firstlineno__" 386 (.int (101) 385),e "__init__" 395 (r 168),e "emit" 403 (r 175),e "new_temporary" 411 (r 182),e "is_void" 419 (r 189),e "is_permanent" 427 (r 196),e "place" 436 (r 203),e "__static_attributes__" 443 (r 204),e "__dict__" 445 (r 207),e "__weakref__" 447 (r 208),e "__doc__" 448 z] 4,
⟨.type "type",none,(.cls ⟨"CodeState",[.type "object"],[r 206,.type "object"],205,"CodeState",true,[],[],false,none,false⟩),A [none,none,(some (s "CodeState" 375)),(some (s "CodeState" 383)),(some (.builtin "object.__new__")),(some (.bool true))]⟩,
⟨.type "getset_descriptor",none,(.fields (A [s "__dict__" 444,r 206,.builtin "function.__dict__",.builtin "function.__dict__#set"])),A []⟩,
⟨.type "getset_descriptor",none,(.fields (A [s "__weakref__" 446,r 206,.builtin "ExceptionGroup.__weakref__",z])),A []⟩,
⟨.type "super",none,(.fields (A [r 206,r 206,r 206])),A []⟩,
⟨.type "builtin_function_or_method",none,(.fields (A [.builtin "object.__init_subclass__",r 206])),A []⟩]
noncomputable def l2(l:List Obj)(P:Params):List Obj:=
 let e:=ent P
 let l:=l.set 3 (di [e "__name__" 165 (s bU 366),e "__doc__" 166 z,e "__package__" 167 z,e "__loader__" 168 (.builtin "__main__.__loader__#opaque"),e "__spec__" 169 z,e "__annotations__" 170 (r 6),e "__builtins__" 171 (r 4),e "__file__" 173 (sf 172),e "__cached__" 174 z,e "_wall" 193 (r 21),e "A_NIL" 197 (.int (0) 196),e "F_DOT" 199 (.int (0) 198),e "fixed_atoms" 205 (r 28),e "fixed_functors" 211 (r 35),e "Symbols" 331 (r 122),e "variables" 340 (r 133),e "variables_of" 351 (r 140),e "occurrences" 361 (r 147),e "CON" 363 (.int (4) 362),e "INT" 365 (.int (5) 364),e "constant_cell" 374 (r 154),e "CodeState" 450 (r 206),e "Matcher" 509 (r 248),e "Builder" 572 (r 288),e "InPlace" 674 (r 363)] 25)
 let l:=l.set 12 (fl [i 1,i 0,r 20,i 7,i 0,r 27,i 9,i 0,r 34,i 11,i 0,r 41,i 69,i 0,r 132,i 71,i 0,r 139,i 84,i 0,r 146,i 97,i 0,r 153,i 101,i 0,r 160,i 130,i 0,r 216,i 188,i 0,r 256,i 256,i 0,r 296])
 let l:=l.set 206 (⟨.type "type",none,(.cls ⟨"CodeState",[.type "object"],[r 206,.type "object"],205,"CodeState",true,[],[r 248],false,none,false⟩),A [none,none,(some (s "CodeState" 375)),(some (s "CodeState" 383)),(some (.builtin "object.__new__")),(some (.bool true))]⟩)
 l++[
tp [r 206],
⟨.type "builtin_function_or_method",none,(.fields (A [.builtin "type.__prepare__",.type "type"])),A []⟩,
di [e "__module__" 458 (s bU 366),e "__qualname__" 460 (s "Matcher" 459),e "__firstlineno__" 462 (.int (130) 461),e "head_argument" 472 (r 224),e "match" 485 (r 231),e "match_arguments" 497 (r 238),e "match_variable" 505 (r 245),e "__static_attributes__" 506 (r 246)] 8,
tp [],
fl [i 132,i 4,r 223,i 148,i 4,r 230,i 160,i 4,r 237,i 180,i 4,r 244],
co [s "Matcher" 453,s "Matcher" 454,sf 455,i 130,i 0,i 0,i 0,i 0,r 214,.bool false,i 181,r 215,z,z,z,z,i 456,i 130,sf 457],
⟨.type "frame",none,.plain,A [(some (r 216)),(some (r 3)),(some (r 213)),none,(some (s bU 366)),none,(some (r 0))]⟩]++az 24 "head_argument" "Matcher.head_argument" 463 132 3 3 218 ["self","term","source","k"] bU 366++az 25 "match" "Matcher.match" 473 148 3 3 225 ["self","term","source","waiting","at","node","register"] bU 366++az 26 "match_arguments" "Matcher.match_arguments" 486 160 3 3 232 ["self","args","waiting","voids","arg","temporary"] bU 366++az 27 "match_variable" "Matcher.match_variable" 498 180 2 3 239 ["self","k"] bU 366++[
tp [],
di [e "__module__" 458 (s bU 366),e "__firstlineno__" 462 (.int (130) 461),e "head_argument" 472 (r 224),e "match" 485 (r 231),e "match_arguments" 497 (r 238),e "match_variable" 505 (r 245),e "__static_attributes__" 506 (r 246),e "__doc__" 507 z] 2,
⟨.type "type",none,(.cls ⟨"Matcher",[r 206],[r 248,r 206,.type "object"],247,"Matcher",true,[],[r 288],false,none,false⟩),A [(some (r 211)),none,(some (s "Matcher" 451)),(some (s "Matcher" 459)),(some (.builtin "object.__new__")),(some (.bool true))]⟩,
⟨.type "super",none,(.fields (A [r 248,r 248,r 248])),A []⟩,
⟨.type "builtin_function_or_method",none,(.fields (A [.builtin "object.__init_subclass__",r 248])),A []⟩,
tp [r 248],
⟨.type "builtin_function_or_method",none,(.fields (A [.builtin "type.__prepare__",.type "type"])),A []⟩,
di [e "__module__" 517 (s bU 366),e "__qualname__" 519 (s "Builder" 518),e "__firstlineno__" 521 (.int (188) 520),e "build" 536 (r 264),e "build_pieces" 550 (r 271),e "set_arguments" 560 (r 278),e "set_variable" 568 (r 285),e "__static_attributes__" 569 (r 286)] 8,
tp [],
fl [i 190,i 4,r 263,i 211,i 4,r 270,i 228,i 4,r 277,i 246,i 4,r 284],
co [s "Builder" 512,s "Builder" 513,sf 514,i 188,i 0,i 0,i 0,i 0,r 254,.bool false,i 181,r 255,z,z,z,z,i 515,i 188,sf 516],
⟨.type "frame",none,.plain,A [(some (r 256)),(some (r 3)),(some (r 253)),none,(some (s bU 366)),none,(some (r 0))]⟩]++az 28 "build" "Builder.build" 522 190 3 3 258 ["self","term","target","chain","below","at","node","pieces","register"] bU 366++az 29 "build_pieces" "Builder.build_pieces" 537 211 3 3 265 ["self","args","below","pieces","last","at","arg","temporary"] bU 366++az 30 "set_arguments" "Builder.set_arguments" 551 228 2 3 272 ["self","pieces","voids","piece"] bU 366++az 31 "set_variable" "Builder.set_variable" 561 246 2 3 279 ["self","k"] bU 366++[
tp [],
di [e "__module__" 517 (s bU 366),e "__firstlineno__" 521 (.int (188) 520),e "build" 536 (r 264),e "build_pieces" 550 (r 271),e "set_arguments" 560 (r 278),e "set_variable" 568 (r 285),e "__static_attributes__" 569 (r 286),e "__doc__" 570 z] 2,
⟨.type "type",none,(.cls ⟨"Builder",[r 248],[r 288,r 248,r 206,.type "object"],287,"Builder",true,[],[r 363],false,none,false⟩),A [(some (r 251)),none,(some (s "Builder" 510)),(some (s "Builder" 518)),(some (.builtin "object.__new__")),(some (.bool true))]⟩,
⟨.type "super",none,(.fields (A [r 288,r 288,r 288])),A []⟩,
⟨.type "builtin_function_or_method",none,(.fields (A [.builtin "object.__init_subclass__",r 288])),A []⟩,
tp [r 288],
⟨.type "builtin_function_or_method",none,(.fields (A [.builtin "type.__prepare__",.type "type"])),A []⟩,
di [e "__module__" 580 (s bU 366),e "__qualname__" 582 (s "InPlace" 581),e "__firstlineno__" 584 (.int (256) 583),e "unify_goal" 597 (r 304),e "unify_with_variable" 607 (r 311),e "unify_variables" 616 (r 318),e "introduce" 625 (r 325),e "alias" 635 (r 332),e "fresh_register" 643 (r 339),e "settle" 652 (r 346),e "register_of" 661 (r 353),e "load_slot" 670 (r 360),e "__static_attributes__" 671 (r 361)] 13,
tp [],
fl [i 258,i 4,r 303,i 274,i 4,r 310,i 297,i 4,r 317,i 317,i 4,r 324,i 324,i 4,r 331,i 340,i 4,r 338,i 345,i 4,r 345,i 350,i 4,r 352,i 357,i 4,r 359],
co [s "InPlace" 575,s "InPlace" 576,sf 577,i 256,i 0,i 0,i 0,i 0,r 294,.bool false,i 181,r 295,z,z,z,z,i 578,i 256,sf 579],
⟨.type "frame",none,.plain,A [(some (r 296)),(some (r 3)),(some (r 293)),none,(some (s bU 366)),none,(some (r 0))]⟩]++az 32 "unify_goal" "InPlace.unify_goal" 585 258 3 3 298 ["self","left","right","pairs","one","other","at"] bU 366++az 33 "unify_with_variable" "InPlace.unify_with_variable" 598 274 3 3 305 ["self","k","term","register"] bU 366++az 34 "unify_variables" "InPlace.unify_variables" 608 297 3 3 312 ["self","j","k"] bU 366++az 35 "introduce" "InPlace.introduce" 617 317 2 3 319 ["self","k","register"] bU 366++az 36 "alias" "InPlace.alias" 626 324 3 3 326 ["self","k","old","register"] bU 366++az 37 "fresh_register" "InPlace.fresh_register" 636 340 2 3 333 ["self","k"] bU 366++az 38 "settle" "InPlace.settle" 644 345 3 3 340 ["self","k","register"] bU 366++az 39 "register_of" "InPlace.register_of" 653 350 2 3 347 ["self","k","register"] bU 366++az 40 "load_slot" "InPlace.load_slot" 662 357 3 3 354 ["self","k","register"] bU 366++[
tp [],
di [e "__module__" 580 (s bU 366),e "__firstlineno__" 584 (.int (256) 583),e "unify_goal" 597 (r 304),e "unify_with_variable" 607 (r 311),e "unify_variables" 616 (r 318),e "introduce" 625 (r 325),e "alias" 635 (r 332),e "fresh_register" 643 (r 339),e "settle" 652 (r 346),e "register_of" 661 (r 353),e "load_slot" 670 (r 360),e "__static_attributes__" 671 (r 361),e "__doc__" 672 z] 2,
⟨.type "type",none,(.cls ⟨"InPlace",[r 288],[r 363,r 288,r 248,r 206,.type "object"],362,"InPlace",true,[],[],false,none,false⟩),A [(some (r 291)),none,(some (s "InPlace" 573)),(some (s "InPlace" 581)),(some (.builtin "object.__new__")),(some (.bool true))]⟩,
⟨.type "super",none,(.fields (A [r 363,r 363,r 363])),A []⟩,
⟨.type "builtin_function_or_method",none,(.fields (A [.builtin "object.__init_subclass__",r 363])),A []⟩]
noncomputable def l3(l:List Obj)(P:Params):List Obj:=
 let e:=ent P
 let l:=l.set 3 (di [e "__name__" 165 (s dv 807),e "__doc__" 166 z,e "__package__" 167 z,e "__loader__" 168 (.builtin "__main__.__loader__#opaque"),e "__spec__" 169 z,e "__annotations__" 170 (r 6),e "__builtins__" 171 (r 4),e "__file__" 173 (sf 172),e "__cached__" 174 z,e "_wall" 193 (r 21),e "A_NIL" 197 (.int (0) 196),e "F_DOT" 199 (.int (0) 198),e "fixed_atoms" 205 (r 28),e "fixed_functors" 211 (r 35),e "Symbols" 331 (r 122),e "variables" 340 (r 133),e "variables_of" 351 (r 140),e "occurrences" 361 (r 147),e "CON" 363 (.int (4) 362),e "INT" 365 (.int (5) 364),e "constant_cell" 374 (r 154),e "CodeState" 450 (r 206),e "Matcher" 509 (r 248),e "Builder" 572 (r 288),e "InPlace" 674 (r 363),e "CodeMaker" 745 (r 410),e "abstract_code" 754 (r 419),e "KernelClause" 791 (r 436),e "goal_terms" 799 (r 447),e "goal_special" 806 (r 454),e "VarInfo" 846 (r 471),e "ClausePlan" 922 (r 527)] 32)
 let l:=l.set 12 (fl [i 1,i 0,r 20,i 7,i 0,r 27,i 9,i 0,r 34,i 11,i 0,r 41,i 69,i 0,r 132,i 71,i 0,r 139,i 84,i 0,r 146,i 97,i 0,r 153,i 101,i 0,r 160,i 130,i 0,r 216,i 188,i 0,r 256,i 256,i 0,r 296,i 362,i 0,r 371,i 442,i 0,r 418,i 445,i 0,r 425,i 452,i 0,r 446,i 459,i 0,r 453,i 464,i 0,r 460,i 476,i 0,r 481])
 let l:=l.set 363 (⟨.type "type",none,(.cls ⟨"InPlace",[r 288],[r 363,r 288,r 248,r 206,.type "object"],362,"InPlace",true,[],[r 410],false,none,false⟩),A [(some (r 291)),none,(some (s "InPlace" 573)),(some (s "InPlace" 581)),(some (.builtin "object.__new__")),(some (.bool true))]⟩)
 l++[
tp [r 363],
⟨.type "builtin_function_or_method",none,(.fields (A [.builtin "type.__prepare__",.type "type"])),A []⟩,
di [e "__module__" 682 (s bU 366),e "__qualname__" 684 (s "CodeMaker" 683),e "__firstlineno__" 686 (.int (362) 685),e "load_arguments" 698 (r 379),e "load_variable" 709 (r 386),e "number_goal" 718 (r 393),e "goal" 728 (r 400),e "clause" 741 (r 407),e "__static_attributes__" 742 (r 408)] 9,
tp [],
fl [i 364,i 4,r 378,i 376,i 4,r 385,i 390,i 4,r 392,i 396,i 4,r 399,i 417,i 4,r 406],
co [s "CodeMaker" 677,s "CodeMaker" 678,sf 679,i 362,i 0,i 0,i 0,i 0,r 369,.bool false,i 181,r 370,z,z,z,z,i 680,i 362,sf 681],
⟨.type "frame",none,.plain,A [(some (r 371)),(some (r 3)),(some (r 368)),none,(some (s bU 366)),none,(some (r 0))]⟩]++az 41 "load_arguments" "CodeMaker.load_arguments" 687 364 3 3 373 ["self","args","leaving","number","arg","target"] bU 366++az 42 "load_variable" "CodeMaker.load_variable" 699 376 4 3 380 ["self","k","target","leaving","info"] bU 366++az 43 "number_goal" "CodeMaker.number_goal" 710 390 3 3 387 ["self","name","k"] bU 366++az 44 "goal" "CodeMaker.goal" 719 396 2 3 394 ["self","index","goal","kind"] bU 366++az 45 "clause" "CodeMaker.clause" 729 417 1 3 401 ["self","plan","goals","number","arg","last","index"] bU 366++[
tp [],
di [e "__module__" 682 (s bU 366),e "__firstlineno__" 686 (.int (362) 685),e "load_arguments" 698 (r 379),e "load_variable" 709 (r 386),e "number_goal" 718 (r 393),e "goal" 728 (r 400),e "clause" 741 (r 407),e "__static_attributes__" 742 (r 408),e "__doc__" 743 z] 2,
⟨.type "type",none,(.cls ⟨"CodeMaker",[r 363],[r 410,r 363,r 288,r 248,r 206,.type "object"],409,"CodeMaker",true,[],[],false,none,false⟩),A [(some (r 366)),none,(some (s "CodeMaker" 675)),(some (s "CodeMaker" 683)),(some (.builtin "object.__new__")),(some (.bool true))]⟩,
⟨.type "super",none,(.fields (A [r 410,r 410,r 410])),A []⟩,
⟨.type "builtin_function_or_method",none,(.fields (A [.builtin "object.__init_subclass__",r 410])),A []⟩]++az 46 "abstract_code" "abstract_code" 746 442 3 3 413 ["symbols","kernel","plan"] bU 366++[
tp [],
⟨.type "builtin_function_or_method",none,(.fields (A [.builtin "type.__prepare__",.type "type"])),A []⟩,
di [e "__module__" 764 (s "clausemill.kernel" 755),e "__qualname__" 766 (s "KernelClause" 765),e "__firstlineno__" 768 (.int (445) 767),e "__init__" 779 (r 433),e "__static_attributes__" 784 (r 434)] 5,
tp [],
fl [i 447,i 4,r 432],
co [s "KernelClause" 759,s "KernelClause" 760,sf 761,i 445,i 0,i 0,i 0,i 0,r 423,.bool false,i 181,r 424,z,z,z,z,i 762,i 445,sf 763],
⟨.type "frame",none,.plain,A [(some (r 425)),(some (r 3)),(some (r 422)),none,(some (s "clausemill.kernel" 755)),none,(some (r 0))]⟩]++az 47 "__init__" "KernelClause.__init__" 769 447 5 3 427 ["self","functor","args","goals","count"] "clausemill.kernel" 755++[
tp [s "args" 780,s "count" 781,s "functor" 782,s "goals" 783],
di [e "__module__" 764 (s "clausemill.kernel" 755),e "__firstlineno__" 768 (.int (445) 767),e "__init__" 779 (r 433),e "__static_attributes__" 784 (r 434),e "__dict__" 786 (r 437),e "__weakref__" 788 (r 438),e "__doc__" 789 z] 4,
⟨.type "type",none,(.cls ⟨"KernelClause",[.type "object"],[r 436,.type "object"],435,"KernelClause",true,[],[],false,none,false⟩),A [none,none,(some (s "KernelClause" 757)),(some (s "KernelClause" 765)),(some (.builtin "object.__new__")),(some (.bool true))]⟩,
⟨.type "getset_descriptor",none,(.fields (A [s "__dict__" 785,r 436,.builtin "function.__dict__",.builtin "function.__dict__#set"])),A []⟩,
⟨.type "getset_descriptor",none,(.fields (A [s "__weakref__" 787,r 436,.builtin "ExceptionGroup.__weakref__",z])),A []⟩,
⟨.type "super",none,(.fields (A [r 436,r 436,r 436])),A []⟩,
⟨.type "builtin_function_or_method",none,(.fields (A [.builtin "object.__init_subclass__",r 436])),A []⟩]++az 48 "goal_terms" "goal_terms" 792 452 1 3 441 ["goal","kind"] "clausemill.kernel" 755++az 49 "goal_special" "goal_special" 800 459 1 3 448 ["goal"] "clausemill.kernel" 755++[
tp [],
⟨.type "builtin_function_or_method",none,(.fields (A [.builtin "type.__prepare__",.type "type"])),A []⟩,
di [e "__module__" 816 (s dv 807),e "__qualname__" 818 (s "VarInfo" 817),e "__firstlineno__" 820 (.int (464) 819),e "__init__" 829 (r 468),e "__static_attributes__" 839 (r 469)] 5,
tp [],
fl [i 466,i 4,r 467],
co [s "VarInfo" 811,s "VarInfo" 812,sf 813,i 464,i 0,i 0,i 0,i 0,r 458,.bool false,i 181,r 459,z,z,z,z,i 814,i 464,sf 815],
⟨.type "frame",none,.plain,A [(some (r 460)),(some (r 3)),(some (r 457)),none,(some (s dv 807)),none,(some (r 0))]⟩]++az 50 "__init__" "VarInfo.__init__" 821 466 3 3 462 ["self","k","first"] dv 807++[
tp [s "count" 830,s "first" 831,s "first_chunk" 832,s "kind" 833,s "last_chunk" 834,s "last_goal" 835,s "slot" 836,s "unsafe" 837,s "var" 838],
di [e "__module__" 816 (s dv 807),e "__firstlineno__" 820 (.int (464) 819),e "__init__" 829 (r 468),e "__static_attributes__" 839 (r 469),e "__dict__" 841 (r 472),e "__weakref__" 843 (r 473),e "__doc__" 844 z] 4,
⟨.type "type",none,(.cls ⟨"VarInfo",[.type "object"],[r 471,.type "object"],470,"VarInfo",true,[],[],false,none,false⟩),A [none,none,(some (s "VarInfo" 809)),(some (s "VarInfo" 817)),(some (.builtin "object.__new__")),(some (.bool true))]⟩,
⟨.type "getset_descriptor",none,(.fields (A [s "__dict__" 840,r 471,.builtin "function.__dict__",.builtin "function.__dict__#set"])),A []⟩,
⟨.type "getset_descriptor",none,(.fields (A [s "__weakref__" 842,r 471,.builtin "ExceptionGroup.__weakref__",z])),A []⟩,
⟨.type "super",none,(.fields (A [r 471,r 471,r 471])),A []⟩,
⟨.type "builtin_function_or_method",none,(.fields (A [.builtin "object.__init_subclass__",r 471])),A []⟩,
tp [],
⟨.type "builtin_function_or_method",none,(.fields (A [.builtin "type.__prepare__",.type "type"])),A []⟩,
di [e "__module__" 854 (s dv 807),e "__qualname__" 856 (s "ClausePlan" 855),e "__firstlineno__" 858 (.int (476) 857),e "__init__" 870 (r 489),e "info" 878 (r 496),e "is_perm" 886 (r 503),e "is_void" 894 (r 510),e "perms" 901 (r 517),e "dying_at" 909 (r 524),e "__static_attributes__" 915 (r 525)] 10,
tp [],
fl [i 478,i 4,r 488,i 485,i 4,r 495,i 488,i 4,r 502,i 491,i 4,r 509,i 494,i 4,r 516,i 497,i 4,r 523],
co [s "ClausePlan" 849,s "ClausePlan" 850,sf 851,i 476,i 0,i 0,i 0,i 0,r 479,.bool false,i 181,r 480,z,z,z,z,i 852,i 476,sf 853],
⟨.type "frame",none,.plain,A [(some (r 481)),(some (r 3)),(some (r 478)),none,(some (s dv 807)),none,(some (r 0))]⟩]++az 51 "__init__" "ClausePlan.__init__" 859 478 6 3 483 ["self","infos","chunks","needs_env","env_size","live_after"] dv 807++az 52 "info" "ClausePlan.info" 871 485 2 3 490 ["self","k"] dv 807++az 53 "is_perm" "ClausePlan.is_perm" 879 488 2 3 497 ["self","k"] dv 807++az 54 "is_void" "ClausePlan.is_void" 887 491 2 3 504 ["self","k"] dv 807++az 55 "perms" "ClausePlan.perms" 895 494 1 3 511 ["self"] dv 807++az 56 "dying_at" "ClausePlan.dying_at" 902 497 2 3 518 ["self","goal"] dv 807++[
tp [s "chunks" 910,s "env_size" 911,s "infos" 912,s "live_after" 913,s "needs_env" 914],
di [e "__module__" 854 (s dv 807),e "__firstlineno__" 858 (.int (476) 857),e "__init__" 870 (r 489),e "info" 878 (r 496),e "is_perm" 886 (r 503),e "is_void" 894 (r 510),e "perms" 901 (r 517),e "dying_at" 909 (r 524),e "__static_attributes__" 915 (r 525),e "__dict__" 917 (r 528),e "__weakref__" 919 (r 529),e "__doc__" 920 z] 4,
⟨.type "type",none,(.cls ⟨"ClausePlan",[.type "object"],[r 527,.type "object"],526,"ClausePlan",true,[],[],false,none,false⟩),A [none,none,(some (s "ClausePlan" 847)),(some (s "ClausePlan" 855)),(some (.builtin "object.__new__")),(some (.bool true))]⟩,
⟨.type "getset_descriptor",none,(.fields (A [s "__dict__" 916,r 527,.builtin "function.__dict__",.builtin "function.__dict__#set"])),A []⟩,
⟨.type "getset_descriptor",none,(.fields (A [s "__weakref__" 918,r 527,.builtin "ExceptionGroup.__weakref__",z])),A []⟩,
⟨.type "super",none,(.fields (A [r 527,r 527,r 527])),A []⟩,
⟨.type "builtin_function_or_method",none,(.fields (A [.builtin "object.__init_subclass__",r 527])),A []⟩]
noncomputable def l4(l:List Obj)(P:Params):List Obj:=
 let e:=ent P
 let l:=l.set 3 (di [e "__name__" 165 (s eW 1026),e "__doc__" 166 z,e "__package__" 167 z,e "__loader__" 168 (.builtin "__main__.__loader__#opaque"),e "__spec__" 169 z,e "__annotations__" 170 (r 6),e "__builtins__" 171 (r 4),e "__file__" 173 (sf 172),e "__cached__" 174 z,e "_wall" 193 (r 21),e "A_NIL" 197 (.int (0) 196),e "F_DOT" 199 (.int (0) 198),e "fixed_atoms" 205 (r 28),e "fixed_functors" 211 (r 35),e "Symbols" 331 (r 122),e "variables" 340 (r 133),e "variables_of" 351 (r 140),e "occurrences" 361 (r 147),e "CON" 363 (.int (4) 362),e "INT" 365 (.int (5) 364),e "constant_cell" 374 (r 154),e "CodeState" 450 (r 206),e "Matcher" 509 (r 248),e "Builder" 572 (r 288),e "InPlace" 674 (r 363),e "CodeMaker" 745 (r 410),e "abstract_code" 754 (r 419),e "KernelClause" 791 (r 436),e "goal_terms" 799 (r 447),e "goal_special" 806 (r 454),e "VarInfo" 846 (r 471),e "ClausePlan" 922 (r 527),e "chunk_numbers" 932 (r 538),e "Survey" 987 (r 569),e "kind_of" 994 (r 580),e "slot_order" 1005 (r 587),e "classify" 1025 (r 594),e "_law_draw" 1038 (r 601),e "_law_line" 1044 (r 606),e "_law_lined" 1050 (r 611),e "_law_names" 1059 (r 618),e "_law_walk" 1067 (r 625),e "_law_whole" 1073 (r 630),e "_law_within" 1084 (r 637),e "_law_meet" 1090 (r 642),e "_law_event" 1096 (r 647),e "_law_plain" 1110 (r 654),e "_law_needs" 1117 (r 661),e "_law_constant" 1124 (r 668),e "_law_follow" 1130 (r 673),e "_law_agree" 1136 (r 678),e "_law_kernel" 1142 (r 683),e "_law_term" 1154 (r 690),e "_law_instance" 1160 (r 695),e "law" 1166 (r 700)] 55)
 let l:=l.set 12 (fl [i 1,i 0,r 20,i 7,i 0,r 27,i 9,i 0,r 34,i 11,i 0,r 41,i 69,i 0,r 132,i 71,i 0,r 139,i 84,i 0,r 146,i 97,i 0,r 153,i 101,i 0,r 160,i 130,i 0,r 216,i 188,i 0,r 256,i 256,i 0,r 296,i 362,i 0,r 371,i 442,i 0,r 418,i 445,i 0,r 425,i 452,i 0,r 446,i 459,i 0,r 453,i 464,i 0,r 460,i 476,i 0,r 481,i 499,i 0,r 537,i 507,i 0,r 544,i 529,i 0,r 579,i 535,i 0,r 586,i 545,i 0,r 593,i 575,i 0,r 600,i 589,i 0,r 605,i 597,i 0,r 610,i 600,i 0,r 617,i 608,i 0,r 624,i 612,i 0,r 629,i 617,i 0,r 636,i 626,i 0,r 641,i 645,i 0,r 646,i 654,i 0,r 653,i 678,i 0,r 660,i 686,i 0,r 667,i 688,i 0,r 672,i 822,i 0,r 677,i 832,i 0,r 682,i 858,i 0,r 689,i 870,i 0,r 694,i 876,i 0,r 699])
 l++az 57 "chunk_numbers" "chunk_numbers" 923 499 1 3 532 ["goals","chunks","chunk","goal"] dv 807++[
tp [],
⟨.type "builtin_function_or_method",none,(.fields (A [.builtin "type.__prepare__",.type "type"])),A []⟩,
di [e "__module__" 940 (s dv 807),e "__qualname__" 942 (s "Survey" 941),e "__firstlineno__" 944 (.int (507) 943),e "__init__" 951 (r 552),e "meet" 964 (r 559),e "terms" 978 (r 566),e "__static_attributes__" 980 (r 567)] 7,
tp [],
fl [i 509,i 4,r 551,i 512,i 4,r 558,i 521,i 4,r 565],
co [s "Survey" 935,s "Survey" 936,sf 937,i 507,i 0,i 0,i 0,i 0,r 542,.bool false,i 181,r 543,z,z,z,z,i 938,i 507,sf 939],
⟨.type "frame",none,.plain,A [(some (r 544)),(some (r 3)),(some (r 541)),none,(some (s dv 807)),none,(some (r 0))]⟩]++az 58 "__init__" "Survey.__init__" 945 509 1 3 546 ["self"] dv 807++az 59 "meet" "Survey.meet" 952 512 6 3 553 ["self","k","first","goal","chunk","count","info"] dv 807++az 60 "terms" "Survey.terms" 965 521 5 3 560 ["self","terms","place","goal","chunk","term","counts","k"] dv 807++[
tp [s "infos" 979],
di [e "__module__" 940 (s dv 807),e "__firstlineno__" 944 (.int (507) 943),e "__init__" 951 (r 552),e "meet" 964 (r 559),e "terms" 978 (r 566),e "__static_attributes__" 980 (r 567),e "__dict__" 982 (r 570),e "__weakref__" 984 (r 571),e "__doc__" 985 z] 4,
⟨.type "type",none,(.cls ⟨"Survey",[.type "object"],[r 569,.type "object"],568,"Survey",true,[],[],false,none,false⟩),A [none,none,(some (s "Survey" 933)),(some (s "Survey" 941)),(some (.builtin "object.__new__")),(some (.bool true))]⟩,
⟨.type "getset_descriptor",none,(.fields (A [s "__dict__" 981,r 569,.builtin "function.__dict__",.builtin "function.__dict__#set"])),A []⟩,
⟨.type "getset_descriptor",none,(.fields (A [s "__weakref__" 983,r 569,.builtin "ExceptionGroup.__weakref__",z])),A []⟩,
⟨.type "super",none,(.fields (A [r 569,r 569,r 569])),A []⟩,
⟨.type "builtin_function_or_method",none,(.fields (A [.builtin "object.__init_subclass__",r 569])),A []⟩]++az 61 "kind_of" "kind_of" 988 529 1 3 574 ["info"] dv 807++az 62 "slot_order" "slot_order" 995 535 1 3 581 ["infos","order","k","info","at"] dv 807++az 63 "classify" "classify" 1006 545 1 3 588 ["kernel","goals","chunks","survey","needs_env","at","goal","special","infos","k","order","info","live_after","live"] dv 807++az 64 "_law_draw" "_law_draw" 1028 575 2 3 595 ["pool","most","place","cell","drawn"] eW 1026++[
tp [],
fl [],
fr 65,
co [s "_law_line" 1039,s "_law_line" 1040,sf 1041,i 589,i 2,i 0,i 0,i 3,r 602,.bool true,i 181,r 603,z,z,z,r 604,i 1042,i 589,sf 1043],
fo 65 (s eW 1026) (r 605),
tp [],
fl [],
fr 66,
co [s "_law_lined" 1045,s "_law_lined" 1046,sf 1047,i 597,i 1,i 0,i 0,i 3,r 607,.bool true,i 181,r 608,z,z,z,r 609,i 1048,i 597,sf 1049],
fo 66 (s eW 1026) (r 610)]++az 67 "_law_names" "_law_names" 1051 600 2 3 612 ["term","seen","part"] eW 1026++az 68 "_law_walk" "_law_walk" 1060 608 2 3 619 ["bound","term"] eW 1026++[
tp [],
fl [],
fr 69,
co [s "_law_whole" 1068,s "_law_whole" 1069,sf 1070,i 612,i 2,i 0,i 0,i 3,r 626,.bool true,i 181,r 627,z,z,z,r 628,i 1071,i 612,sf 1072],
fo 69 (s eW 1026) (r 629)]++az 70 "_law_within" "_law_within" 1074 617 3 3 631 ["bound","number","term","todo","part"] eW 1026++[
tp [],
fl [],
fr 71,
co [s "_law_meet" 1085,s "_law_meet" 1086,sf 1087,i 626,i 3,i 0,i 0,i 3,r 638,.bool true,i 181,r 639,z,z,z,r 640,i 1088,i 626,sf 1089],
fo 71 (s eW 1026) (r 641),
tp [],
fl [],
fr 72,
co [s "_law_event" 1091,s "_law_event" 1092,sf 1093,i 645,i 6,i 0,i 0,i 3,r 643,.bool true,i 181,r 644,z,z,z,r 645,i 1094,i 645,sf 1095],
fo 72 (s eW 1026) (r 646)]++az 73 "_law_plain" "_law_plain" 1097 654 4 3 648 ["bound","kernel","call","picks","events","kept","place","goal"] eW 1026++az 74 "_law_needs" "_law_needs" 1111 678 1 3 655 ["ins"] eW 1026++az 75 "_law_constant" "_law_constant" 1118 686 1 3 662 ["cell"] eW 1026++[
tp [],
fl [],
fr 76,
co [s "_law_follow" 1125,s "_law_follow" 1126,sf 1127,i 688,i 5,i 0,i 0,i 3,r 669,.bool true,i 181,r 670,z,z,z,r 671,i 1128,i 688,sf 1129],
fo 76 (s eW 1026) (r 672),
tp [],
fl [],
fr 77,
co [s "_law_agree" 1131,s "_law_agree" 1132,sf 1133,i 822,i 4,i 0,i 0,i 3,r 674,.bool true,i 181,r 675,z,z,z,r 676,i 1134,i 822,sf 1135],
fo 77 (s eW 1026) (r 677),
tp [],
fl [],
fr 78,
co [s "_law_kernel" 1137,s "_law_kernel" 1138,sf 1139,i 832,i 2,i 0,i 0,i 3,r 679,.bool true,i 181,r 680,z,z,z,r 681,i 1140,i 832,sf 1141],
fo 78 (s eW 1026) (r 682)]++az 79 "_law_term" "_law_term" 1143 858 4 3 684 ["pool","world","depth","names","kind","first"] eW 1026++[
tp [],
fl [],
fr 80,
co [s "_law_instance" 1155,s "_law_instance" 1156,sf 1157,i 870,i 3,i 0,i 0,i 3,r 691,.bool true,i 181,r 692,z,z,z,r 693,i 1158,i 870,sf 1159],
fo 80 (s eW 1026) (r 694),
tp [],
fl [],
fr 81,
co [s "law" 1161,s "law" 1162,sf 1163,i 876,i 1,i 0,i 0,i 3,r 696,.bool true,i 181,r 697,z,z,z,r 698,i 1164,i 876,sf 1165],
fo 81 (s eW 1026) (r 699)]
noncomputable def lb(P:Params):List Obj:=[boot_o_0 P,boot_o_1 P,boot_o_2 P,boot_o_3 P,boot_o_4 P,boot_o_5 P,boot_o_6 P,boot_o_7 P,boot_o_8 P,boot_o_9 P,boot_o_10 P]
noncomputable def L0(P:Params):List Obj:=l0 (lb P) P
noncomputable def L1(P:Params):List Obj:=l1 (L0 P) P
noncomputable def L2(P:Params):List Obj:=l2 (L1 P) P
noncomputable def L3(P:Params):List Obj:=l3 (L2 P) P
noncomputable def L4(P:Params):List Obj:=l4 (L3 P) P
noncomputable def oG:List Stmt:=behindTheImports pg
noncomputable def qD:Env:={scope:=pg.main.scope,locals:=mainNs,globals:=mainNs,cells:=[],code:=.ref 13,frame:=some 14}
noncomputable def topC:Code:=.body oG qD
noncomputable def oH:List Frame:=[topFrame ⟨0,0,0,0⟩]
noncomputable def kq:Option Value:=some (.ref 6)
noncomputable def sY(l:List Obj)(n tk:Nat)(w:World)(os:OsState):SharedT:=⟨tree 12 l,n,(boot_heap w.params).life,Array.mk [],boot_drawn,tk,os⟩
noncomputable def S0(w:World)(os:OsState):SharedT:=sY (L0 w.params) 15 187 w os
noncomputable def S1(w:World)(os:OsState):SharedT:=sY (L1 w.params) 211 451 w os
noncomputable def S2(w:World)(os:OsState):SharedT:=sY (L2 w.params) 366 675 w os
noncomputable def S3(w:World)(os:OsState):SharedT:=sY (L3 w.params) 532 923 w os
noncomputable def S4(w:World)(os:OsState):SharedT:=sY (L4 w.params) 701 1167 w os
noncomputable def b1:List Stmt:=(oG.drop 0).take 16
noncomputable def b2:List Stmt:=(oG.drop 16).take 3
noncomputable def b3:List Stmt:=(oG.drop 19).take 9
noncomputable def b4:List Stmt:=oG.drop 28
theorem UB(w:World)(os:OsState):segRunT treeTable pg w 11 kq 1 1214 (S0 w os) (piecesOf b1 qD topC ⟨0,0,0,0⟩ oH)=some (.next,S1 w os,topC,⟨101,0,129,23⟩):=by kernel_rfl
theorem UC(w:World)(os:OsState):segRunT treeTable pg w 11 kq 1 1263 (S1 w os) (piecesOf b2 qD topC ⟨101,0,129,23⟩ oH)=some (.next,S2 w os,topC,⟨256,0,361,61⟩):=by kernel_rfl
theorem UD(w:World)(os:OsState):segRunT treeTable pg w 11 kq 1 1386 (S2 w os) (piecesOf b3 qD topC ⟨256,0,361,61⟩ oH)=some (.next,S3 w os,topC,⟨476,0,498,16⟩):=by kernel_rfl
theorem UE(w:World)(os:OsState):segRunT treeTable pg w 11 kq 1 957 (S3 w os) (piecesOf b4 qD topC ⟨476,0,498,16⟩ oH)=some (.next,S4 w os,topC,⟨876,0,905,67⟩):=by kernel_rfl
end
noncomputable section
noncomputable abbrev rg:OpenLaw:=PySem.Challenge.rw_no0186_01
theorem ij{a b:Bool}(x:a=true)(y:b=true):(a&&b)=true:=by rw[x,y];rfl
theorem zX(lk:Look)(a b:List Stmt):noRoadLSs lk (a++b)=(noRoadLSs lk a&&noRoadLSs lk b):=by
 induction a with
 |nil=>rfl
 |cons x a ih=>
  show(_&&noRoadLSs lk (a++b))=_;rw[ih,←Bool.and_assoc];rfl
theorem Jq:((["vars","dir","locals"]:List Str).filter (readsOut pg pg.main.body))=[]:=by kernel_rfl
theorem V2:(!(importedModules pg.main.body).all cThrough.contains)=false:=by kernel_rfl
theorem T7:pg.main.body=b1++(b2++(b3++b4)):=by kernel_rfl
theorem VE:noRoadLSs {strict:=false,foot:=none,bare:=[]} pg.main.body=true:=by
 rw[T7,zX,zX,zX];exact ij (by kernel_rfl) (ij (by kernel_rfl) (ij (by kernel_rfl) (by kernel_rfl)))
theorem Ro:looksOpen pg=true:=by
 unfold looksOpen;rw[Jq,V2];exact ij (ij (ij (ij (ij (by kernel_rfl) (by kernel_rfl)) (by kernel_rfl)) (by kernel_rfl)) VE) (by kernel_rfl)
theorem VG:rg.row.wellSaid=true:=by
 unfold OpenRow.wellSaid OpenRow.partSaid;refine ij (ij ?_ (by kernel_rfl)) (by kernel_rfl)
 iterate 13 refine ij ?_ (by kernel_rfl)
 exact Ro
end
noncomputable section
theorem Hb:rg.wellSaid=true:=by
 unfold OpenLaw.wellSaid
 iterate 18 refine ij ?_ (by kernel_rfl)
 exact VG
end
noncomputable section
noncomputable def Q0:List Stmt:=pg.main.body.drop 51
noncomputable def qv:Program:={pg with main:={pg.main with body:=Q0}}
noncomputable def jy:List Str:=(["_wall","A_NIL","F_DOT","fixed_atoms","fixed_functors","Symbols","variables","variables_of","occurrences","CON","INT","constant_cell","CodeState","Matcher","Builder","InPlace","CodeMaker","abstract_code","KernelClause","goal_terms","goal_special","VarInfo","ClausePlan","chunk_numbers","Survey","kind_of","slot_order","classify","_law_draw","_law_line","_law_lined","_law_names","_law_walk","_law_whole","_law_within","_law_meet","_law_event","_law_plain","_law_needs","_law_constant","_law_follow","_law_agree","_law_kernel","_law_term","_law_instance"]:List String).map Str.ofString
noncomputable def Bt:Shared→Bool:=fun _=>true
@[irreducible] noncomputable def hP(P:Params):Heap:=absHeap (tree 12 (L4 P)) 701 (boot_heap P).life
noncomputable def sP(w:World)(os:OsState):Shared:=⟨hP w.params,Array.mk [],boot_drawn,1167,os⟩
theorem LL(w:World)(os:OsState):(S4 w os).abs=sP w os:=by kernel_rfl
theorem Ra(w:World)(os:OsState):(staticsOk (importedModules pg.main.body) (boot_heap w.params) (hP w.params)&&namesBound pg (hP w.params)&&gensDone (sP w os)&&laidKept (boot_heap w.params) (hP w.params))=true:=by kernel_rfl
theorem Rf(w:World)(os:OsState):seen ((recsOf qv).map (·.name)) (ownsOf qv) [] {sP w os with gens:=#[]}=expectedOf qv:=by kernel_rfl
theorem Rg(w:World)(os:OsState):(sP w os).heap.bltView=bltViewBooted:=by kernel_rfl
theorem Rh(w:World)(os:OsState):((sP w os).heap.keysOk (looseW qv jy) ((recsOf qv).map (·.name)) ((litsOf qv).map (·.1)) ((clssOf qv (looseW qv jy)).map (·.name))&&(sP w os).heap.accountedOkI (importedModules pg.main.body)&&(sP w os).heap.isNs mainGlobals&&(sP w os).heap.isNs builtinsNs&&tablesOk qv (sP w os).heap&&Bt (sP w os)&&((sP w os).gens.size == 0))=true:=by kernel_rfl
theorem Ri(w:World)(os:OsState):tabsOk qv (sP w os)=true:=by kernel_rfl
theorem Rj(w:World)(os:OsState):pinSeenD qv (drecsOf qv) (sP w os)=pinGoodD (drecsOf qv):=by kernel_rfl
theorem Rk(w:World)(os:OsState):plainSeenE qv (looseW qv jy) (sP w os)=plainGoodE qv (looseW qv jy):=by kernel_rfl
theorem Rl(w:World)(os:OsState):plainSeenD qv jy (sP w os)=plainGoodD qv jy:=by kernel_rfl
theorem Rn(w:World)(os:OsState):wideSeen qv (sP w os)=wideGood qv:=by kernel_rfl
theorem Rc(w:World)(os:OsState):clsSeenW qv jy (sP w os)=clsGoodW qv jy:=by kernel_rfl
end
noncomputable def zv(a:Arguments):Bool:=a.posonlyargs.isEmpty&&a.vararg.isNone&&a.kwonlyargs.isEmpty&&a.kwarg.isNone
theorem Fz:∀{ps:List Str} {vals:List Value},vals.length=ps.length→∀p∈ps,((ps.zip vals).lookup p).isSome=true
 | [],_,_,p,hp=>nomatch hp
 |q::ps,[],h,p,hp=>by cases h
 |q::ps,v::vals,h,p,hp=>by
  simp only[BV,m5];split
  ·rfl
  ·rename_i hne;rcases a8.mp hp with e|hp
   ·subst e;simp at hne
   ·exact Fz (by simpa using h) p hp
theorem DX{α β:Type}{f g:α→Option β}:∀{l:List α},(∀x∈l,f x=g x)→l.filterMap f=l.filterMap g
 | [],_=>rfl
 |x::l,h=>by rw[tO,tO,h x (.head _),DX fun y hy=>h y (.tail _ hy)]
theorem Iv:∀{ps:List Str} {vals:List Value},ps.Nodup→vals.length=ps.length→ps.filterMap (fun n=>((ps.zip vals).lookup n).map (n,·))=ps.zip vals
 | [],_,_,_=>rfl
 |q::ps,[],_,h=>by cases h
 |q::ps,v::vals,hn,h=>by
  have hn:=ba.mp hn;rw[BV,tO];simp only[m5,ig,wZ];congr 1
  refine(DX fun p hp=>?_).trans (Iv hn.2 (by simpa using h))
  have:(p == q)=false:=by
   rw[rJ]
   rintro rfl
   exact hn.1 hp
  rw[this]
theorem Lv{α β γ:Type}{z:List α}{s:β}{f:α→β→Sem (ForInStep β)}{g:β→Sem γ}(h:z=[]):forIn z s f >>= g=g s:=by subst h;rfl
theorem Xt{α β:Type}{l:List α}{k:Nat}:l.zip (([]:List β).drop k)=[]:=by rw[qk,List.zip_nil_right]
theorem Jz{n q:Str}{as:List Arg}{ko:List (Option Expr)}{df:List Expr}{b:FuncBody}{sc:Scope}{g:Addr}{cl:List (Str×Addr)}{kwd doc pm cd ct:Value}{an:Option Addr}{bi:Addr}{vals:List Value}(hn:(as.map (·.arg)).Nodup)(hl:vals.length=(as.map (·.arg)).length):
  bindArgs ⟨n,q,⟨[],as,none,[],ko,none,df⟩,b,sc,g,cl,.none,kwd,doc,pm,an,cd,ct,bi⟩ ⟨vals,[]⟩=pure ((as.map (·.arg)).zip vals):=by
 have h1:¬(decide (vals.length>(as.map (·.arg)).length)&&true)=true:=by rw[hl,a7 (eA _)];exact ax
 have hm:(as.map (·.arg)).length-(([]:List Value).drop (([]:List Value).length-(as.map (·.arg)).length)).length=(as.map (·.arg)).length:=by rw[qk];rfl
 have h2:¬(!(((as.map (·.arg)).take ((as.map (·.arg)).length-(([]:List Value).drop (([]:List Value).length-(as.map (·.arg)).length)).length)).filter fun n=>(((as.map (·.arg)).zip vals).lookup n).isNone).isEmpty)=true:=by
  rw[hm,wH,List.filter_eq_nil_iff.mpr fun p hp=>by rw[Option.isNone_eq_false_iff.mpr (Fz hl p hp)];exact ax]
  exact ax
 have h3:List.filterMap (fun n=>(((as.map Arg.arg).zip vals).lookup n).map (n,·)) (as.map Arg.arg++[])=(as.map Arg.arg).zip vals:=by rw[eY];exact Iv hn hl
 refine(aD h1).trans ((aD h2).trans ?_);exact(Lv Xt).trans (aE (pure (f:=Sem)) h3)
theorem UH{ps:Arguments}(h:zv ps=true):ps=⟨[],ps.args,none,[],ps.kw_defaults,none,ps.defaults⟩:=by
 have h1:=gS.mp h;have h2:=gS.mp h1.1;have h3:=gS.mp h2.1;exact(show ps=⟨ps.posonlyargs,ps.args,ps.vararg,ps.kwonlyargs,ps.kw_defaults,ps.kwarg,ps.defaults⟩ by cases ps;rfl).trans (by rw[BO.mp h3.1,Bj.mp h3.2,BO.mp h2.2,Bj.mp h1.2])
theorem Jw{n q:Str}{ps:Arguments}{b:FuncBody}{sc:Scope}{g:Addr}{cl:List (Str×Addr)}{kwd doc pm cd ct:Value}{an:Option Addr}{bi:Addr}{vals:List Value}(hp:zv ps=true)(hn:(ps.args.map (·.arg)).Nodup)(hl:vals.length=(ps.args.map (·.arg)).length):
  bindArgs ⟨n,q,ps,b,sc,g,cl,.none,kwd,doc,pm,an,cd,ct,bi⟩ ⟨vals,[]⟩=pure ((ps.args.map (·.arg)).zip vals):=by
 rw[UH hp];exact Jz hn hl
theorem GF{β:Type}:∀{l:List (Nat×β)} {x:Nat} {b:β},l.lookup x=some b→(x,b)∈l
 | [],_,_,h=>nomatch h
 |(y,c)::l,x,b,h=>by
  rw[m5] at h;split at h
  ·rename_i e;rw[bY e];cases h;exact .head _
  ·exact .tail _ (GF h)
noncomputable section
noncomputable def fA:List Nat:=[21,28,35,49,56,63,70,77,84,91,98,105,112,119,133,140,147,154,168,175,182,189,196,203,224,231,238,245,264,271,278,285,304,311,318,325,332,339,346,353,360,379,386,393,400,407,419,433,447,454,468,489,496,503,510,517,524,538,552,559,566,580,587,594,601,606,611,618,625,630,637,642,647,654,661,668,673,678,683,690,695,700]
noncomputable def HA:List Value:=[(s "__main__" 164),(s "clausemill.symbols" 194),(s "clausemill.symbols" 194),(s "clausemill.symbols" 194),(s "clausemill.symbols" 194),(s "clausemill.symbols" 194),(s "clausemill.symbols" 194),(s "clausemill.symbols" 194),(s "clausemill.symbols" 194),(s "clausemill.symbols" 194),(s "clausemill.symbols" 194),(s "clausemill.symbols" 194),(s "clausemill.symbols" 194),(s "clausemill.symbols" 194),(s "clausemill.terms" 332),(s "clausemill.terms" 332),(s "clausemill.terms" 332),(s "clausemill.abstract" 366),(s "clausemill.abstract" 366),(s "clausemill.abstract" 366),(s "clausemill.abstract" 366),(s "clausemill.abstract" 366),(s "clausemill.abstract" 366),(s "clausemill.abstract" 366),(s "clausemill.abstract" 366),(s "clausemill.abstract" 366),(s "clausemill.abstract" 366),(s "clausemill.abstract" 366),(s "clausemill.abstract" 366),(s "clausemill.abstract" 366),(s "clausemill.abstract" 366),(s "clausemill.abstract" 366),(s "clausemill.abstract" 366),(s "clausemill.abstract" 366),(s "clausemill.abstract" 366),(s "clausemill.abstract" 366),(s "clausemill.abstract" 366),(s "clausemill.abstract" 366),(s "clausemill.abstract" 366),(s "clausemill.abstract" 366),(s "clausemill.abstract" 366),(s "clausemill.abstract" 366),(s "clausemill.abstract" 366),(s "clausemill.abstract" 366),(s "clausemill.abstract" 366),(s "clausemill.abstract" 366),(s "clausemill.abstract" 366),(s "clausemill.kernel" 755),(s "clausemill.kernel" 755),(s "clausemill.kernel" 755),(s "clausemill.classify" 807),(s "clausemill.classify" 807),(s "clausemill.classify" 807),(s "clausemill.classify" 807),(s "clausemill.classify" 807),(s "clausemill.classify" 807),(s "clausemill.classify" 807),(s "clausemill.classify" 807),(s "clausemill.classify" 807),(s "clausemill.classify" 807),(s "clausemill.classify" 807),(s "clausemill.classify" 807),(s "clausemill.classify" 807),(s "clausemill.classify" 807),(s "law_no0186_01" 1026),(s "law_no0186_01" 1026),(s "law_no0186_01" 1026),(s "law_no0186_01" 1026),(s "law_no0186_01" 1026),(s "law_no0186_01" 1026),(s "law_no0186_01" 1026),(s "law_no0186_01" 1026),(s "law_no0186_01" 1026),(s "law_no0186_01" 1026),(s "law_no0186_01" 1026),(s "law_no0186_01" 1026),(s "law_no0186_01" 1026),(s "law_no0186_01" 1026),(s "law_no0186_01" 1026),(s "law_no0186_01" 1026),(s "law_no0186_01" 1026),(s "law_no0186_01" 1026)]
noncomputable def cL:List (Nat×Nat):=[(0,122),(5,410),(6,436),(7,471),(8,527),(9,569)]
noncomputable def KA:List Nat:=[122,121,206,205,248,247,288,287,363,362,410,409,436,435,471,470,527,526,569,568]++fA
noncomputable def xu:List (Str×Nat):=([("_wall",0),("fixed_atoms",1),("fixed_functors",2),("variables",14),("variables_of",15),("occurrences",16),("constant_cell",17),("abstract_code",46),("goal_terms",48),("goal_special",49),("chunk_numbers",57),("kind_of",61),("slot_order",62),("classify",63),("_law_draw",64),("_law_line",65),("_law_lined",66),("_law_names",67),("_law_walk",68),("_law_whole",69),("_law_within",70),("_law_meet",71),("_law_event",72),("_law_plain",73),("_law_needs",74),("_law_constant",75),("_law_follow",76),("_law_agree",77),("_law_kernel",78),("_law_term",79),("_law_instance",80),("law",81)]:List (String×Nat)).map fun e=>(Str.ofString e.1,e.2)
noncomputable def xt:List (Str×Nat):=([("Symbols",0),("CodeMaker",5),("KernelClause",6),("VarInfo",7),("ClausePlan",8),("Survey",9)]:List (String×Nat)).map fun e=>(Str.ofString e.1,e.2)
noncomputable def xv:List (Str×Int):=([("A_NIL",0),("F_DOT",0),("CON",4),("INT",5)]:List (String×Int)).map fun e=>(Str.ofString e.1,e.2)
noncomputable def u0:List (Nat×Str×Nat):=([(0,"atom",4),(0,"functor",6),(0,"func",7),(0,"arity",9),(5,"emit",19),(5,"new_temporary",20),(5,"is_void",21),(5,"is_permanent",22),(5,"place",23),(5,"head_argument",24),(5,"match",25),(5,"match_arguments",26),(5,"match_variable",27),(5,"build",28),(5,"build_pieces",29),(5,"set_arguments",30),(5,"set_variable",31),(5,"unify_goal",32),(5,"unify_with_variable",33),(5,"unify_variables",34),(5,"introduce",35),(5,"alias",36),(5,"fresh_register",37),(5,"settle",38),(5,"register_of",39),(5,"load_slot",40),(5,"load_arguments",41),(5,"load_variable",42),(5,"number_goal",43),(5,"goal",44),(5,"clause",45),(8,"is_void",54),(9,"meet",59),(9,"terms",60)]:List (Nat×String×Nat)).map fun e=>(e.1,Str.ofString e.2.1,e.2.2)
noncomputable def zK:List ((Nat×Nat)×Nat):=[((0,5929987949),4),((0,100897158637842290),6),((0,6013939299),7),((0,1518042969209),9),((5,5996636532),19),((5,29028909779157184358610936885881),20),((5,101739320438647140),21),((5,111863565712922486446909386356),22),((5,1582366286693),23),((5,28553514230927730767136968502900),24),((5,1569298080616),25),((5,1897164968328812631054732654321497203),26),((5,7410800657534425848493992510123109),27),((5,1522388266084),28),((5,109699635645612750339947324787),29),((5,29425046964601494130652034790515),30),((5,114941589706983022890938690661),31),((5,1763479434849757986513260),32),((5,8327796176364402537107088797765516207285496933),33),((5,1938966143961158221447987740652889459),34),((5,6667233722873370993509),35),((5,1517942301043),36),((5,7270166046139272155806917352252786),37),((5,408354559388773),38),((5,447781419885367196255219558),39),((5,6722640649202348879732),40),((5,7391621563157248401458788381389939),41),((5,28873521731084510004641471294565),42),((5,443021384642753003221115244),43),((5,6030319980),44),((5,390792119415653),45),((8,101739320438647140),54),((9,6130328948),59),((9,1599429832051),60)]
noncomputable def EB:List (Nat×Nat):=[(0,3),(5,18),(6,47),(7,50),(8,51),(9,58)]
noncomputable def rI:List Str:=(["functor","texts","atom_numbers","functors","functor_numbers","kernel","plan","code","seen","local","next_temporary","args","goals","count","var","kind","slot","first","unsafe","last_goal","first_chunk","last_chunk","infos","chunks","needs_env","env_size","live_after"]:List String).map Str.ofString
noncomputable def uz:List Str:=(["atom","functor","func","arity","emit","new_temporary","is_void","is_permanent","place","head_argument","match","match_arguments","match_variable","build","build_pieces","set_arguments","set_variable","unify_goal","unify_with_variable","unify_variables","introduce","alias","fresh_register","settle","register_of","load_slot","load_arguments","load_variable","number_goal","goal","clause","meet","terms"]:List String).map Str.ofString
noncomputable def w6:List Str:=(["len","list","tuple","range","reversed","sorted","set","str"]:List String).map Str.ofString
noncomputable def u4:Nat:=82
theorem nObj(P:Params):KA.all (fun a=>decide (a<701))=true:=by kernel_rfl
noncomputable def tT:Bo:=⟨fun c m=>zK.lookup (c,m),fun c=>EB.lookup c⟩
noncomputable def AS:ee:={attrs:=rI,jU:=uz,eK:=w6,jt:=fun x=>xv.lookup x,js:=fun x=>xu.lookup x,jr:=fun x=>xt.lookup x}
@[irreducible] noncomputable def w7(f:Nat):Option aK:=(qF AS (fnAt f).2.2.2.2 (W6 AS 40 (fnAt f).2.2.2.2 60) (fnAt f).2.2.2.1).val
@[irreducible] noncomputable def p9(f:Nat):List Str:=(fnAt f).2.2.1.args.map (·.arg)
@[irreducible] noncomputable def fT(f:Nat):Option mn:=match decide (f<u4) with
 |true=>(w7 f).map fun b=>⟨(p9 f).map aS,b⟩
 |false=>none
@[irreducible] noncomputable def gt(P:Params)(a:Nat):Option Obj:=((tree 12 (L4 P)).get a).bind alive
@[irreducible] noncomputable def kP(P:Params):Frag:=KA.map fun a=>(a,(gt P a).getD default)
@[irreducible] noncomputable def mgT(P:Params)(x:Str):Option Value:=match gt P 3 with
 |some o=>(match o.data with| .dict es _=>nsFind es x|_=>none)
 |none=>none
theorem rU{P:Params}{a:Nat}{o:Obj}(ha:a<701)(h:gt P a=some o):(hP P).get? a=some o:=by
 unfold gt at h;obtain⟨x,h1,h2⟩:=Option.bind_eq_some_iff.mp h;unfold hP;exact(abs_get ha h1).trans h2
theorem P4(P:Params):KA.all (fun a=>(gt P a).isSome)=true:=by kernel_rfl
theorem Pn(P:Params):(kP P).In (hP P):=by
 intro a o h;unfold kP at h;obtain⟨b,hb,e⟩:=cg.mp (GF h);cases e;have h1:=dh.mp (P4 P) a hb;obtain⟨x,hx⟩:=wY.mp h1;rw[hx];exact rU (c6 (dh.mp (nObj P) a hb)) hx
theorem TY(P:Params):(gt P 3).isSome=true:=by kernel_rfl
theorem SP(P:Params):(hP P).nsMap mainGlobals=mgT P:=by
 funext x
 obtain⟨o,ho⟩:=wY.mp (TY P);have h2:(hP P).get? mainGlobals=some o:=rU (by decide) ho
 unfold Heap.nsMap mgT;rw[h2,ho];rfl
@[irreducible] noncomputable def uC(K:Frag)(c:Nat):Bool:=hasDictIn K c&&plainOver K c&&(findIn K (.ref c) "__setattr__" == some (some (.builtin "object.__setattr__")))&&plainGet K c ""&&makesIn K c&&keepIn K (.ref c)
theorem Ka(P:Params):cL.all (fun c=>uC (kP P) c.2)=true:=by kernel_rfl
theorem attrOk(P:Params):cL.all (fun c=>rI.all fun nm=>fU c.1 (aS nm)||findIn (kP P) (.ref c.2) nm == some none)=true:=by kernel_rfl
theorem To:(rI.all cH&&uz.all cH&&u0.all fun e=>cH e.2.1)=true:=by kernel_rfl
theorem gfOk(P:Params):xu.all (fun e=>match fA[e.2]? with|some a=>mgT P e.1 == some (.ref a)|none=>false)=true:=by kernel_rfl
theorem M9(P:Params):xt.all (fun e=>match cL.lookup e.2 with|some a=>mgT P e.1 == some (.ref a)|none=>false)=true:=by kernel_rfl
theorem giOk(P:Params):xv.all (fun e=>match mgT P e.1 with|some (.int j _)=>j == e.2|_=>false)=true:=by kernel_rfl
theorem Jy(P:Params):w6.all (fun x=>(mgT P x).isNone&&x != "__name__")=true:=by kernel_rfl
theorem QF(P:Params):fA.all (fun a=>keepIn (kP P) (.ref a)&&isFn (kP P) (.ref a))=true:=by kernel_rfl
theorem mtOk(P:Params):u0.all (fun e=>match cL.lookup e.1,fA[e.2.2]? with|some c,some a=>findIn (kP P) (.ref c) e.2.1 == some (some (.ref a))|_,_=>false)=true:=by kernel_rfl
theorem Nt(P:Params):EB.all (fun e=>match cL.lookup e.1,fA[e.2]? with|some c,some a=>findIn (kP P) (.ref c) "__init__" == some (some (.ref a))|_,_=>false)=true:=by kernel_rfl
theorem SX:zK=u0.map fun e=>((e.1,aS e.2.1),e.2.2):=by kernel_rfl
theorem Lq(P:Params):fA.map (gt P)=(fA.zip HA).zipIdx.map fun e=>some (fo e.2 e.1.2 (.ref (e.1.1-1))):=by kernel_rfl
@[irreducible] noncomputable def codeB(P:Params)(a f:Nat):Bool:=match gt P (a-1) with
 |some o=>(match o.data with
  | .fields vs=>(match (vs[1]?:Option Value) with
   |some (Value.str q _)=>q == (fnAt f).2.1
   |_=>false)
  |_=>false)
 |none=>false
theorem codeOk(P:Params):fA.zipIdx.all (fun e=>codeB P e.1 e.2&&decide (e.1<701))=true:=by kernel_rfl
@[irreducible] noncomputable def Dc(f:Nat):Bool:=zv (fnAt f).2.2.1&&decide (p9 f).Nodup&&(p9 f).all (fun p=>cH p&&((fnAt f).2.2.2.2.names.lookup p == some .local||(fnAt f).2.2.2.2.names.lookup p == some .cell))&&
 (fnAt f).2.2.2.2.names.all (fun y=>y.2 != .free)&&!(fnAt f).2.2.2.2.isCoroutine&&!(fnAt f).2.2.2.2.isGenerator&&(fnAt f).2.2.2.2.kind == .function
theorem Ln:(List.range u4).all Dc=true:=by kernel_rfl
end
noncomputable section
theorem mI{α β:Type}[BEq α][LawfulBEq α]:∀{l:List (α×β)} {x:α} {b:β},l.lookup x=some b→(x,b)∈l
 | [],_,_,h=>nomatch h
 |(y,c)::l,x,b,h=>by
  rw[m5] at h;split at h
  ·rename_i e;rw[bY e];cases h;exact .head _
  ·exact .tail _ (mI h)
theorem I6{h:Heap}{a:Addr}{m m':Str→Option Value}(x:h.Ns a m)(y:h.Ns a m'):m=m':=by
 obtain⟨o,es,ep,h1,h2,_,h3⟩:=x;obtain⟨o',es',ep',h1',h2',_,h3'⟩:=y;cases h1.symm.trans h1';cases h2.symm.trans h2'
 funext k
 rw[←h3 k,←h3' k]
theorem OA(P:Params):(hP P).isNs mainGlobals=true:=by kernel_rfl
theorem WA(P:Params):(gt P 1).isSome=true:=by kernel_rfl
noncomputable def oL(w:World)(h:Heap)(mb:Str→Option Value):Wd where
 prog:=pg
 w:=w
 K:=kP w.params
 h₀:=h
 cls:=fun c=>cL.lookup c
 mg:=mgT w.params
 mb:=mb
 attrs:=rI
 jU:=uz
 eK:=w6
 T:=tT
 jt:=fun x=>xv.lookup x
 js:=fun x=>xu.lookup x
 jr:=fun x=>xt.lookup x
 k6:=fun f=>fA[f]?
section
variable{w:World}{h:Heap}{mb:Str→Option Value}
theorem pE{c a:Nat}(e:cL.lookup c=some a):uC (kP w.params) a=true:=dh.mp (Ka w.params) _ (mI e)
structure Iy(K:Frag)(c:Nat):Prop where
 dict:hasDictIn K c=true
 over:plainOver K c=true
 set:findIn K (.ref c) "__setattr__"=some (some (.builtin "object.__setattr__"))
 get:plainGet K c ""=true
 make:makesIn K c=true
 keep:keepIn K (.ref c)=true
theorem pD{K:Frag}{c:Nat}(h:uC K c=true):Iy K c:=by
 unfold uC at h;exact cR h fun h f=>cR h fun h e=>cR h fun h d=>cR h fun h c=>cR h fun a b=>⟨a,b,bY c,d,e,f⟩
theorem xX{f a:Nat}(e:fA[f]?=some a):keepIn (kP w.params) (.ref a)=true∧isFn (kP w.params) (.ref a)=true:=
 gS.mp (dh.mp (QF w.params) _ (dj e))
theorem names0:(∀nm∈rI,dJ nm)∧(∀nm∈uz,dJ nm)∧∀e∈u0,dJ e.2.1:=by
 have h:=To;simp only[de,dh] at h;exact⟨fun x m=>gu (h.1.1 x m),fun x m=>gu (h.1.2 x m),fun e m=>gu (h.2 e m)⟩
theorem Xi(hk:∀b o,(hP w.params).get? b=some o→h.get? b=some o)(hb:h.Ns builtinsNs mb)(hl:h.NoLimit)(hbt:∀x:Str,x≠"__name__"→mb x=bootBuiltins x):jO (oL w h mb) where
 yp:=(Pn w.params).keeps hk
 g:=by
  have:=(Heap.Ns.of_isNs (OA w.params)).keeps hk
  rw[SP] at this;exact this
 b:=hb
 lim:=hl
 H6:=by
  obtain⟨o,ho⟩:=wY.mp (WA w.params);exact fun n=>ao (n.symm.trans (hk _ _ (rU (P:=w.params) (a:=1) (by decide) ho)))
 blt:=hbt
 xB:=fun c a e=>(pD (pE (w:=w) e)).dict
 cover:=fun c a e=>(pD (pE (w:=w) e)).over
 C6:=fun c a e=>(pD (pE (w:=w) e)).set
 xE:=fun c a nm e=>(pD (pE (w:=w) e)).get
 Cr:=fun c a e=>(pD (pE (w:=w) e)).make
 xA:=fun c a nm e hn hc=>(Gr (dh.mp (dh.mp (attrOk w.params) _ (mI e)) nm hn)).elim (fun r=>(ax (hc.symm.trans r)).elim) bY
 tg:=names0.1
 int:=fun x i e=>by
  have:=dh.mp (giOk w.params) _ (mI e)
  show ∃t,mgT w.params x=_
  dsimp only at this
  split at this
  ·rename_i j t ht;rw[ht,bY this];exact⟨t,rfl⟩
  ·cases this
 fn:=fun x f e=>by
  have:=dh.mp (gfOk w.params) _ (mI e)
  dsimp only at this
  split at this
  ·rename_i a ha;exact⟨a,ha,bY this⟩
  ·cases this
 xk:=fun f a e=>(xX e).1
 Cf:=fun x c e=>by
  have:=dh.mp (M9 w.params) _ (mI e)
  dsimp only at this
  split at this
  ·rename_i a ha;exact⟨a,ha,bY this,(pD (pE (w:=w) ha)).keep⟩
  ·cases this
 free:=fun x hx=>by
  have:=dh.mp (Jy w.params) _ hx
  simp only[de,Bj,lu] at this;exact this
 nj:=fun c nm f a hc hn e=>by
  have e:zK.lookup (c,aS nm)=some f:=e;rw[SX] at e;obtain⟨x,hx,ex⟩:=cg.mp (mI e);have e1:x.1=c:=aE (·.1.1) ex;have e2:aS x.2.1=aS nm:=aE (·.1.2) ex;have e3:x.2.2=f:=aE (·.2) ex;have e2:=uE (names0.2.2 x hx) (names0.2.1 nm hn) e2
  have:=dh.mp (mtOk w.params) _ hx
  rw[e1,e2,e3] at this;have hc:cL.lookup c=some a:=hc;rw[hc] at this;split at this
  ·rename_i c' a' h1 h2;cases h1;exact⟨a',h2,bY this,(xX h2).2⟩
  ·cases this
 GH:=names0.2.1
 init:=fun c f a hc e=>by
  have:=dh.mp (Nt w.params) _ (mI e)
  have hc:cL.lookup c=some a:=hc
  dsimp only at this
  rw[hc] at this;split at this
  ·rename_i c' a' h1 h2;cases h1;exact⟨a',h2,bY this,(xX h2).2⟩
  ·cases this
theorem Vq:dz AS (oL w h mb):=⟨fun _ h=>h,fun _ h=>h,fun _ h=>h,fun _ _ h=>h,fun _ _ h=>h,fun _ _ h=>h⟩
theorem Lr{f a:Nat}(P:Params)(e:fA[f]?=some a):∃pm,gt P a=some (fo f pm (.ref (a-1))):=by
 have hf:f<fA.length:=(dE.mp e).1;have q:=aE (fun l=>l[f]?) (Lq P);simp only[fI,e,wZ] at q
 cases h:(fA.zip HA).zipIdx[f]? with
 |none=>rw[h] at q;cases q
 |some y=>
  rw[h] at q;rw[List.getElem?_zipIdx,ou] at h;obtain⟨z,hz,rfl⟩:=h;rw[List.getElem?_zip_eq_some] at hz
  have:z.1=a:=av (hz.1.symm.trans e)
  simp only[wZ,Option.some.injEq,cP,this] at q;exact⟨_,q⟩
inductive v3(W:Wd)(f:Nat)(fi:mn):Prop
 |mk {a:Addr} {fd:FuncData} {ps:List Str} {body:List Stmt} (ha:W.k6 f=some a) (x:A3 W fi a fd ps body):v3 W f fi
theorem Lb{f:Nat}{fi:mn}(e:fT f=some fi):decide (f<u4)=true∧∃b,w7 f=some b∧⟨(p9 f).map aS,b⟩=fi:=by
 unfold fT at e;split at e
 ·rename_i q;exact⟨q,ou.mp e⟩
 ·exact ao e
theorem Lm(hk:∀b o,(hP w.params).get? b=some o→h.get? b=some o){f:Nat}{fi:mn}(e:fT f=some fi):v3 (oL w h mb) f fi:=by
 obtain⟨hlt,b,hb,e⟩:=Lb e;subst e;have hlt:=c6 hlt;have hlen:u4=fA.length:=by kernel_rfl
 obtain⟨a,ha⟩:∃a,fA[f]?=some a:=⟨_,bh (hlen▸hlt)⟩;obtain⟨pm,ho⟩:=Lr w.params ha;have hc:=dh.mp (codeOk w.params) (a,f) (iR.mpr ⟨f,by rw[List.getElem?_zipIdx,ha];simp⟩)
 obtain⟨hc,hn⟩:=gS.mp hc;have hn:=c6 hn;have hB:=dh.mp Ln f (m7.mpr hlt);unfold Dc at hB;simp only[de,tE,dh,xN,tF,dm,lu,ne_eq] at hB;obtain⟨⟨⟨⟨⟨⟨h1,h2⟩,h3⟩,h4⟩,h5⟩,h6⟩,h7⟩:=hB;refine v3.mk (a:=a) (fd:=⟨(fnAt f).1,(fnAt f).2.1,(fnAt f).2.2.1,.stmts (fnAt f).2.2.2.1,(fnAt f).2.2.2.2,3,[],.none,.none,.none,pm,none,.ref (a-1),.none,0⟩) (ps:=p9 f) (body:=(fnAt f).2.2.2.1) ha ?_;exact {
  obj:=⟨_,hk _ _ (rU hn ho),rfl⟩
  code:=by
   unfold codeB at hc
   dsimp only at hc
   split at hc
   case h_2=>cases hc
   rename_i o h8;split at hc
   case h_2=>cases hc
   rename_i vs h9;split at hc
   case h_2=>cases hc
   rename_i q t h10;refine⟨a-1,o,vs,t,rfl,hk _ _ (rU (bb (nA _ _) hn) h8),h9,?_⟩;rw[h10,bY hc]
  CZ:=rfl
  bind:=fun vals hl=>by
   unfold p9 at h2 hl ⊢;exact Jw h1 h2 hl
  Cq:=rfl
  g:=rfl
  b:=rfl
  co:=h5
  gen:=h6
  kind:=h7
  par:=rfl
  ok:=fun p hp=>gu (h3 p hp).1
  kinds:=fun p hp=>(h3 p hp).2
  free:=fun x q=>h4 _ (mem_of_lookup q) rfl
  run:=fun n=>by
   unfold w7 at hb;exact Rs.get hb Vq}
structure bA(W:Wd):Prop where
 T:W.T=tT
 fn:∀{f n:Nat} {fi:mn} {vs:List V} {H:AH} {Q:V→AH→Prop},fT f=some fi→fi.params.length=vs.length→dc W n fi.body (gw (fun _=>none) fi.params vs) H (HT Q)→Fn W (n+1) f vs H Q
theorem Ud(hk:∀b o,(hP w.params).get? b=some o→h.get? b=some o):bA (oL w h mb):=⟨rfl,fun e hl ev=>let ⟨ha,x⟩:=Lm hk e;Lo ha x hl ev⟩
end
end
noncomputable section
theorem T8:oG=b1++(b2++(b3++(b4++[]))):=by kernel_rfl
theorem Vg(w:World):((boot_heap w.params).isNs mainGlobals&&(Array.mk []:Array GenState).size == 0,(boot_heap w.params).objs.size,(boot_heap w.params).nsMap mainGlobals "__annotations__")=(true,11,kq):=by kernel_rfl
theorem Ub(w:World)(os:OsState):topGo treeTable pg w 11 kq 12 ⟨boot_heap w.params,Array.mk [],boot_drawn,boot_toks,os⟩ (topStub pg)=some ((S0 w os).abs,⟨denote treeTable topC,topC,⟨0,0,0,0⟩,oH⟩):=by kernel_rfl
theorem Jx(w:World)(os:OsState):segRun treeTable pg w 11 kq 1 1 (S0 w os).abs (blockOf oG qD topC ⟨0,0,0,0⟩ oH)=some (.next,(S0 w os).abs,topC,⟨0,0,0,0⟩):=by kernel_rfl
theorem Le(w:World)(os:OsState):topRun treeTable pg w 11 kq 2 (S4 w os).abs ⟨doneF .next,topC,⟨876,0,905,67⟩,oH⟩=some (S4 w os).abs:=by kernel_rfl
theorem T3:opening pg=plainProg pg.main.scope.names:=by kernel_rfl
theorem Lc(s:Shared):fenceModules? pg s=some s:=by kernel_rfl
theorem T2:∀w:World,(fencedOpening treeTable pg w 20000).map (fun s=>(s.heap,s.gens,s.drawn,s.toks))=some (boot_heap w.params,Array.mk [],boot_drawn,boot_toks):=boot_open T3 (by decide) Lc
theorem VJ(w:World)(os:OsState):topRun treeTable pg w 11 kq (12+(1+(1214+(1263+(1386+(957+2)))))) ⟨boot_heap w.params,Array.mk [],boot_drawn,boot_toks,os⟩ (topStub pg)=some (S4 w os).abs:=by
 refine go_top (Ub w os) (piece_block (Jx w os) ?_);rw[T8];exact piece_app (segRun_of (UB w os)) (piece_app (segRun_of (UC w os)) (piece_app (segRun_of (UD w os)) (piece_app (segRun_of (UE w os)) (piece_nil (Le w os)))))
theorem Q5:LeftO rg.row.prog qv jy Bt (fun s=>s.heap) (fun w=>hP w.params) 20000:=by
 refine LeftO.of_pieces (p:=pg) (H₁:=hP) (gs₁:=Array.mk []) (d₁:=boot_drawn) (k₁:=1167) T2 Vg (fun w os=>(VJ w os).trans (aE some (LL w os))) (by decide) fun w=>?_
 funext os
 refine gZ (Ra w os) (gZ ?_ rfl);unfold openSeen openGood;exact gZ (Rf w os) (gZ (Rg w os) (gZ (Rh w os) (gZ (Ri w os) (gZ (Rj w os) (gZ (Rk w os) (gZ (Rl w os) (gZ (Rn w os) (Rc w os))))))))
end
noncomputable section
@[irreducible] noncomputable def nY:DefRec:=⟨"law",(fnAt 81).2.2.1,(fnAt 81).2.2.2.1,(fnAt 81).2.2.2.2,⟨876,0,905,67⟩⟩
theorem NY:defOf qv rg.row.name=some (nY,[]):=by kernel_rfl
theorem We:rg.row.prog.theDef rg.row.name=some (nY.params,nY.body,nY.scope):=by kernel_rfl
theorem QY:kwWritten? nY.params.kwonlyargs nY.params.kw_defaults=some []:=by kernel_rfl
theorem Tn:(chainsOk qv&&opensWell rg.row.prog&&(frees rg.row.toRowW&&rg.row.within.isEmpty))=true:=by kernel_rfl
theorem Jr:rg.row.prog.bare:=⟨rfl,rfl,rfl,rfl,rfl,by decide+kernel⟩
theorem Ue:rg.row.toRowW.promised:=⟨[.list []],by decide+kernel,by decide+kernel⟩
theorem EF{R:WRecords}:∀{xs:List WData},WShape.hasItems R xs .int=true→∃l:List Int,xs=l.map WData.int
 | [],_=>⟨[],rfl⟩
 |x::xs,h=>by
  simp only[WShape.hasItems,de] at h;obtain⟨i,rfl⟩:=hasW_int h.1;obtain⟨l,rfl⟩:=EF h.2;exact⟨i::l,rfl⟩
theorem Im{P:Params}{h:Heap}{μ:Mu}:∀{l:List Int} {vs:List Value},WellAll P h vs (l.map WData.int)→aM μ h (l.map V.int) vs
 | [],vs,x=>by cases x;exact .nil
 |i::l,vs,x=>by
  cases x with
  |cons a r=>
   cases a;exact .cons .e7 (Im r)
theorem Vf{l:List Int}(h:rg.row.pre.holds rg.row.records {args:=[.list (l.map WData.int)]}=true):l.length≤63:=by
 have h1:(WTm.not (.lt (.lit (.int 63)) (.len (.arg 0)))).holds [] {args:=[.list (l.map WData.int)]}=true:=(holds_andW h).1;have hv:(WTm.not (.lt (.lit (.int 63)) (.len (.arg 0)))).value [] {args:=[.list (l.map WData.int)]}=some (.bool (!decide ((63:Int)<((l.map WData.int).length:Int)))):=by kernel_rfl
 have:=condW_of h1 hv
 simp only[aN,tE,decide_eq_false_iff_not] at this;omega
theorem Qy:nY.name="law":=by kernel_rfl
theorem UZ(l:List Int):rg.row.claim.post [.list (l.map WData.int)] (.bool true) [.list (l.map WData.int)]=true:=by kernel_rfl
theorem Qx(P:Params):(mgT P "law" == some (.ref 700)&&fA[81]? == some 700)=true:=by kernel_rfl
theorem PW(hIL:∀{W:Wd},bA W→∀xs:List Int,xs.length≤63→Fn W 200 81 [.lst (xs.map .int)] [] (fun v _=>v=.bool true)):rg.Holds:=by
 refine holds_law Hb fun _=>holds_open (r:=rg.row) (q:=qv) (loose:=jy) (XP:=fun _ _=>True) (YP:=fun w h=>∀b o,(hP w.params).get? b=some o→h.get? b=some o) Q5 (fun w s e b o hb=>by
   have e:s.heap=hP w.params:=e;rw[e];exact hb) (fun w h h' Y k b o e=>k b o (Y b o e)) (fun _ _=>bx) (fun _ _ _ _ _=>bx) NY We QY (fun s _=>recFacts_nil rfl) rfl (row_said Hb) Tn Jr Ue ?_
 intro w s₀ s₁ mg mb G Y a o pm cd doc dV kV ho hd hcd hD hmg hg args vals as hpre hlay hrd hwl hlo;have T:=G.T;have Wk:jO (oL w s₁.heap mb):=Xi Y T.b T.nolimit T.builtins;have hm:mg=mgT w.params:=I6 T.g Wk.g;have h81:=Qx w.params;simp only[de,dm] at h81;have ha:a=700:=by
  have:mgT w.params "law"=some (.ref a):=by rw[←hm,←Qy];exact hmg
  rw[h81.1] at this;cases this;rfl
 subst ha;obtain⟨d,r,rfl,hx,hr⟩:=hasAllW_cons (pre_splitW hpre).1;obtain rfl:=hasAllW_nil hr;obtain⟨xs,rfl,hi⟩:=hasW_list hx;obtain⟨l,rfl⟩:=EF hi;have hlen:=Vf (pre_splitW hpre).2;obtain⟨v,vs',rfl,wv,wr⟩:=wellAll_cons_inv hwl;cases wr
 cases wv with
 |@list b vs _ hb wvs=>
 let μ:Mu:=⟨[],[],fun _=>0⟩
 have N:aW (oL w s₁.heap mb) μ [] s₁.heap:=⟨fun _ _ h=>h,fun _ h=>(nomatch h),dF,fun _ h=>(nomatch h),rfl,fun h=>ao h⟩;have R:Rm callerA 200:=⟨by show 4+20*200+1300<9900;decide,by show 1+300+3*200+2<1000;decide,rfl⟩
 have hvs:aM μ s₁.heap [.lst (l.map .int)] [.ref b]:=.one ⟨rfl,(fun h=>nomatch h),⟨hb⟩,by rw[aN];exact aA hlen (by decide),Im wvs⟩
 refine jf (W:=oL w s₁.heap mb) (xj (hIL (Ud Y) l hlen) h81.2 ⟨Wk,R,N⟩ hvs fun{v H' μ' cv s'} q X r=>?_);subst q;cases (show cv=.bool true from r)
 exact⟨.inl ⟨_,.bool true,[],rfl,fun _=>rfl,.bool true,UZ l,fun _=>⟨dF,fun _ h=>nomatch h⟩⟩,.of_keep X.N.base,X.o,.of_eq (X.g.trans hg)⟩
end
end Mine
end
section
namespace Mine.U
set_option genCtorIdx true in
inductive Tm where
 |v (n:Nat)
 |c (k:Bool) (z:Int)
 |s1 (f:Nat) (x:Tm)
 |s2 (f:Nat) (x y:Tm)
 deriving DecidableEq
noncomputable abbrev Sb:=Nat→Tm
noncomputable def Tm.app(σ:Sb):Tm→Tm
 | .v n=>σ n
 | .c k z=>.c k z
 | .s1 f x=>.s1 f (x.app σ)
 | .s2 f x y=>.s2 f (x.app σ) (y.app σ)
noncomputable def Tm.has(n:Nat):Tm→Prop
 | .v m=>m=n
 | .c _ _=>False
 | .s1 _ x=>x.has n
 | .s2 _ x y=>x.has n∨y.has n
noncomputable def Tm.aU:Tm→Nat
 | .v _=>1
 | .c _ _=>1
 | .s1 _ x=>x.aU+1
 | .s2 _ x y=>x.aU+y.aU+1
noncomputable def Tm.dep:Tm→Nat
 | .v _=>0
 | .c _ _=>0
 | .s1 _ x=>x.dep+1
 | .s2 _ x y=>max x.dep y.dep+1
noncomputable def Tm.bN:Tm→Bool
 | .v _=>true
 |_=>false
section
variable{σ:Sb}{f n m:Nat}{x y:Tm}
theorem ti:(Tm.v n).app σ=σ n:=rfl
theorem CK:(Tm.s1 f x).app σ=.s1 f (x.app σ):=rfl
theorem wz:(Tm.s2 f x y).app σ=.s2 f (x.app σ) (y.app σ):=rfl
theorem NW:(Tm.v m).has n=(m=n):=rfl
theorem NV:(Tm.s2 f x y).has n=(x.has n∨y.has n):=rfl
end
theorem Tm.mZ(t:Tm):0<t.aU:=by cases t<;>exact nB _
theorem vN{f:Nat}{x y z w:Tm}(h:x=z)(k:y=w):Tm.s2 f x y=.s2 f z w:=h▸k▸rfl
theorem app_congr{σ τ:Sb}{t:Tm}:(∀n,t.has n→σ n=τ n)→t.app σ=t.app τ:=by
 induction t with
 |v n=>exact fun h=>h n rfl
 |c=>exact fun _=>rfl
 |s1 f x ih=>exact fun h=>aE (Tm.s1 f) (ih h)
 |s2 f x y i1 i2=>exact fun h=>vN (i1 fun n q=>h n (.inl q)) (i2 fun n q=>h n (.inr q))
theorem nI(t:Tm):t.app .v=t:=by
 induction t with
 |v=>rfl
 |c=>rfl
 |s1 f x ih=>exact aE (Tm.s1 f) ih
 |s2 f x y i1 i2=>exact vN i1 i2
theorem wx{σ:Sb}{t:Tm}(h:∀n,t.has n→σ n=.v n):t.app σ=t:=(app_congr h).trans (nI t)
theorem fP(σ τ:Sb)(t:Tm):(t.app τ).app σ=t.app fun n=>(τ n).app σ:=by
 induction t with
 |v=>rfl
 |c=>rfl
 |s1 f x ih=>exact aE (Tm.s1 f) ih
 |s2 f x y i1 i2=>exact vN i1 i2
theorem LU{α:Type}{p q r:α→Prop}:(∃m,p m∧r m)∨(∃m,q m∧r m)↔∃m,(p m∨q m)∧r m:=⟨fun h=>h.elim (fun⟨m,a,b⟩=>⟨m,.inl a,b⟩) fun⟨m,a,b⟩=>⟨m,.inr a,b⟩,fun⟨m,a,b⟩=>a.elim (fun a=>.inl ⟨m,a,b⟩) fun a=>.inr ⟨m,a,b⟩⟩
theorem mC{σ:Sb}{n:Nat}{t:Tm}:(t.app σ).has n↔∃m,t.has m∧(σ m).has n:=by
 induction t with
 |v m=>exact⟨fun h=>⟨m,rfl,h⟩,fun⟨k,e,h⟩=>e▸h⟩
 |c=>exact⟨False.elim,fun⟨_,h,_⟩=>h⟩
 |s1 f x ih=>exact ih
 |s2 f x y i1 i2=>exact(or_congr i1 i2).trans LU
theorem AL{σ:Sb}{n:Nat}{t:Tm}:t.has n→(σ n).aU≤(t.app σ).aU:=by
 induction t with
 |v m=>exact fun h=>h▸ai _
 |c=>exact False.elim
 |s1 f x ih=>exact fun h=>eI (ih h)
 |s2 f x y i1 i2=>exact fun h=>eI (h.elim (fun h=>aA (i1 h) (aT _ _)) fun h=>aA (i2 h) (b9 _ _))
theorem D2{σ:Sb}{n:Nat}{t:Tm}(h:t.has n)(hv:t≠.v n):(σ n).aU<(t.app σ).aU:=by
 cases t with
 |v m=>exact absurd (aE Tm.v h) hv
 |c=>exact h.elim
 |s1 f x=>exact jI (AL (t:=x) h)
 |s2 f x y=>exact jI (Or.elim h (fun h=>aA (AL h) (aT _ _)) fun h=>aA (AL h) (b9 _ _))
theorem Th{σ:Sb}{n:Nat}{t:Tm}(h:t.has n)(hv:t≠.v n)(e:σ n=t.app σ):False:=eB (D2 h hv) (aE Tm.aU e)
noncomputable abbrev Bd:=List (Nat×Tm)
noncomputable def Bd.at(b:Bd)(n:Nat):Option Tm:=(b.find? fun p=>decide (p.1=n)).map (·.2)
noncomputable def Sat(b:Bd)(σ:Sb):Prop:=∀x t,b.at x=some t→σ x=t.app σ
structure ah(b:Bd)(S:Sb):Prop where
 sol:Sat b S
 id:∀x,b.at x=none→S x=.v x
 mg:∀σ,Sat b σ→∀z,(S z).app σ=σ z
 rank:∃r:Nat→Nat,∀x y,b.at x=some (.v y)→r y<r x
 nd:(b.map (·.1)).Nodup
theorem ah.zI{b:Bd}{S:Sb}(M:ah b S){σ:Sb}(h:Sat b σ)(t:Tm):(t.app S).app σ=t.app σ:=by
 rw[fP];exact app_congr fun n _=>M.mg σ h n
theorem Lg{S:Sb}{m:Nat}{u:Tm}:u.app S=u→u.has m→S m=.v m:=by
 induction u with
 |v k=>exact fun e h=>h▸e
 |c=>exact fun _ h=>h.elim
 |s1 f x ih=>exact fun e h=>ih (Tm.s1.inj e).2 h
 |s2 f x y i1 i2=>exact fun e h=>Or.elim h (i1 (Tm.s2.inj e).2.1) (i2 (Tm.s2.inj e).2.2)
theorem th{σ:Sb}{t:Tm}{m:Nat}(e:t.app σ=.v m):∃k,t=.v k∧σ k=.v m:=by
 cases t with
 |v k=>exact⟨k,rfl,e⟩
 |c=>cases e
 |s1=>cases e
 |s2=>cases e
theorem ah.free{b:Bd}{S:Sb}(M:ah b S){n m:Nat}(h:(S n).has m):b.at m=none:=by
 have h4:=Lg (M.mg S M.sol n) h;obtain⟨r,hr⟩:=M.rank
 have:∀{i k},r k<i→S k=.v m→k=m∨r m<r k:=fun{i}=>by
  induction i with
  |zero=>exact fun h=>nomatch h
  |succ i ih=>
   intro k hk e
   cases q:b.at k with
   |none=>exact .inl (Tm.v.inj ((M.id k q).symm.trans e))
   |some t=>
    obtain⟨j,rfl,hj⟩:=th ((M.sol k t q).symm.trans e);have l:=hr k j q;exact .inr ((ih (bj l (oh hk)) hj).elim (fun e=>e▸l) fun h=>iU h l)
 cases q:b.at m with
 |none=>rfl
 |some t=>
  obtain⟨k,rfl,hk⟩:=th ((M.sol m t q).symm.trans h4);have l:=hr m k q;exact((this (dY _) hk).elim (fun e=>eA _ (e▸l)) fun h=>eA _ (iU h l)).elim
theorem ah.inst{b:Bd}{S:Sb}(M:ah b S)(τ:Sb):Sat b fun n=>(S n).app τ:=by
 intro x t e;show(S x).app τ=_;rw[M.sol x t e,fP]
theorem ah.nil:ah [] .v:=⟨fun x t e=>(by cases e),fun _ _=>rfl,fun σ _ z=>rfl,⟨fun _=>0,fun _ _ e=>(by cases e)⟩,dF⟩
theorem Jj{b:Bd}{n:Nat}(h:b.at n=none):n∉b.map (·.1):=by
 unfold Bd.at at h;rw[Bk,BI] at h;intro q;obtain⟨p,hp,e⟩:=cg.mp q;exact h p hp (a9 e)
theorem lq{b:Bd}{x n:Nat}{t:Tm}(h:b.at x=none):Bd.at (b++[(x,t)]) n=if n=x then some t else b.at n:=by
 show Option.map _ (List.find? _ (b++[(x,t)]))=if n=x then some t else Option.map _ (List.find? _ b)
 rw[List.find?_append];by_cases e:n=x
 ·rw[aG e,e,Bk.mp h,Option.none_or,List.find?_cons_of_pos (p:=fun p:Nat×Tm=>decide (p.1=x)) (a9 rfl)];rfl
 ·rw[aD e,List.find?_cons_of_neg (fun q=>e (c6 q).symm),List.find?_nil,Option.or_none]
noncomputable def one(x:Nat)(t:Tm):Sb:=fun n=>if n=x then t else .v n
section
variable{b:Bd}{S:Sb}{x:Nat}{t:Tm}
theorem p6{n:Nat}(h:n≠x):one x t n=.v n:=aD h
theorem vG:one x t x=t:=aG rfl
theorem Tw{v:Tm}(h:¬v.has x):v.app (one x t)=v:=wx fun n hn=>p6 fun e=>h (e▸hn)
theorem Gp{v:Tm}{n:Nat}(h:(v.app (one x t)).has n):v.has n∨t.has n:=by
 obtain⟨j,h2,h3⟩:=mC.mp h;by_cases e:j=x
 ·exact .inr (by rw[e,vG] at h3;exact h3)
 ·exact .inl (by rw[p6 e] at h3;exact h3▸h2)
theorem AE(hx:b.at x=none){σ:Sb}:Sat (b++[(x,t)]) σ↔Sat b σ∧σ x=t.app σ:=by
 unfold Sat;refine⟨fun h=>⟨fun y u e=>h y u ?_,h x t (by rw[lq hx,aG rfl])⟩,fun⟨h1,h2⟩ y u e=>?_⟩
 ·rw[lq hx,aD]
  ·exact e
  ·exact fun q=>by rw[q,hx] at e;exact nomatch e
 ·rw[lq hx] at e;by_cases q:y=x
  ·rw[aG q] at e;rw[q,←av e];exact h2
  ·rw[aD q] at e;exact h1 y u e
noncomputable def rk(b:Bd)(x:Nat)(r:Nat→Nat)(z:Nat):Nat:=if b.at z=none then(if z=x then 1 else 0) else r z+2
theorem AB{r:Nat→Nat}{z:Nat}(h:b.at z=none):rk b x r z=if z=x then 1 else 0:=aG h
theorem HV{r:Nat→Nat}{z:Nat}(h:b.at z≠none):rk b x r z=r z+2:=aD h
theorem VB{r:Nat→Nat}{z n:Nat}(h:b.at z=none∨r z<n):rk b x r z<n+2:=by
 by_cases q:b.at z=none
 ·rw[AB q];split
  ·exact cI (cI (bW _))
  ·exact nB _
 ·exact HV q▸Nat.add_lt_add_right (h.resolve_left q) 2
theorem ah.bind(M:ah b S)(hx:b.at x=none)(ht:¬(t.app S).has x)(hv:∀y,t=.v y→b.at y=none):
  ah (b++[(x,t)]) (fun n=>(S n).app (one x (t.app S)))∧∀σ,Sat (b++[(x,t)]) σ↔Sat b σ∧σ x=t.app σ:=by
 refine⟨⟨(AE hx).mpr ⟨M.inst _,?_⟩,fun y e=>?_,fun σ h z=>?_,?_,?_⟩,fun σ=>AE hx⟩
 ·rw[M.id x hx,←fP,Tw ht];exact vG
 ·rw[lq hx] at e;by_cases q:y=x
  ·exact nomatch (aG q).symm.trans e
  ·rw[aD q] at e;rw[M.id y e];exact p6 q
 ·obtain⟨h1,h2⟩:=(AE hx).mp h;rw[fP,←M.mg σ h1 z];refine app_congr fun n _=>?_;by_cases q:n=x
  ·rw[q,vG,M.zI h1,h2]
  ·rw[p6 q];rfl
 ·obtain⟨r,hr⟩:=M.rank;refine⟨rk b x r,fun y k e=>?_⟩;rw[lq hx] at e;by_cases q:y=x
  ·rw[aG q] at e;have hk:=hv k (av e);rw[AB hk,AB (q▸hx),aG q,aD]
   ·exact Nat.one_pos
   ·exact fun q=>ht (by rw[av e,ti,M.id k hk];exact q)
  ·rw[aD q] at e;exact HV (x:=x) (r:=r) (fun q=>nomatch e.symm.trans q)▸VB (.inr (hr y k e))
 ·rw[bt,eZ];exact⟨M.nd,ba.mpr ⟨dM,dF⟩,fun a ha c hc e=>Jj hx ((e.trans (a6.mp hc):a=x)▸ha)⟩
end
inductive Walk(b:Bd):Tm→Tm→Prop
 |stop {t:Tm}:(∀n,t=.v n→b.at n=none)→Walk b t t
 |step {n:Nat} {t u:Tm}:b.at n=some t→Walk b t u→Walk b (.v n) u
theorem Walk.sat{b:Bd}{t u:Tm}(w:Walk b t u){σ:Sb}(h:Sat b σ):t.app σ=u.app σ:=by
 induction w with
 |stop=>rfl
 |step e _ ih=>rw[←ih];exact h _ _ e
theorem Walk.free{b:Bd}{t u:Tm}(w:Walk b t u):∀n,u=.v n→b.at n=none:=by
 induction w with
 |stop h=>exact h
 |step _ _ ih=>exact ih
theorem Walk.Gk{b:Bd}{t:Tm}(h:t.bN=false):Walk b t t:=.stop fun n e=>by rw[e] at h;cases h
theorem v_or(t:Tm):(∃n,t=.v n)∨t.bN=false:=by
 cases t with
 |v n=>exact .inl ⟨n,rfl⟩
 |c=>exact .inr rfl
 |s1=>exact .inr rfl
 |s2=>exact .inr rfl
theorem ah.walks{b:Bd}{S:Sb}(M:ah b S)(t:Tm):∃u,Walk b t u:=by
 obtain⟨r,hr⟩:=M.rank;have key:∀{k n:Nat},r n<k→∃u,Walk b (.v n) u:=fun{k}=>by
  induction k with
  |zero=>exact fun h=>nomatch h
  |succ k ih=>
   intro n hn
   cases e:b.at n with
   |none=>exact⟨_,.stop fun m q=>Tm.v.inj q▸e⟩
   |some t=>
    exact(v_or t).elim (fun⟨m,q⟩=>have ⟨u,w⟩:=ih (bj (hr n m (q▸e)) (oh hn));⟨u,.step e (q▸w)⟩) fun h=>⟨t,.step e (.Gk h)⟩
 exact(v_or t).elim (fun⟨m,q⟩=>q▸key (dY (r m))) fun h=>⟨t,.Gk h⟩
theorem Walk.var{b:Bd}{S:Sb}(M:ah b S){t:Tm}{n:Nat}(w:Walk b t (.v n)):t.app S=.v n:=by
 rw[w.sat M.sol];exact M.id n (w.free n rfl)
theorem Walk.vi{b:Bd}{S:Sb}(M:ah b S){t u:Tm}{n:Nat}(w:Walk b t u):u=.v n↔t.app S=.v n:=by
 refine⟨fun e=>Walk.var M (e▸w),fun e=>?_⟩;obtain⟨m,q,h⟩:=th ((w.sat M.sol).symm.trans e);exact q.trans ((M.id m (w.free m q)).symm.trans h)
structure hJ(Q:Tm→Prop):Prop where
 s1:∀f x,Q (.s1 f x)→Q x
 s2:∀f x y,Q (.s2 f x y)→Q x∧Q y
noncomputable def BQ(Q:Tm→Prop)(b:Bd):Prop:=∀p∈b,Q (.v p.1)∧Q p.2
theorem nJ{b:Bd}{n:Nat}{t:Tm}(h:b.at n=some t):(n,t)∈b:=by
 unfold Bd.at at h;obtain⟨p,h1,h2⟩:=ou.mp h;have h3:=List.find?_some (p:=fun p:Nat×Tm=>decide (p.1=n)) h1
 have:=c6 h3
 rw[←this,←h2];exact List.mem_of_find?_eq_some h1
theorem Walk.dA{b:Bd}{t u:Tm}(w:Walk b t u){Q:Tm→Prop}(hb:BQ Q b)(h:Q t):Q u:=by
 induction w with
 |stop=>exact h
 |step e _ ih=>exact ih (hb _ (nJ e)).2
noncomputable def Dir(S:Sb)(s t:Tm)(S':Sb):Prop:=
 (∀x,s.app S=.v x→S'=fun n=>(S n).app (one x (t.app S)))∧∀y,(s.app S).bN=false→t.app S=.v y→S'=fun n=>(S n).app (one y (s.app S))
theorem Tx(x:Nat):one x (.v x)=.v:=by
 funext n
 by_cases h:n=x
 ·rw[h,vG]
 ·exact p6 h
theorem v_not{x:Nat}{t:Tm}{P:Prop}(h:t.bN=false)(e:t=.v x):P:=nomatch (e▸h:(Tm.v x).bN=false)
theorem Dir.same{S:Sb}{s t:Tm}(h:s.app S=t.app S):Dir S s t S:=⟨fun x e=>funext fun n=>by rw[←h,e,Tx,nI],fun y e e'=>v_not e (h.trans e')⟩
theorem Dir.none{S S':Sb}{s t:Tm}(h1:(s.app S).bN=false)(h2:(t.app S).bN=false):Dir S s t S':=⟨fun _=>v_not h1,fun _ _=>v_not h2⟩
theorem Dir.bind{S:Sb}{s t u:Tm}{x:Nat}(hd:(s.app S=.v x∧u.app S=t.app S)∨((s.app S).bN=false∧t.app S=.v x∧u.app S=s.app S)):Dir S s t fun n=>(S n).app (one x (u.app S)):=
 hd.elim (fun h=>⟨fun y e=>by rw[h.2,Tm.v.inj (h.1.symm.trans e)],fun y e _=>v_not e h.1⟩) fun h=>⟨fun y e=>v_not h.1 e,fun y _ e=>by rw[h.2.2,Tm.v.inj (h.2.1.symm.trans e)]⟩
structure Met(b:Bd)(S:Sb)(s t:Tm)(b':Bd)(S':Sb):Prop where
 aw:ah b' S'
 sat:∀σ,Sat b' σ↔Sat b σ∧s.app σ=t.app σ
 pre:b <+:b'
 keys:∀n,b'.at n≠none→b.at n=none→(s.app S).has n∨(t.app S).has n
 dA:∀Q,hJ Q→BQ Q b→Q s→Q t→BQ Q b'
 step:∃D:Sb,(∀n,S' n=(S n).app D)∧(∀n,¬((s.app S).has n∨(t.app S).has n)→D n=.v n)∧∀n m,(s.app S).has n∨(t.app S).has n→(D n).has m→(s.app S).has m∨(t.app S).has m
 dir:Dir S s t S'
noncomputable def eg(b:Bd)(s t:Tm):Prop:=∀σ,Sat b σ→s.app σ≠t.app σ
structure dN(b₀:Bd)(S₀:Sb)(s t:Tm)(b:Bd)(S:Sb)(todo:List (Tm×Tm)):Prop where
 aw:ah b S
 sat:∀σ,(Sat b₀ σ∧s.app σ=t.app σ)↔Sat b σ∧∀p∈todo,p.1.app σ=p.2.app σ
 pre:b₀ <+:b
 keys:∀n,b.at n≠none→b₀.at n=none→(s.app S₀).has n∨(t.app S₀).has n
 dA:∀Q,hJ Q→BQ Q b₀→Q s→Q t→BQ Q b∧∀p∈todo,Q p.1∧Q p.2
 step:∃D:Sb,(∀n,S n=(S₀ n).app D)∧(∀n,¬((s.app S₀).has n∨(t.app S₀).has n)→D n=.v n)∧∀n m,(s.app S₀).has n∨(t.app S₀).has n→(D n).has m→(s.app S₀).has m∨(t.app S₀).has m
 ins:∀p∈todo,∀n,(p.1.app S).has n∨(p.2.app S).has n→(s.app S₀).has n∨(t.app S₀).has n
 dir:(S=S₀∧todo=[(s,t)])∨(todo=[]∧Dir S₀ s t S)∨((s.app S₀).bN=false∧(t.app S₀).bN=false)
theorem dN.start{b:Bd}{S:Sb}(M:ah b S)(s t:Tm):dN b S s t b S [(s,t)] where
 aw:=M
 sat:=fun σ=>and_congr_right' (List.forall_mem_singleton (p:=fun p:Tm×Tm=>p.1.app σ=p.2.app σ) (a:=(s,t))).symm
 pre:=m8
 keys:=fun n h1 h2=>absurd h2 h1
 dA:=fun Q _ hb h1 h2=>⟨hb,List.forall_mem_singleton.mpr ⟨h1,h2⟩⟩
 step:=⟨.v,fun n=>(nI _).symm,fun _ _=>rfl,fun n m h e=>(show n=m from e)▸h⟩
 ins:=List.forall_mem_singleton.mpr fun n h=>h
 dir:=.inl ⟨rfl,rfl⟩
section
variable{b₀ b:Bd}{S₀ S:Sb}{s t one two u w:Tm}{todo:List (Tm×Tm)}
theorem dN.done(m:dN b₀ S₀ s t b S []):Met b₀ S₀ s t b S where
 aw:=m.aw
 sat:=fun σ=>⟨fun h=>(m.sat σ).mpr ⟨h,fun _ m=>nomatch m⟩,fun h=>((m.sat σ).mp h).1⟩
 pre:=m.pre
 keys:=m.keys
 dA:=fun Q h1 h2 h3 h4=>(m.dA Q h1 h2 h3 h4).1
 step:=m.step
 dir:=m.dir.elim (fun h=>nomatch h.2) fun h=>h.elim (·.2) fun h=>.none h.1 h.2
theorem Dir.next{S':Sb}(h:(S=S₀∧(one,two)::todo=[(s,t)])∨((one,two)::todo=[]∧Dir S₀ s t S)∨((s.app S₀).bN=false∧(t.app S₀).bN=false)):(Dir S one two S'→(S'=S₀∧todo=[(s,t)])∨(todo=[]∧Dir S₀ s t S')∨((s.app S₀).bN=false∧(t.app S₀).bN=false))∧((one.app S).bN=false→(two.app S).bN=false→(s.app S₀).bN=false∧(t.app S₀).bN=false):=by
 rcases h with ⟨rfl,e⟩|h|h
 ·cases e;exact⟨fun h=>.inr (.inl ⟨rfl,h⟩),.intro⟩
 ·exact nomatch h.1
 ·exact⟨fun _=>.inr (.inr h),fun _ _=>h⟩
theorem D7{A B C D E:Prop}(e:A↔B∧C∧D)(h:B→(C↔E)):A↔(B∧E)∧D:=⟨fun a=>have z:=e.mp a;⟨⟨z.1,(h z.1).mp z.2.1⟩,z.2.2⟩,fun⟨⟨b,c⟩,d⟩=>e.mpr ⟨b,(h b).mpr c,d⟩⟩
theorem dN.vP(m:dN b₀ S₀ s t b S ((one,two)::todo))(σ:Sb):(Sat b₀ σ∧s.app σ=t.app σ)↔Sat b σ∧one.app σ=two.app σ∧∀p∈todo,p.1.app σ=p.2.app σ:=(m.sat σ).trans (and_congr_right' List.forall_mem_cons)
theorem dN.skip(m:dN b₀ S₀ s t b S ((one,two)::todo))(h:∀σ,Sat b σ→one.app σ=two.app σ):dN b₀ S₀ s t b S todo where
 aw:=m.aw
 sat:=fun σ=>⟨fun a=>have z:=(m.vP σ).mp a;⟨z.1,z.2.2⟩,fun z=>(m.vP σ).mpr ⟨z.1,h σ z.1,z.2⟩⟩
 pre:=m.pre
 keys:=m.keys
 dA:=fun Q h1 h2 h3 h4=>⟨(m.dA Q h1 h2 h3 h4).1,fun p hp=>(m.dA Q h1 h2 h3 h4).2 p (.tail _ hp)⟩
 step:=m.step
 ins:=fun p hp=>m.ins p (.tail _ hp)
 dir:=(Dir.next m.dir).1 (.same (h _ m.aw.sol))
theorem dN.bound(m:dN b₀ S₀ s t b S ((one,two)::todo)){x:Nat}(h1:∀σ,Sat b σ→(one.app σ=two.app σ↔σ x=u.app σ))(hx:b.at x=none)(hu:∀y,u=.v y→b.at y=none)(hn:¬(u.app S).has x)
  (hin:∀n,n=x∨(u.app S).has n→(one.app S).has n∨(two.app S).has n) (hq:∀Q,hJ Q→BQ Q b→Q one→Q two→Q (.v x)∧Q u)
  (hd:(one.app S=.v x∧u.app S=two.app S)∨((one.app S).bN=false∧two.app S=.v x∧u.app S=one.app S)):dN b₀ S₀ s t (b++[(x,u)]) (fun n=>(S n).app (Mine.U.one x (u.app S))) todo:=by
 have hb:=m.aw.bind hx hn hu;have hin':∀n,n=x∨(u.app S).has n→(s.app S₀).has n∨(t.app S₀).has n:=fun n h=>m.ins _ (.head _) n (hin n h);have step:∀{v:Tm} {n},(v.app fun n=>(S n).app (Mine.U.one x (u.app S))).has n→(v.app S).has n∨(u.app S).has n:=fun{v n} h=>Gp (fP (Mine.U.one x (u.app S)) S v▸h);refine⟨hb.1,fun σ=>(D7 (m.vP σ) (h1 σ)).trans (and_congr_left' (hb.2 σ).symm),m.pre.trans (oe _ _),fun n q q0=>?_,fun Q h1 h2 h3 h4=>?_,?_,fun p hp n h=>?_,(Dir.next m.dir).1 (Dir.bind hd)⟩
 ·rw[lq hx] at q;by_cases e:n=x
  ·exact hin' n (.inl e)
  ·rw[aD e] at q;exact m.keys n q q0
 ·have z:=m.dA Q h1 h2 h3 h4;have y:=z.2 _ (.head _);exact⟨fun p hp=>(b6.mp hp).elim (z.1 p) fun hp=>(a6.mp hp).symm▸hq Q h1 z.1 y.1 y.2,fun p hp=>z.2 p (.tail _ hp)⟩
 ·obtain⟨D,d1,d2,d3⟩:=m.step;refine⟨fun n=>(D n).app (Mine.U.one x (u.app S)),fun n=>(aE _ (d1 n)).trans (fP _ _ _),fun n q=>?_,fun n k q h=>(Gp h).elim (d3 n k q) fun h=>hin' k (.inr h)⟩;show(D n).app _=_;rw[d2 n q];exact p6 fun e=>q (hin' _ (.inl e))
 ·exact h.elim (fun h=>(step h).elim (fun h=>m.ins p (.tail _ hp) n (.inl h)) fun h=>hin' n (.inr h)) fun h=>(step h).elim (fun h=>m.ins p (.tail _ hp) n (.inr h)) fun h=>hin' n (.inr h)
theorem dN.parts(m:dN b₀ S₀ s t b S ((one,two)::todo)){ps:List (Tm×Tm)}(h:∀σ,Sat b σ→(one.app σ=two.app σ↔∀p∈ps,p.1.app σ=p.2.app σ))
  (hin:∀p∈ps,∀n,(p.1.app S).has n∨(p.2.app S).has n→(one.app S).has n∨(two.app S).has n) (hq:∀Q,hJ Q→BQ Q b→Q one→Q two→∀p∈ps,Q p.1∧Q p.2) (h1:(one.app S).bN=false) (h2:(two.app S).bN=false):dN b₀ S₀ s t b S (ps++todo) where
 aw:=m.aw
 sat:=fun σ=>(D7 (m.vP σ) (h σ)).trans (and_assoc.trans (and_congr_right' List.forall_mem_append.symm))
 pre:=m.pre
 keys:=m.keys
 dA:=fun Q h1 h2 h3 h4=>
  have z:=m.dA Q h1 h2 h3 h4;have y:=z.2 _ (.head _)
  ⟨z.1,fun p hp=>(b6.mp hp).elim (hq Q h1 z.1 y.1 y.2 p) fun hp=>z.2 p (.tail _ hp)⟩
 step:=m.step
 ins:=fun p hp n h=>(b6.mp hp).elim (fun hp=>m.ins _ (.head _) n (hin p hp n h)) fun hp=>m.ins p (.tail _ hp) n h
 dir:=.inr (.inr ((Dir.next (S':=S) m.dir).2 h1 h2))
theorem dN.fails(m:dN b₀ S₀ s t b S ((one,two)::todo))(h:∀σ,Sat b σ→one.app σ≠two.app σ):eg b₀ s t:=fun σ a e=>by
 obtain⟨q,r⟩:=(m.sat σ).mp ⟨a,e⟩;exact h σ q (r _ (.head _))
end
noncomputable def bL(tb:List Nat):Tm→Tm×List Nat
 | .v n=>if n∈tb then(.v (tb.idxOf n),tb) else(.v tb.length,tb++[n])
 | .c k z=>(.c k z,tb)
 | .s1 f x=>(.s1 f (bL tb x).1,(bL tb x).2)
 | .s2 f x y=>(.s2 f (bL tb x).1 (bL (bL tb x).2 y).1,(bL (bL tb x).2 y).2)
noncomputable def bB(tb:List Nat):List Tm→List Tm×List Nat
 | []=>([],tb)
 |t::ts=>((bL tb t).1::(bB (bL tb t).2 ts).1,(bB (bL tb t).2 ts).2)
noncomputable def iw(ts:List Tm):List Tm:=(bB [] ts).1
noncomputable def bG(ts:List Tm):List Nat:=(bB [] ts).2
section
variable{tb:List Nat}{n f:Nat}{x y:Tm}{ts:List Tm}
theorem iv:bL tb (.v n)=if n∈tb then(.v (tb.idxOf n),tb) else(.v tb.length,tb++[n]):=rfl
end
structure eX(τ ω:Sb)(tb tb':List Nat):Prop where
 to:tb.map τ=tb'.map .v
 back:tb'.map ω=tb.map .v
section
variable{τ ω:Sb}{tb tb':List Nat}{a b:Nat}
theorem eX.len(C:eX τ ω tb tb'):tb.length=tb'.length:=aN (f:=τ)▸(aE List.length C.to).trans (aN _)
theorem eX.at_(C:eX τ ω tb tb')(i a b:Nat)(h1:tb[i]?=some a)(h2:tb'[i]?=some b):τ a=.v b:=by
 have e:=aE (·[i]?) C.to;rw[fI,fI,h1,h2] at e;exact av e
theorem eX.nil:eX τ ω [] []:=⟨rfl,rfl⟩
theorem eX.mem(C:eX τ ω tb tb')(h1:τ a=.v b)(h:a∈tb):b∈tb':=by
 have m:=qm (f:=τ) h;rw[C.to,h1] at m;exact let ⟨_,m,e⟩:=cg.mp m;Tm.v.inj e▸m
theorem eX.snoc(C:eX τ ω tb tb')(h1:τ a=.v b)(h2:ω b=.v a):eX τ ω (tb++[a]) (tb'++[b]):=⟨by rw[bt,bt,C.to];exact aE (tb'.map Tm.v++[·]) h1,by rw[bt,bt,C.back];exact aE (tb.map Tm.v++[·]) h2⟩
theorem Nm(h1:τ a=.v b)(h2:ω b=.v a):∀{tb':List Nat},tb.map τ=tb'.map .v→tb'.map ω=tb.map .v→tb.idxOf a=tb'.idxOf b:=by
 induction tb with
 |nil=>
  intro tb' e _
  cases tb' with
  |nil=>rfl
  |cons=>exact nomatch e
 |cons x tb ih=>
  intro tb' e e'
  cases tb' with
  |nil=>exact nomatch e
  |cons y tb'=>
   have p:=oV e;have p':=oV e';have q:(x == a)=(y == b):=mi.mpr ⟨fun z=>dm.mpr (Tm.v.inj (p.1.symm.trans (dm.mp z▸h1))),fun z=>dm.mpr (Tm.v.inj (p'.1.symm.trans (dm.mp z▸h2)))⟩;rw[List.idxOf_cons,List.idxOf_cons,ih p.2 p'.2,q]
theorem RN{u:Tm}:∀{tb tb':List Nat},(u.app τ).app ω=u→eX τ ω tb tb'→(bL tb u).1=(bL tb' (u.app τ)).1∧eX τ ω (bL tb u).2 (bL tb' (u.app τ)).2:=by
 induction u with
 |v a=>
  intro tb tb' h C;obtain⟨b,e,h2⟩:=th h;rw[ti,show τ a=.v b from e,iv,iv]
  by_cases q:a∈tb
  ·rw[aG q,aG (C.mem e q)];exact⟨aE Tm.v (Nm e h2 C.to C.back),C⟩
  ·rw[aD q,aD fun r=>q (eX.mem ⟨C.back,C.to⟩ h2 r)];exact⟨aE Tm.v C.len,C.snoc e h2⟩
 |c=>exact fun _ C=>⟨rfl,C⟩
 |s1 f x ih=>exact fun h C=>have z:=ih (Tm.s1.inj h).2 C;⟨aE (Tm.s1 f) z.1,z.2⟩
 |s2 f x y i1 i2=>exact fun h C=>have z:=i1 (Tm.s2.inj h).2.1 C;have w:=i2 (Tm.s2.inj h).2.2 z.2;⟨vN z.1 w.1,w.2⟩
theorem RG{us:List Tm}:∀{tb tb':List Nat},(us.map (Tm.app τ)).map (Tm.app ω)=us→eX τ ω tb tb'→(bB tb us).1=(bB tb' (us.map (Tm.app τ))).1∧eX τ ω (bB tb us).2 (bB tb' (us.map (Tm.app τ))).2:=by
 induction us with
 |nil=>exact fun _ C=>⟨rfl,C⟩
 |cons u us ih=>exact fun h C=>have h:=oV h;have z:=RN h.1 C;have w:=ih h.2 z.2;⟨List.cons_eq_cons.mpr ⟨z.1,w.1⟩,w.2⟩
end
theorem pY{t:Tm}{n:Nat}:∀{tb:List Nat},n∈(bL tb t).2↔n∈tb∨t.has n:=by
 induction t with
 |v m=>
  intro tb;rw[iv];by_cases h:m∈tb
  ·rw[aG h];exact⟨.inl,fun q=>q.elim id fun q=>(show m=n from q)▸h⟩
  ·rw[aD h,b6,a6,NW,eq_comm]
 |c=>exact⟨.inl,fun h=>h.elim id False.elim⟩
 |s1 f x ih=>exact ih
 |s2 f x y i1 i2=>exact i2.trans ((or_congr_left i1).trans or_assoc)
theorem LS{α:Type}{p:α→Prop}{a:α}{l:List α}:p a∨(∃x∈l,p x)↔∃x∈a::l,p x:=⟨fun h=>h.elim (fun h=>⟨a,.head _,h⟩) fun⟨x,m,h⟩=>⟨x,.tail _ m,h⟩,fun⟨x,m,h⟩=>(a8.mp m).elim (fun e=>.inl (e▸h)) fun m=>.inr ⟨x,m,h⟩⟩
theorem mG{ts:List Tm}{n:Nat}:∀{tb:List Nat},n∈(bB tb ts).2↔n∈tb∨∃t∈ts,t.has n:=by
 induction ts with
 |nil=>exact⟨.inl,fun h=>h.elim id fun⟨_,m,_⟩=>nomatch m⟩
 |cons t ts ih=>exact ih.trans ((or_congr_left pY).trans (or_assoc.trans (or_congr_right LS)))
theorem JY{σ π:Sb}{n:Nat}{t:Tm}:t.app σ=t.app π→t.has n→σ n=π n:=by
 induction t with
 |v m=>exact fun e h=>h▸e
 |c=>exact fun _ h=>h.elim
 |s1 f x ih=>exact fun e h=>ih (Tm.s1.inj e).2 h
 |s2 f x y i1 i2=>exact fun e h=>Or.elim h (i1 (Tm.s2.inj e).2.1) (i2 (Tm.s2.inj e).2.2)
theorem map_inj{σ π:Sb}{n:Nat}{ts:List Tm}(h:n∈bG ts)(e:ts.map (Tm.app σ)=ts.map (Tm.app π)):σ n=π n:=
 have ⟨_,m,hn⟩:=(mG.mp h).resolve_left dM
 JY (List.map_inj_left.mp e _ m) hn
set_option genSizeOf false
set_option genInjectivity false
noncomputable abbrev Place:=Nat×Nat
noncomputable abbrev tP(n:Nat):Place:=(116,n)
noncomputable abbrev yP(n:Nat):Place:=(121,n)
noncomputable abbrev aP(n:Nat):Place:=(97,n)
inductive ak where
 |getVar (p q:Place)|il (p q:Place)|jR (k:Bool) (z:Int) (q:Place)|pP (q:Place)|pQ (f:Nat) (q:Place)
 |gQ (p:Place)|kN (p:Place)|kO (p:Place)|i5 (k:Bool) (z:Int)|iO (n:Nat)
 |putStr (f:Nat) (q:Place)|ja (p:Place)|kE (p:Place)|iK (p q:Place)
 |alloc (n:Nat)|hV|call (f:Nat) (n:Nat)|exec (f:Nat)
structure Pl where
 void:Nat→Bool
 perm:Nat→Bool
 slot:Nat→Nat
structure Cs where
 seen:List Nat
 loc:List Nat
 nt:Nat
noncomputable abbrev Wr:=List ak×Cs
noncomputable section
variable(pl:Pl)
noncomputable def place(k:Nat):Place:=if pl.perm k=true then yP (pl.slot k) else tP k
noncomputable def add(l:List Nat)(k:Nat):List Nat:=if k∈l then l else l++[k]
noncomputable def Cs.lM(c:Cs)(k:Nat):Cs:={c with seen:=add c.seen k}
noncomputable def Cs.pZ(c:Cs)(k:Nat):Cs:={c with loc:=add c.loc k}
noncomputable def Cs.iN(c:Cs):Cs:={c with nt:=c.nt+1}
noncomputable def bQ:Tm→Bool
 | .s1 _ _=>true
 | .s2 _ _ _=>true
 |_=>false
noncomputable def bT:Tm→List Tm
 | .s1 _ x=>[x]
 | .s2 _ x y=>[x,y]
 |_=>[]
noncomputable def fnOf:Tm→Nat
 | .s1 f _=>f
 | .s2 f _ _=>f
 |_=>0
noncomputable def k8(f:Nat)(r:Place):ak:=if f=0 then .pP r else .pQ f r
noncomputable def jz(k:Nat)(c:Cs):Wr:=
 if k∈c.seen then(if k∈c.loc then([.kN (place pl k)],c) else([.kO (place pl k)],c)) else([.gQ (place pl k)],c.lM k)
noncomputable def gJ(n:Nat):List ak:=if n=0 then[] else[.iO n]
noncomputable def jv:Tm→Bool
 | .v k=>pl.void k
 |_=>false
noncomputable def iH(t:Tm)(c:Cs):Wr:=match t with
 | .v k=>jz pl k c
 | .c b z=>([.i5 b z],c)
 |_=>([],c)
noncomputable def bo:List Tm→Nat→Cs→List ak×Cs×List (Tm×Place)
 | [],n,c=>(gJ n,c,[])
 |t::as,n,c=>if bQ t=true then(gJ n++.gQ (tP c.nt)::(bo as 0 c.iN).1,(bo as 0 c.iN).2.1,(t,tP c.nt)::(bo as 0 c.iN).2.2)
  else if jv pl t=true then bo as (n+1) c
  else(gJ n++((iH pl t c).1++(bo as 0 (iH pl t c).2).1),(bo as 0 (iH pl t c).2).2)
noncomputable def jT:Nat→List (Tm×Place)→Cs→Wr
 |0,_,c=>([],c)
 |_+1,[],c=>([],c)
 |n+1,(t,r)::q,c=>
   let w:=bo pl (bT t) 0 c
   let o:=jT n (q++w.2.2) w.2.1
   (k8 (fnOf t) r::w.1++o.1,o.2)
noncomputable def ng(t:Tm)(r:Place)(c:Cs):Wr:=jT pl t.aU [(t,r)] c
noncomputable def iq(t:Tm)(q:Place)(c:Cs):Wr:=match t with
 | .v k=>if pl.void k=true then([],c) else if k∈c.seen then([.il (place pl k) q],c) else([.getVar (place pl k) q],(c.lM k).pZ k)
 | .c b z=>([.jR b z q],c)
 |t=>ng pl t q c
noncomputable def gL:List Tm→Nat→Cs→Wr
 | [],_,c=>([],c)
 |t::ts,n,c=>
   let w:=iq pl t (aP n) c
   let r:=gL ts (n+1) w.2
   (w.1++r.1,r.2)
noncomputable def iy(k:Nat)(c:Cs):Wr:=
 if k∈c.loc then([.ja (place pl k)],if pl.perm k=true then c else {c with loc:=c.loc.filter (· != k)}) else([.kE (place pl k)],c)
noncomputable def b5:Tm→Nat
 | .v k=>k
 | .s1 _ x=>b5 x
 |_=>0
noncomputable def lB(t:Tm)(n:Nat)(c:Cs):Wr:=if bQ t=true then(.putStr 32 (aP n)::(iy pl (b5 t) c).1,(iy pl (b5 t) c).2) else([.iK (place pl (b5 t)) (aP n)],c)
noncomputable def gp:List Tm→Nat→Cs→Wr
 | [],_,c=>([],c)
 |t::ts,n,c=>
   let w:=lB pl t n c
   let r:=gp ts (n+1) w.2
   (w.1++r.1,r.2)
end
noncomputable abbrev Ev:=Nat×List Tm
structure FS where
 b:Bd
 hold:Place→Option Tm
 loose:List Nat
 rest:List Tm
 aI:Nat
 living:Int
 evs:List Ev
 kept:List Tm
noncomputable def pt(h:Place→Option Tm)(p:Place)(t:Tm):Place→Option Tm:=fun q=>if q=p then some t else h q
noncomputable def ar(f:Nat):Nat:=if f=32 then 1 else 2
noncomputable def cC(f n:Nat):Tm:=if f=32 then .s1 f (.v (n+1)) else .s2 f (.v (n+1)) (.v (n+2))
noncomputable def ix(names:List Nat)(n:Nat)(picks:List Nat):Option Nat:=if names≠[]∧0<(picks[n % picks.length]?).getD 0 then names[(picks[n % picks.length]?).getD 0 % names.length]? else none
noncomputable def w4(b:Bd)(n:Nat)(o:Option Nat):Bd:=Option.rec (motive:=fun _=>Bd) b (fun x=>b++[(x,.c false (700+(n:Int)))]) o
noncomputable def event(b:Bd)(S:Sb)(f:Nat)(ts:List Tm)(evs:List Ev)(picks:List Nat):Bd×List Ev:=(w4 b (evs.length+1) (ix (bG (ts.map (Tm.app S))) (evs.length+1) picks),evs++[(f,iw (ts.map (Tm.app S)))])
noncomputable def ir(living:Int)(p:Place):Bool:=decide (p.1=121∧(p.2:Int)≤living)
noncomputable def mB(F:FS)(S:Sb)(parts:List Tm)(f:Nat)(living:Int)(picks:List Nat):FS:=
 let e:=event F.b S f parts F.evs picks
 {F with hold:=fun p=>if ir living p=true then F.hold p else none,living:=living,kept:=F.kept++parts,b:=e.1,evs:=e.2}
noncomputable def fk(S:Sb)(parts:List Tm):Prop:=∀t∈parts,(t.app S).dep≤150
noncomputable def Tm.WT:Tm→Prop
 | .s1 f x=>f=32∧x.WT
 | .s2 f x y=>(f=0∨f=33)∧x.WT∧y.WT
 |_=>True
structure af(n:Nat)(t:Tm):Prop where
 lo:∀x,t.has x→x≤n
 wt:t.WT
 dp:t.dep≤100
structure Rules(R:List ak→FS→Prop)(Fl:List Ev→Prop)(Dn:FS→Prop)(sig:Nat→Nat)(picks:List Nat):Prop where
 getVar:∀{F is p q t},F.rest=[]→F.hold q=some t→af F.aI t→R is {F with hold:=pt F.hold p t}→R (.getVar p q::is) F
 il:∀{F is p q t u t' u' S},F.rest=[]→F.hold p=some t→F.hold q=some u→Walk F.b t t'→Walk F.b u u'→ah F.b S→BQ (af F.aI) F.b→af F.aI t'→af F.aI u'→
  (∀{s1 s2},(s1=u'∧s2=t'∧(∃x,u'=.v x∧x∈F.loose))∨(s1=t'∧s2=u'∧∀x,u'=.v x→x∈F.loose→∃y,t'=.v y∧y∈F.loose)→(∀{b' S'},Met F.b S s1 s2 b' S'→R is {F with b:=b'})∧(eg F.b s1 s2→Fl F.evs))→R (.il p q::is) F
 jR:∀{F is k z q t S},F.rest=[]→F.hold q=some t→ah F.b S→BQ (af F.aI) F.b→af F.aI t→(∀{b' S'},Met F.b S t (.c k z) b' S'→R is {F with b:=b'})→(eg F.b t (.c k z)→Fl F.evs)→R (.jR k z q::is) F
 Dy:∀{F is f q t n S},F.rest=[]→F.hold q=some t→Walk F.b t (.v n)→ah F.b S→BQ (af F.aI) F.b→af F.aI t→(f=32∨f=0∨f=33)→R is {F with b:=F.b++[(n,cC f F.aI)],rest:=bT (cC f F.aI),aI:=F.aI+ar f}→R (k8 f q::is) F
 Dx:∀{F is f q t u S},F.rest=[]→F.hold q=some t→Walk F.b t u→ah F.b S→BQ (af F.aI) F.b→af F.aI t→(f=32∨f=0∨f=33)→bQ u=true→fnOf u=f→R is {F with rest:=bT u,aI:=F.aI+ar f}→R (k8 f q::is) F
 Dw:∀{F is f q t u S},F.rest=[]→F.hold q=some t→Walk F.b t u→ah F.b S→BQ (af F.aI) F.b→af F.aI t→(f=32∨f=0∨f=33)→u.bN=false→¬(bQ u=true∧fnOf u=f)→Fl F.evs→R (k8 f q::is) F
 gQ:∀{F is p t r},F.rest=t::r→af F.aI t→R is {F with hold:=pt F.hold p t,rest:=r}→R (.gQ p::is) F
 i5:∀{F is k z t r S},F.rest=t::r→ah F.b S→BQ (af F.aI) F.b→af F.aI t→(∀{b' S'},Met F.b S t (.c k z) b' S'→R is {F with b:=b',rest:=r})→(eg F.b t (.c k z)→Fl F.evs)→R (.i5 k z::is) F
 iO:∀{F is n},F.rest≠[]→n≤F.rest.length→R is {F with rest:=F.rest.drop n}→R (.iO n::is) F
 val:∀{F is p t u x r S} {i:Place→ak},i=.kO∨i=.kE→F.rest=x::r→F.hold p=some t→Walk F.b t u→(∀n,u=.v n→n∉F.loose)→ah F.b S→BQ (af F.aI) F.b→af F.aI t→af F.aI u→af F.aI x→(∀{b' S'},Met F.b S x u b' S'→R is {F with b:=b',rest:=r})→(eg F.b x u→Fl F.evs)→R (i p::is) F
 loc:∀{F is p t u x r S} {i:Place→ak},i=.kN∨i=.ja→F.rest=x::r→F.hold p=some t→Walk F.b t u→ah F.b S→BQ (af F.aI) F.b→af F.aI t→af F.aI u→af F.aI x→(∀{b' S'},Met F.b S x u b' S'→R is {F with b:=b',rest:=r,loose:=F.loose.filter fun n=>decide (u≠.v n)})→(eg F.b x u→Fl F.evs)→R (i p::is) F
 putStr:∀{F is q},F.rest=[]→R is {F with hold:=pt F.hold q (.s1 32 (.v (F.aI+1))),rest:=[.v (F.aI+1)],aI:=F.aI+1}→R (.putStr 32 q::is) F
 iK:∀{F is p q t},F.rest=[]→F.hold p=some t→af F.aI t→R is {F with hold:=pt F.hold q t}→R (.iK p q::is) F
 hV:∀{F is},F.rest=[]→R is {F with living:=-1}→R (.hV::is) F
 call:∀{F is f parts S} {n:Nat},F.rest=[]→sig f=parts.length∧parts.length≤100→(∀i t,parts[i]?=some t→F.hold (aP (i+1))=some t∧af F.aI t)→(n:Int)≤F.living→ah F.b S→BQ (af F.aI) F.b→fk S parts→R is (mB F S parts f n picks)→R (.call f n::is) F
 exec:∀{F f parts S},F.rest=[]→sig f=parts.length∧parts.length≤100→(∀i t,parts[i]?=some t→F.hold (aP (i+1))=some t∧af F.aI t)→F.living=-1→ah F.b S→BQ (af F.aI) F.b→fk S parts→Dn (mB F S parts f (-1) picks)→R [.exec f] F
theorem yL(n:Nat):hJ (af n):=⟨fun f x h=>⟨h.lo,h.wt.2,fK h.dp⟩,fun f x y h=>
 have e:max x.dep y.dep≤100:=fK h.dp
 ⟨⟨fun z q=>h.lo z (.inl q),h.wt.2.1,aA (iS _ _) e⟩,⟨fun z q=>h.lo z (.inr q),h.wt.2.2,aA (iT _ _) e⟩⟩⟩
theorem af.mono{n m:Nat}{t:Tm}(h:af n t)(l:n≤m):af m t:=⟨fun x q=>aA (h.lo x q) l,h.wt,h.dp⟩
theorem af.v{n k:Nat}(h:k≤n):af n (.v k):=⟨fun _ e=>e▸h,bx,bW _⟩
theorem af.c{n:Nat}{k:Bool}{z:Int}:af n (.c k z):=⟨fun _ e=>e.elim,bx,bW _⟩
theorem fc{t:Tm}(h:t.bN=true){P:Prop}(k:∀n,t=.v n→P):P:=by
 cases t with
 |v n=>exact k n rfl
 |_=>exact(ax h).elim
noncomputable def NL(S:Sb)(L:List Nat)(t:Tm):Prop:=∀x,(t.app S).has x→x∉L
noncomputable def NI(S:Sb)(L:List Nat)(t:Tm):Prop:=(t.app S).bN=true∨NL S L t
structure Ok(F:FS)(S:Sb):Prop where
 aw:ah F.b S
 cX:BQ (af F.aI) F.b
 low:∀x∈F.loose,x≤F.aI
structure Mo(F:FS)(S:Sb)(F':FS)(S':Sb):Prop where
 ok:Ok F' S'
 sp:F.aI≤F'.aI
 nl:∀{t},af F.aI t→NL S F.loose t→NL S' F'.loose t
 ni:∀{t},af F.aI t→NI S F.loose t→NI S' F'.loose t
 fx:F'.evs=F.evs∧F'.living=F.living∧F'.kept=F.kept
section
variable{F F' F2:FS}{S S' S2 D:Sb}{L:List Nat}{t u s T:Tm}{b':Bd}{r:List Tm}{h:Place→Option Tm}{n x:Nat}
theorem Ok.same(O:Ok F S):Mo F S {F with hold:=h,rest:=r} S:=⟨⟨O.aw,O.cX,O.low⟩,ai _,fun _ q=>q,fun _ q=>q,rfl,rfl,rfl⟩
theorem Mo.trans(a:Mo F S F' S')(b:Mo F' S' F2 S2):Mo F S F2 S2:=⟨b.ok,aA a.sp b.sp,fun i q=>b.nl (i.mono a.sp) (a.nl i q),fun i q=>b.ni (i.mono a.sp) (a.ni i q),b.fx.1.trans a.fx.1,b.fx.2.1.trans a.fx.2.1,b.fx.2.2.trans a.fx.2.2⟩
noncomputable def oR(L:List Nat)(D:Sb):Prop:=∀n,D n=.v n∨(∀x,(D n).has x→x∉L)∨(n∈L∧(D n).bN=true)
theorem oR.nl(hd:oR L D)(hS:∀n,S' n=(S n).app D)(h:NL S L u):NL S' L u:=fun x hx=>by
 rw[show S'=fun n=>(S n).app D from funext hS,←fP] at hx
 obtain⟨n,h1,h2⟩:=mC.mp hx;rcases hd n with e|e|e
 ·rw[e] at h2;exact(show n=x from h2)▸h n h1
 ·exact e x h2
 ·exact absurd e.1 (h n h1)
theorem oR.ni(hd:oR L D)(hS:∀n,S' n=(S n).app D)(h:NI S L u):NI S' L u:=h.elim (fun q=>fc q fun n e=>by
 have e2:u.app S'=D n:=by rw[show S'=fun n=>(S n).app D from funext hS,←fP,e];rfl
 unfold NI NL;rw[e2];exact(hd n).elim (fun e=>.inl (by rw[e];rfl)) fun e=>e.elim .inr fun e=>.inl e.2) fun q=>.inr (hd.nl hS q)
theorem Gn{y:Nat}{w:Tm}(h:(∀x,w.has x→x∉L)∨(y∈L∧w.bN=true)):oR L (one y w):=fun n=>by
 unfold one;by_cases e:n=y
 ·rw[aG e];exact .inr (h.imp id fun q=>⟨e▸q.1,q.2⟩)
 ·rw[aD e];exact .inl rfl
noncomputable def Way(S:Sb)(L:List Nat)(s t:Tm):Prop:=(NL S L s∧NL S L t)∨∃x,s.app S=.v x∧x∈L∧NI S L t
theorem Met.K7(M:Met F.b S s t b' S')(w:Way S L s t):∃D,oR L D∧∀n,S' n=(S n).app D:=by
 rcases w with ⟨h1,h2⟩|⟨x,h1,h2,h3⟩
 ·obtain⟨D,d1,d2,d3⟩:=M.step;refine⟨D,fun n=>?_,d1⟩;by_cases q:(s.app S).has n∨(t.app S).has n
  ·exact .inr (.inl fun x hx=>(d3 n x q hx).elim (h1 x) (h2 x))
  ·exact .inl (d2 n q)
 ·exact⟨_,Gn (h3.elim (fun q=>.inr ⟨h2,q⟩) .inl),congrFun (M.dir.1 x h1)⟩
theorem Met.mo(O:Ok F S)(M:Met F.b S s t b' S')(hs:af F.aI s)(ht:af F.aI t)(w:Way S F.loose s t):Mo F S {F with b:=b',rest:=r} S':=by
 obtain⟨D,hd,e⟩:=M.K7 w;exact⟨⟨M.aw,M.dA _ (yL _) O.cX hs ht,O.low⟩,ai _,fun _=>hd.nl e,fun _=>hd.ni e,rfl,rfl,rfl⟩
theorem Ok.pop(O:Ok F S){f:Nat→Bool}:Mo F S {F with loose:=F.loose.filter f} S:=⟨⟨O.aw,O.cX,fun x m=>O.low x (fz.mp m).1⟩,ai _,fun _ q x hx m=>q x hx (fz.mp m).1,fun _ q=>q.imp id fun q x hx m=>q x hx (fz.mp m).1,rfl,rfl,rfl⟩
theorem UY(O:Ok F S)(w:Walk F.b t u)(h:NI S F.loose t):NL S (F.loose.filter fun n=>decide (u≠.v n)) t:=fun x hx m=>by
 obtain⟨m1,m2⟩:=fz.mp m;exact h.elim (fun q=>fc q fun n e=>c6 m2 ((w.vi O.aw).mpr (by rw[e] at hx ⊢;exact aE Tm.v hx))) fun q=>q x hx m1
theorem GW(O:Ok F S)(w:Walk F.b t u):NL S L u↔NL S L t:=by unfold NL;rw[w.sat O.aw.sol]
theorem zV(O:Ok F S)(w:Walk F.b t u):NI S L u↔NI S L t:=by unfold NI NL;rw[w.sat O.aw.sol]
theorem sE{f n x:Nat}(h:(cC f n).has x):n<x∧x≤n+ar f:=by
 unfold cC at h;unfold ar;by_cases e:f=32
 ·rw[aG e] at h;rw[aG e];exact(show n+1=x from h)▸⟨dY _,ai _⟩
 ·rw[aD e] at h;rw[aD e];exact h.elim (fun h=>(show n+1=x from h)▸⟨dY _,cB _⟩) fun h=>(show n+2=x from h)▸⟨wL (dY _),ai _⟩
theorem sD{f n:Nat}:bQ (cC f n)=true∧fnOf (cC f n)=f:=by
 unfold cC;by_cases e:f=32
 ·rw[aG e];exact⟨rfl,rfl⟩
 ·rw[aD e];exact⟨rfl,rfl⟩
theorem u7{f n:Nat}(h:f=32∨f=0∨f=33):af (n+ar f) (cC f n):=⟨fun x q=>(sE q).2,by
 unfold cC;by_cases e:f=32
 ·rw[aG e];exact⟨e,bx⟩
 ·rw[aD e];exact⟨h.resolve_left e,bx,bx⟩,by
 unfold cC;by_cases e:f=32
 ·rw[aG e];exact(by decide:1≤100)
 ·rw[aD e];exact(by decide:1≤100)⟩
theorem Ok.new(O:Ok F S)(h:F.aI<x):S x=.v x:=O.aw.id x (by
 cases e:F.b.at x with
 |none=>rfl
 |some t=>exact absurd ((O.cX _ (nJ e)).1.lo x rfl) (om.mpr h))
theorem Ok.bind(O:Ok F S){f:Nat}(hf:f=32∨f=0∨f=33)(hn:F.b.at n=none)(hb:n≤F.aI):(∃S',Mo F S {F with b:=F.b++[(n,cC f F.aI)],rest:=r,aI:=F.aI+ar f} S'∧NL S' F.loose (cC f F.aI))∧∀σ,Sat (F.b++[(n,cC f F.aI)]) σ↔Sat F.b σ∧σ n=(cC f F.aI).app σ:=by
 have e:(cC f F.aI).app S=cC f F.aI:=wx fun x q=>O.new (sE q).1;have fr:∀x,(cC f F.aI).has x→x∉F.loose:=fun x q m=>om.mpr (sE q).1 (O.low x m);obtain⟨M,sat⟩:=O.aw.bind hn (t:=cC f F.aI) (by rw[e];exact fun q=>om.mpr (sE q).1 hb) fun y q=>by have:=(sD (f:=f) (n:=F.aI)).1;rw[q] at this;exact(ax this).elim
 rw[e] at M;have d:=Gn (y:=n) (.inl fr);refine⟨⟨_,⟨⟨M,fun p hp=>(b6.mp hp).elim (fun q=>⟨(O.cX p q).1.mono (aT _ _),(O.cX p q).2.mono (aT _ _)⟩) fun q=>(a6.mp q).symm▸⟨.v (aA hb (aT _ _)),u7 hf⟩,fun x m=>aA (O.low x m) (aT _ _)⟩,aT _ _,fun _=>d.nl fun _=>rfl,fun _=>d.ni fun _=>rfl,rfl,rfl,rfl⟩,d.nl (S:=S) (fun _=>rfl) (by unfold NL;rw[e];exact fr)⟩,sat⟩
end
noncomputable def Mt(pl:Pl)(π:Sb):Tm→Tm→Prop
 | .v k,w=>pl.void k=true∨π k=w
 | .c b z,w=>w=.c b z
 | .s1 f x,w=>∃y,w=.s1 f y∧Mt pl π x y
 | .s2 f x y,w=>∃x' y',w=.s2 f x' y'∧Mt pl π x x'∧Mt pl π y y'
structure Pe where
 t:Tm
 T:Tm
 p:Option Place
 h:Bool
noncomputable def mf(ts Ts:List Tm):List Pe:=List.zipWith (fun t T=>⟨t,T,none,false⟩) ts Ts
noncomputable def qP(val:Nat→Option Tm)(k:Nat)(t:Tm):Nat→Option Tm:=fun j=>if j=k then some t else val j
structure Vk(pl:Pl)(N:Nat)(lv:Nat→Prop)(c:Cs)(F:FS)(S:Sb)(k:Nat)(t:Tm):Prop where
 bI:af F.aI t
 lt:k<N
 nv:pl.void k=false
 hold:lv k→F.hold (place pl k)=some t
 ni:NI S F.loose t
 nl:k∉c.loc→NL S F.loose t
structure Pk(N:Nat)(c:Cs)(F:FS)(S:Sb)(e:Pe):Prop where
 bI:af F.aI e.T
 ni:NI S F.loose e.T
 nl:e.h=false→NL S F.loose e.T
 jZ:∀p,e.p=some p→F.hold p=some e.T∧(p.1=97∨(p.1=116∧N≤p.2∧p.2<c.nt))
 wt:e.t.WT
 vs:∀k,e.t.has k→k<N
structure Inv(pl:Pl)(N n0:Nat)(X:FS)(lv:Nat→Prop)(c:Cs)(F:FS)(S:Sb)(val:Nat→Option Tm)(pd:List Pe):Prop where
 ok:Ok F S
 sp:n0≤F.aI
 fx:F.evs=X.evs∧F.living=X.living∧F.kept=X.kept
 seen:∀k,k∉c.seen→val k=none
 sv:∀k,k∈c.seen→∃t,val k=some t
 vk:∀k t,val k=some t→Vk pl N lv c F S k t
 nt:N≤c.nt
 pk:∀e∈pd,Pk N c F S e
structure dP(pl:Pl)(N n0:Nat)(b:Bd)(val:Nat→Option Tm)(pd:List Pe)(π σ:Sb):Prop where
 sat:Sat b σ
 ag:∀n,N≤n→n≤n0→σ n=π n
 vc:∀k t,val k=some t→π k=t.app σ
 pd:∀e∈pd,Mt pl π e.t (e.T.app σ)
structure Eqv(pl:Pl)(N n0:Nat)(P:Sb→Prop)(b:Bd)(val:Nat→Option Tm)(pd:List Pe):Prop where
 snd:∀{π σ},dP pl N n0 b val pd π σ→P π
 cmp:∀{π},P π→∃σ,dP pl N n0 b val pd π σ
section
variable{pl:Pl}{N n0:Nat}{lv:Nat→Prop}{X F F':FS}{c c':Cs}{S S':Sb}{val val':Nat→Option Tm}{pd pd':List Pe}{e:Pe}{P:Sb→Prop}{b b':Bd}{k:Nat}{t u:Tm}{r:List Tm}{π σ:Sb}
theorem Inv.mo(I:Inv pl N n0 X lv c F S val pd)(m:Mo F S F' S')(hh:∀p,((∃k t,val k=some t∧p=place pl k)∨∃e∈pd,e.p=some p)→F'.hold p=F.hold p):Inv pl N n0 X lv c F' S' val pd:=
 ⟨m.ok,aA I.sp m.sp,⟨m.fx.1.trans I.fx.1,m.fx.2.1.trans I.fx.2.1,m.fx.2.2.trans I.fx.2.2⟩,I.seen,I.sv,fun k t e=>have v:=I.vk k t e
  ⟨v.bI.mono m.sp,v.lt,v.nv,fun l=>(hh _ (.inl ⟨k,t,e,rfl⟩)).trans (v.hold l),m.ni v.bI v.ni,fun q=>m.nl v.bI (v.nl q)⟩,I.nt,fun e q=>have v:=I.pk e q
  ⟨v.bI.mono m.sp,m.ni v.bI v.ni,fun h=>m.nl v.bI (v.nl h),fun p h=>⟨(hh p (.inr ⟨e,q,h⟩)).trans (v.jZ p h).1,(v.jZ p h).2⟩,v.wt,v.vs⟩⟩
theorem Inv.tl(I:Inv pl N n0 X lv c F S val (e::pd)):Inv pl N n0 X lv c F S val pd:=⟨I.ok,I.sp,I.fx,I.seen,I.sv,I.vk,I.nt,fun e q=>I.pk e (.tail _ q)⟩
theorem Inv.cons(I:Inv pl N n0 X lv c F S val pd)(p:Pk N c F S e):Inv pl N n0 X lv c F S val (e::pd):=⟨I.ok,I.sp,I.fx,I.seen,I.sv,I.vk,I.nt,fun e' q=>(a8.mp q).elim (fun q=>q▸p) (I.pk e')⟩
theorem Inv.perm(I:Inv pl N n0 X lv c F S val pd)(h:∀e∈pd',e∈pd):Inv pl N n0 X lv c F S val pd':=⟨I.ok,I.sp,I.fx,I.seen,I.sv,I.vk,I.nt,fun e q=>I.pk e (h e q)⟩
theorem Eqv.iff(E:Eqv pl N n0 P b val pd)(h:∀{π σ},dP pl N n0 b val pd π σ↔dP pl N n0 b' val' pd' π σ):Eqv pl N n0 P b' val' pd':=⟨fun q=>E.snd (h.mpr q),fun q=>let ⟨σ,s⟩:=E.cmp q;⟨σ,h.mp s⟩⟩
theorem Eqv.perm(E:Eqv pl N n0 P b val pd)(h:∀e,e∈pd'↔e∈pd):Eqv pl N n0 P b val pd':=E.iff ⟨fun s=>⟨s.sat,s.ag,s.vc,fun e m=>s.pd e ((h e).mp m)⟩,fun s=>⟨s.sat,s.ag,s.vc,fun e m=>s.pd e ((h e).mpr m)⟩⟩
theorem kH:dP pl N n0 b val (e::pd) π σ↔Mt pl π e.t (e.T.app σ)∧dP pl N n0 b val pd π σ:=⟨fun s=>⟨s.pd e (.head _),s.sat,s.ag,s.vc,fun e m=>s.pd e (.tail _ m)⟩,fun⟨q,s⟩=>⟨s.sat,s.ag,s.vc,fun e' m=>(a8.mp m).elim (fun x=>x▸q) (s.pd e')⟩⟩
theorem AP{l:List Pe}:dP pl N n0 b val (l++pd) π σ↔(∀e∈l,Mt pl π e.t (e.T.app σ))∧dP pl N n0 b val pd π σ:=⟨fun s=>⟨fun e m=>s.pd e (gX _ m),s.sat,s.ag,s.vc,fun e m=>s.pd e (jl _ m)⟩,fun⟨q,s⟩=>⟨s.sat,s.ag,s.vc,fun e m=>(b6.mp m).elim (q e) (s.pd e)⟩⟩
theorem qB{Q:Sb→Prop}(h:∀σ,Sat b' σ↔Sat b σ∧Q σ):dP pl N n0 b' val pd π σ↔Q σ∧dP pl N n0 b val pd π σ:=⟨fun s=>⟨((h σ).mp s.sat).2,((h σ).mp s.sat).1,s.ag,s.vc,s.pd⟩,fun⟨q,s⟩=>⟨(h σ).mpr ⟨s.sat,q⟩,s.ag,s.vc,s.pd⟩⟩
theorem GY(E:Eqv pl N n0 P b val pd)(h:∀{π σ},¬dP pl N n0 b val pd π σ)(π:Sb):¬P π:=fun q=>let ⟨_,s⟩:=E.cmp q;h s
theorem Eqv.void(E:Eqv pl N n0 P b val (e::pd))(h:∀{π w},Mt pl π e.t w):Eqv pl N n0 P b val pd:=E.iff (kH.trans ⟨fun q=>q.2,fun q=>⟨h,q⟩⟩)
theorem AQ(M:Met b S t u b' S')(h:∀{π σ},Sat b σ→(∀k t,val k=some t→π k=t.app σ)→(Mt pl π e.t (e.T.app σ)↔t.app σ=u.app σ)){π σ:Sb}:dP pl N n0 b val (e::pd) π σ↔dP pl N n0 b' val pd π σ:=
 kH.trans ⟨fun q=>(qB M.sat).mpr ⟨(h q.2.sat q.2.vc).mp q.1,q.2⟩,fun q=>have q:=(qB M.sat).mp q;⟨(h q.2.sat q.2.vc).mpr q.1,q.2⟩⟩
theorem Eqv.met(E:Eqv pl N n0 P b val (e::pd))(M:Met b S t u b' S')(h:∀{π σ},Sat b σ→(∀k t,val k=some t→π k=t.app σ)→(Mt pl π e.t (e.T.app σ)↔t.app σ=u.app σ)):Eqv pl N n0 P b' val pd:=E.iff (AQ M h)
theorem Eqv.qN(E:Eqv pl N n0 P b val (e::pd))(U:eg b t u)(h:∀{π σ},Sat b σ→(∀k t,val k=some t→π k=t.app σ)→(Mt pl π e.t (e.T.app σ)↔t.app σ=u.app σ)):∀π,¬P π:=
 GY E fun s=>have q:=kH.mp s;U _ q.2.sat ((h q.2.sat q.2.vc).mp q.1)
theorem Ig{j:Nat}{w:Tm}(h:qP val k t j=some w):(j=k∧w=t)∨(j≠k∧val j=some w):=by
 unfold qP at h;by_cases q:j=k
 ·rw[aG q] at h;exact .inl ⟨q,(av h).symm⟩
 ·rw[aD q] at h;exact .inr ⟨q,h⟩
theorem Eqv.var(E:Eqv pl N n0 P b val (e::pd))(he:e.t=.v k)(hv:pl.void k=false)(hn:val k=none):Eqv pl N n0 P b (qP val k e.T) pd:=E.iff (kH.trans
 ⟨fun⟨q,s⟩=>⟨s.sat,s.ag,fun j w h=>(Ig h).elim (fun h=>by rw[he] at q;rw[h.1,h.2];exact q.resolve_left (by rw[hv];exact ax)) fun h=>s.vc j w h.2,s.pd⟩,
  fun s=>⟨by rw[he];exact .inr (s.vc k e.T (aG rfl)),s.sat,s.ag,fun j w h=>s.vc j w ((aD fun q=>by rw[q,hn] at h;exact nomatch h).trans h),s.pd⟩⟩)
theorem pb{l:List Nat}{j k:Nat}:j∈add l k↔j∈l∨j=k:=by
 unfold add;by_cases h:k∈l
 ·rw[aG h];exact⟨.inl,fun q=>q.elim id fun e=>e▸h⟩
 ·rw[aD h,b6,a6]
theorem Inv.var(I:Inv pl N n0 X lv c F S val pd)(v:Vk pl N lv c' F S k t)(h1:c'.seen=add c.seen k)(h2:c'.nt=c.nt)(h3:∀j,j≠k→j∉c'.loc→j∉c.loc):Inv pl N n0 X lv c' F S (qP val k t) pd:=
 ⟨I.ok,I.sp,I.fx,fun j q=>by rw[h1,pb] at q;exact(aD fun e=>q (.inr e)).trans (I.seen j fun m=>q (.inl m)),fun j q=>by
  unfold qP;by_cases e:j=k
  ·exact⟨t,aG e⟩
  ·rw[aD e];rw[h1,pb] at q;exact I.sv j (q.resolve_right e),fun j w h=>(Ig h).elim (fun h=>by rw[h.1,h.2];exact v) fun h=>have v:=I.vk j w h.2;⟨v.bI,v.lt,v.nv,v.hold,v.ni,fun q=>v.nl (h3 j h.1 q)⟩,h2▸I.nt,fun e m=>have v:=I.pk e m;⟨v.bI,v.ni,v.nl,h2▸v.jZ,v.wt,v.vs⟩⟩
end
section
variable{pl:Pl}{π σ:Sb}{t u w:Tm}{f n:Nat}
theorem GK(ht:bQ t=true)(wt:t.WT)(hu:bQ u=true)(wu:u.WT)(e:fnOf u=fnOf t):Mt pl π t (u.app σ)↔∀e∈mf (bT t) (bT u),Mt pl π e.t (e.T.app σ):=by
 cases t with
 |v=>exact(ax ht).elim
 |c=>exact(ax ht).elim
 |s1 f x=>
  cases u with
  |v=>exact(ax hu).elim
  |c=>exact(ax hu).elim
  |s2 g y z=>exact absurd (wu.1) (by rw[show g=f from e,wt.1];decide)
  |s1 g y=>
   cases (show g=f from e)
   exact⟨fun⟨_,q,m⟩ _ z=>by cases q;exact a6.mp z▸m,fun q=>⟨_,rfl,q _ (.head _)⟩⟩
 |s2 f x x'=>
  cases u with
  |v=>exact(ax hu).elim
  |c=>exact(ax hu).elim
  |s1 g y=>exact absurd (wt.1) (by rw[←show g=f from e,wu.1];decide)
  |s2 g y y'=>
   cases (show g=f from e)
   exact⟨fun⟨_,_,q,m,m'⟩ _ z=>by cases q;exact(a8.mp z).elim (fun z=>z▸m) fun z=>a6.mp z▸m',fun q=>⟨_,_,rfl,q _ (.head _),q _ (.tail _ (.head _))⟩⟩
theorem Sg(ht:bQ t=true)(hv:u.bN=false)(h:¬(bQ u=true∧fnOf u=fnOf t)):¬Mt pl π t (u.app σ):=by
 cases u with
 |v=>exact(ax hv.symm).elim
 |c=>cases t with
  |v=>exact(ax ht).elim
  |c=>exact(ax ht).elim
  |s1=>exact fun⟨_,q,_⟩=>nomatch q
  |s2=>exact fun⟨_,_,q,_⟩=>nomatch q
 |s1=>cases t with
  |v=>exact(ax ht).elim
  |c=>exact(ax ht).elim
  |s1=>exact fun⟨_,q,_⟩=>h ⟨rfl,(Tm.s1.inj q).1⟩
  |s2=>exact fun⟨_,_,q,_⟩=>nomatch q
 |s2=>cases t with
  |v=>exact(ax ht).elim
  |c=>exact(ax ht).elim
  |s1=>exact fun⟨_,q,_⟩=>nomatch q
  |s2=>exact fun⟨_,_,q,_⟩=>h ⟨rfl,(Tm.s2.inj q).1⟩
theorem Sf(ht:bQ t=true)(wt:t.WT)(h:Mt pl π t w):∃τ:Sb,w=(cC (fnOf t) n).app τ:=by
 cases t with
 |v=>exact(ax ht).elim
 |c=>exact(ax ht).elim
 |s1 f x=>
  obtain⟨y,e,_⟩:=h;refine⟨fun _=>y,e.trans ?_⟩;unfold cC;rw[aG (show fnOf (.s1 f x)=32 from wt.1)]
  rfl
 |s2 f x y=>
  obtain⟨x',y',e,_⟩:=h;refine⟨fun m=>if m=n+1 then x' else y',e.trans ?_⟩
  unfold cC;rw[aD (show ¬fnOf (.s2 f x y)=32 from fun q=>by rw[show f=32 from q] at wt;exact absurd wt.1 (by decide)),Tm.app,Tm.app,Tm.app,aG rfl,aD (eb (dY (n+1)))]
  rfl
theorem tj(ht:bQ t=true)(wt:t.WT):(bT t).length=ar (fnOf t)∧(fnOf t=32∨fnOf t=0∨fnOf t=33):=by
 cases t with
 |v=>exact(ax ht).elim
 |c=>exact(ax ht).elim
 |s1 f x=>unfold ar;rw[aG (show fnOf (.s1 f x)=32 from wt.1)];exact⟨rfl,.inl wt.1⟩
 |s2 f x y=>unfold ar;rw[aD (show ¬fnOf (.s2 f x y)=32 from fun q=>by rw[show f=32 from q] at wt;exact absurd wt.1 (by decide))];exact⟨rfl,.inr wt.1⟩
theorem AW{Q:Tm→Prop}(h:hJ Q):∀{t:Tm},Q t→∀x∈bT t,Q x
 | .v _,_,_,m=>nomatch m
 | .c _ _,_,_,m=>nomatch m
 | .s1 f x,q,_,m=>a6.mp m▸h.s1 f x q
 | .s2 f x y,q,_,m=>(a8.mp m).elim (fun e=>e▸(h.s2 f x y q).1) fun m=>a6.mp m▸(h.s2 f x y q).2
theorem Xo(N:Nat):hJ fun t=>t.WT∧∀k,t.has k→k<N:=⟨fun _ _ h=>⟨h.1.2,h.2⟩,fun _ _ _ h=>⟨⟨h.1.2.1,fun k q=>h.2 k (.inl q)⟩,h.1.2.2,fun k q=>h.2 k (.inr q)⟩⟩
theorem TK(S:Sb)(L:List Nat):hJ (NL S L):=⟨fun _ _ h=>h,fun _ _ _ h=>⟨fun x q=>h x (.inl q),fun x q=>h x (.inr q)⟩⟩
theorem Xs{ts Ts:List Tm}{e:Pe}(m:e∈mf ts Ts):e.t∈ts∧e.T∈Ts∧e.p=none∧e.h=false:=by
 induction ts generalizing Ts with
 |nil=>exact nomatch m
 |cons t ts ih=>
  cases Ts with
  |nil=>exact nomatch m
  |cons T Ts=>exact(a8.mp m).elim (fun q=>q▸⟨.head _,.head _,rfl,rfl⟩) fun m=>(let ⟨a,b,c⟩:=ih m;⟨.tail _ a,.tail _ b,c⟩)
end
noncomputable def Inj(pl:Pl)(N:Nat):Prop:=∀j k,j<N→k<N→pl.void j=false→pl.void k=false→place pl j=place pl k→j=k
section
variable{pl:Pl}{N n0:Nat}{lv:Nat→Prop}{X F F':FS}{c c':Cs}{S S':Sb}{val val':Nat→Option Tm}{pd pd':List Pe}{e:Pe}{P:Sb→Prop}{b b':Bd}{k j:Nat}{t u w:Tm}{r Ts:List Tm}{π σ:Sb}{h:Place→Option Tm}
theorem Ge{α:Type}{o:Option α}{x:α}{P:Prop}(h:o=none)(h':o=some x):P:=nomatch h.symm.trans h'
theorem zu(nt:N≤c.nt)(hk:k<N){p:Place}(h:p.1=97∨(p.1=116∧N≤p.2)):p≠place pl k:=by
 unfold place;intro e;by_cases q:pl.perm k=true
 ·rw[aG q] at e;rw[e] at h;exact h.elim (show ¬(121:Nat)=97 by decide) fun h=>(show ¬(121:Nat)=116 by decide) h.1
 ·rw[aD q] at e;rw[e] at h;exact h.elim (show ¬(116:Nat)=97 by decide) fun h=>eA _ (bj hk h.2)
theorem Inv.same(I:Inv pl N n0 X lv c F S val pd):Inv pl N n0 X lv c {F with rest:=r} S val pd:=I.mo (I.ok.same (h:=F.hold)) fun _ _=>rfl
theorem Inv.new(inj:Inj pl N)(I:Inv pl N n0 X lv c F S val (e::pd))(he:e.t=.v k)(hv:pl.void k=false)(hk:k∉c.seen)(h1:c'.seen=add c.seen k)(h2:c'.nt=c.nt)(h3:∀j,j≠k→j∉c'.loc→j∉c.loc)(nl:k∉c'.loc→NL S F.loose e.T):Inv pl N n0 X lv c' {F with hold:=pt F.hold (place pl k) e.T,rest:=r} S (qP val k e.T) pd:=by
 have q:=I.pk e (.head _);have lt:=q.vs k (by rw[he];exact rfl)
 exact Inv.var (c:=c) (I.tl.mo (I.ok.same (h:=pt F.hold (place pl k) e.T) (r:=r)) fun p m=>aD (m.elim (fun⟨j,t,a,b⟩ x=>Ge (I.seen k hk) ((aE val (inj j k (I.vk j t a).lt lt (I.vk j t a).nv hv (b.symm.trans x))).symm.trans a))
  fun⟨e',a,b⟩=>zu I.nt lt (((I.pk e' (.tail _ a)).jZ p b).2.imp_right fun h=>⟨h.1,h.2.1⟩))) ⟨q.bI,lt,hv,fun _=>aG rfl,q.ni,nl⟩ h1 h2 h3
theorem Inv.wait(I:Inv pl N n0 X lv c F S val (e::pd))(hp:e.p=none)(hh:e.h=false):Inv pl N n0 X lv c.iN {F with hold:=pt F.hold (tP c.nt) e.T,rest:=r} S val (⟨e.t,e.T,some (tP c.nt),false⟩::pd):=by
 have q:=I.pk e (.head _);have i:=I.tl.mo (I.ok.same (h:=pt F.hold (tP c.nt) e.T) (r:=r)) fun p m=>aD (m.elim (fun⟨j,t,a,b⟩ x=>zu (pl:=pl) I.nt (I.vk j t a).lt (.inr ⟨rfl,I.nt⟩) (x.symm.trans b)) fun⟨e',a,b⟩ x=>((I.pk e' (.tail _ a)).jZ p b).2.elim (fun h=>by rw[x] at h;exact(show ¬(116:Nat)=97 by decide) h) fun h=>by rw[x] at h;exact eA _ h.2.2)
 exact Inv.cons ⟨i.ok,i.sp,i.fx,i.seen,i.sv,fun k t a=>have v:=i.vk k t a;⟨v.bI,v.lt,v.nv,v.hold,v.ni,v.nl⟩,eI i.nt,fun e m=>have v:=i.pk e m;⟨v.bI,v.ni,v.nl,fun p h=>⟨(v.jZ p h).1,(v.jZ p h).2.imp_right fun h=>⟨h.1,h.2.1,wL h.2.2⟩⟩,v.wt,v.vs⟩⟩
  ⟨q.bI,q.ni,fun _=>q.nl hh,fun p h=>av h▸⟨aG rfl,.inr ⟨rfl,I.nt,dY _⟩⟩,q.wt,q.vs⟩
theorem Eqv.wait{p:Option Place}{h:Bool}(E:Eqv pl N n0 P b val (e::pd)):Eqv pl N n0 P b val (⟨e.t,e.T,p,h⟩::pd):=E.iff (kH.trans (kH (e:=⟨e.t,e.T,p,h⟩)).symm)
theorem Inv.meet(I:Inv pl N n0 X lv c F S val pd)(M:Met F.b S t u b' S')(ht:af F.aI t)(hu:af F.aI u)(w:Way S F.loose t u):Inv pl N n0 X lv c {F with b:=b',rest:=r} S' val pd:=I.mo (M.mo I.ok ht hu w) fun _ _=>rfl
variable{R:List ak→FS→Prop}{Fl:List Ev→Prop}{Dn:FS→Prop}{sig:Nat→Nat}{picks:List Nat}(rl:Rules R Fl Dn sig picks){is:List ak}(hF:(∀π,¬P π)→Fl X.evs)
include rl hF
theorem Ij{i:Place→ak}(hi:i=.kO∨i=.kE)(I:Inv pl N n0 X lv c F S val (e::pd))(E:Eqv pl N n0 P F.b val (e::pd))(hr:F.rest=e.T::r)(he:∀{π:Sb} {w},Mt pl π e.t w↔π k=w)(hv:val k=some t)(al:lv k)(hl:k∉c.loc)(hh:e.h=false)
  (K:∀{b' S'},(∀{π σ},dP pl N n0 b' val pd π σ→dP pl N n0 F.b val (e::pd) π σ)→Inv pl N n0 X lv c {F with b:=b',rest:=r} S' val pd→Eqv pl N n0 P b' val pd→R is {F with b:=b',rest:=r}):R (i (place pl k)::is) F:=by
 obtain⟨u,w⟩:=I.ok.aw.walks t;have q:=I.pk e (.head _);have v:=I.vk k t hv;have nl:=(GW I.ok w (L:=F.loose)).mpr (v.nl hl);have iff:∀{π σ:Sb},Sat F.b σ→(∀k t,val k=some t→π k=t.app σ)→(Mt pl π e.t (e.T.app σ)↔e.T.app σ=u.app σ):=fun s vc=>he.trans (by rw[vc k t hv,w.sat s];exact eq_comm)
 have hu:=w.dA I.ok.cX v.bI;exact rl.val hi hr (v.hold al) w (fun n e=>nl n (by rw[e,show(Tm.v n).app S=.v n from I.ok.aw.id n (w.free n e)];rfl)) I.ok.aw I.ok.cX v.bI hu q.bI (fun M=>K (AQ M iff).mpr (I.tl.meet M q.bI hu (.inl ⟨q.nl hh,nl⟩)) (E.met M iff)) fun U=>I.fx.1▸hF (E.qN U iff)
theorem Fv{i:Place→ak}(hi:i=.kN∨i=.ja)(I:Inv pl N n0 X lv c F S val (e::pd))(E:Eqv pl N n0 P F.b val (e::pd))(hr:F.rest=e.T::r)(he:∀{π:Sb} {w},Mt pl π e.t w↔π k=w)(hv:val k=some t)(al:lv k)(hh:e.h=false)
  (K:∀{b' S' l},(∀{π σ},dP pl N n0 b' val pd π σ→dP pl N n0 F.b val (e::pd) π σ)→NL S' l t→Inv pl N n0 X lv c {F with b:=b',rest:=r,loose:=l} S' val pd→Eqv pl N n0 P b' val pd→R is {F with b:=b',rest:=r,loose:=l}):R (i (place pl k)::is) F:=by
 obtain⟨u,w⟩:=I.ok.aw.walks t;have v:=I.vk k t hv;have I':=I.mo (I.ok.pop (f:=fun n=>decide (u≠.v n))) fun _ _=>rfl;have q:=I'.pk e (.head _);have nl:=UY I.ok w v.ni;have nu:=(GW I.ok w).mpr nl;have iff:∀{π σ:Sb},Sat F.b σ→(∀k t,val k=some t→π k=t.app σ)→(Mt pl π e.t (e.T.app σ)↔e.T.app σ=u.app σ):=fun s vc=>he.trans (by rw[vc k t hv,w.sat s];exact eq_comm)
 have hu:=w.dA I.ok.cX v.bI;exact rl.loc hi hr (v.hold al) w I.ok.aw I.ok.cX v.bI hu q.bI (fun M=>have m:=Met.mo (F:={F with loose:=F.loose.filter fun n=>decide (u≠.v n)}) (r:=r) I'.ok M q.bI hu (.inl ⟨q.nl hh,nu⟩);K (AQ M iff).mpr (m.nl v.bI nl) (I'.tl.mo m fun _ _=>rfl) (E.met M iff)) fun U=>I.fx.1▸hF (E.qN U iff)
theorem Ko{k:Bool}{z:Int}(I:Inv pl N n0 X lv c F S val (e::pd))(he:e.t=.c k z)(E:Eqv pl N n0 P F.b val (e::pd))(hr:F.rest=e.T::r)(hh:e.h=false)
  (K:∀{b' S'},Inv pl N n0 X lv c {F with b:=b',rest:=r} S' val pd→Eqv pl N n0 P b' val pd→R is {F with b:=b',rest:=r}):R (.i5 k z::is) F:=by
 have q:=I.pk e (.head _);have iff:∀{π σ:Sb},Sat F.b σ→(∀k t,val k=some t→π k=t.app σ)→(Mt pl π e.t (e.T.app σ)↔e.T.app σ=(Tm.c k z).app σ):=fun _ _=>by rw[he];rfl
 exact rl.i5 hr I.ok.aw I.ok.cX q.bI (fun M=>K (I.tl.meet M q.bI .c (.inl ⟨q.nl hh,fun _ h=>h.elim⟩)) (E.met M iff)) fun U=>I.fx.1▸hF (E.qN U iff)
theorem DW{n:Nat}{l:List Tm}(hd:F.rest.drop n=w::l)(K:R is {F with rest:=w::l}):R (gJ n++is) F:=by
 unfold gJ;by_cases h:n=0
 ·subst h;rw[aG rfl];exact(show {F with rest:=w::l}=F by rw[←hd];rfl)▸K
 ·rw[aD h];have e:F.rest≠[]:=fun e=>by rw[e,qk] at hd;exact nomatch hd
  exact rl.iO e (lh fun q=>by rw[BF (dk q)] at hd;exact nomatch hd) (hd.symm▸K)
end
noncomputable def fE(l:List (Tm×Place)):Nat:=(l.map fun q=>q.1.aU).sum
theorem sq{q r:List (Tm×Place)}:fE (q++r)=fE q+fE r:=by unfold fE;rw[bt,List.sum_append]
section
variable{pl:Pl}{t:Tm}{ts:List Tm}{n:Nat}{c:Cs}
theorem r8(hs:bQ t=true):bo pl (t::ts) n c=(gJ n++.gQ (tP c.nt)::(bo pl ts 0 c.iN).1,(bo pl ts 0 c.iN).2.1,(t,tP c.nt)::(bo pl ts 0 c.iN).2.2):=aG hs
theorem r7(hs:bQ t=false)(h:jv pl t=true):bo pl (t::ts) n c=bo pl ts (n+1) c:=(aD (by rw[hs];exact ax)).trans (aG h)
theorem r6(hs:bQ t=false)(h:jv pl t=false):bo pl (t::ts) n c=(gJ n++((iH pl t c).1++(bo pl ts 0 (iH pl t c).2).1),(bo pl ts 0 (iH pl t c).2).2):=(aD (by rw[hs];exact ax)).trans (aD (by rw[h];exact ax))
end
structure Wt(ts:List Tm)(r:List (Tm×Place)):Prop where
 sz:fE r≤(ts.map Tm.aU).sum
 len:r.length≤ts.length
 s:∀q∈r,bQ q.1=true
 mem:∀q∈r,q.1∈ts
theorem As{pl:Pl}{ts:List Tm}:∀{n:Nat} {c:Cs},Wt ts (bo pl ts n c).2.2:=by
 induction ts with
 |nil=>exact⟨ai _,ai _,(fun _ m=>nomatch m),(fun _ m=>nomatch m)⟩
 |cons t ts ih=>
  intro n c;have no:∀{n c},Wt (t::ts) (bo pl ts n c).2.2:=⟨by rw[cO,wG];exact aA ih.sz (b9 _ _),eI ih.len,ih.s,fun q m=>.tail _ (ih.mem q m)⟩
  cases hs:bQ t with
  |true=>
   rw[r8 hs];exact⟨by rw[cO,wG];exact cq ih.sz _,cI ih.len,fun q m=>(a8.mp m).elim (fun e=>e▸hs) (ih.s q),fun q m=>(a8.mp m).elim (fun e=>e▸.head _) fun m=>.tail _ (ih.mem q m)⟩
  |false=>cases h:jv pl t with
   |true=>rw[r7 hs h];exact no
   |false=>rw[r6 hs h];exact no
theorem vW{t:Tm}(h:bQ t=true):((bT t).map Tm.aU).sum+1=t.aU∧(bT t).length≤2∧∀u∈bT t,∀x,u.has x→t.has x:=by
 cases t with
 |v=>exact(ax h).elim
 |c=>exact(ax h).elim
 |s1 f x=>exact⟨rfl,cB 1,fun u m y hy=>(a6.mp m)▸hy⟩
 |s2 f x y=>exact⟨rfl,ai _,fun u m v hv=>(a8.mp m).elim (fun e=>.inl (e▸hv)) fun m=>.inr ((a6.mp m)▸hv)⟩
noncomputable def Pe.tp(e:Pe):Tm×Place:=(e.t,e.p.getD (0,0))
section
variable{pl:Pl}{N n0:Nat}{lv:Nat→Prop}{X F F':FS}{c c':Cs}{S S':Sb}{val val':Nat→Option Tm}{pd pd' es:List Pe}{e:Pe}{P:Sb→Prop}{b b':Bd}{k j n:Nat}{t u w:Tm}{r Ts:List Tm}{π σ:Sb}
theorem sA(hv:pl.void k=false)(he:e.t=.v k){w:Tm}:Mt pl π e.t w↔π k=w:=by rw[he];exact⟨fun q=>q.resolve_left (by rw[hv];exact ax),.inr⟩
theorem Ok.more{m:Nat}(O:Ok F S):Mo F S {F with rest:=r,aI:=F.aI+m} S:=⟨⟨O.aw,fun p q=>⟨(O.cX p q).1.mono (aT _ _),(O.cX p q).2.mono (aT _ _)⟩,fun x q=>aA (O.low x q) (aT _ _)⟩,aT _ _,fun _ q=>q,fun _ q=>q,rfl,rfl,rfl⟩
theorem Inv.parts(I:Inv pl N n0 X lv c F S val pd)(wt:t.WT)(vs:∀k,t.has k→k<N)(ib:af F.aI u)(nl:NL S F.loose u):Inv pl N n0 X lv c F S val (mf (bT t) (bT u)++pd):=⟨I.ok,I.sp,I.fx,I.seen,I.sv,I.vk,I.nt,fun e m=>(b6.mp m).elim (fun m=>
 have z:=Xs m;have y:=AW (TK S F.loose) nl e.T z.2.1;have x:=AW (Xo N) ⟨wt,vs⟩ e.t z.1
 ⟨AW (yL _) ib e.T z.2.1,.inr y,fun _=>y,fun p h=>Ge z.2.2.1 h,x.1,x.2⟩) (I.pk e)⟩
theorem r0(h:af n t)(e:∀m,m≤n→π m=σ m):t.app π=t.app σ:=app_congr fun m hm=>e m (h.lo m hm)
theorem Eqv.new(I:Inv pl N n0 X lv c F S val (e::pd))(E:Eqv pl N n0 P F.b val (e::pd))(hs:bQ e.t=true)(w:Walk F.b e.T (.v n))(sat:∀σ,Sat b' σ↔Sat F.b σ∧σ n=(cC (fnOf e.t) F.aI).app σ):Eqv pl N n0 P b' val (mf (bT e.t) (bT (cC (fnOf e.t) F.aI))++pd):=by
 have q:=I.pk e (.head _);have al:=tj hs q.wt;have ma:∀{π σ:Sb},Mt pl π e.t ((cC (fnOf e.t) F.aI).app σ)↔_:=GK hs q.wt sD.1 (u7 (n:=F.aI) al.2).wt sD.2;refine⟨fun s=>?_,fun p=>?_⟩
 ·have s1:=AP.mp s;have s2:=(qB sat).mp s1.2;exact E.snd (kH.mpr ⟨by rw[w.sat s2.2.sat,ti,s2.1];exact ma.mpr s1.1,s2.2⟩)
 ·obtain⟨σ,s⟩:=E.cmp p;obtain⟨τ,hτ⟩:=Sf (n:=F.aI) hs q.wt (s.pd e (.head _));have lo:∀m,m≤F.aI→(fun m=>if m≤F.aI then σ m else τ m) m=σ m:=fun m h=>aG h
  have hn:(cC (fnOf e.t) F.aI).app (fun m=>if m≤F.aI then σ m else τ m)=(cC (fnOf e.t) F.aI).app τ:=app_congr fun m h=>aD (om.mpr (sE h).1)
  have sn:σ n=(cC (fnOf e.t) F.aI).app τ:=by rw[←hτ,w.sat s.sat];rfl
  have vn:n≤F.aI:=(w.dA I.ok.cX q.bI).lo n rfl;refine⟨fun m=>if m≤F.aI then σ m else τ m,AP.mpr ⟨ma.mp (by rw[hn,←sn,show σ n=e.T.app σ by rw[w.sat s.sat];rfl];exact s.pd e (.head _)),(sat _).mpr ⟨fun x t h=>?_,by rw[hn,←sn];exact aG vn⟩,fun m h1 h2=>(lo m (aA h2 I.sp)).trans (s.ag m h1 h2),fun k t h=>(s.vc k t h).trans (r0 (I.vk k t h).bI lo).symm,fun e' m=>by rw[r0 (I.pk e' (.tail _ m)).bI lo];exact s.pd e' (.tail _ m)⟩⟩
  have r:=I.ok.cX _ (nJ h);exact(lo x (r.1.lo x rfl)).trans ((s.sat x t h).trans (r0 r.2 lo).symm)
variable{R:List ak→FS→Prop}{Fl:List Ev→Prop}{Dn:FS→Prop}{sig:Nat→Nat}{picks:List Nat}(rl:Rules R Fl Dn sig picks){is:List ak}(hF:(∀π,¬P π)→Fl X.evs)
include rl hF
theorem NG{p:Place}(I:Inv pl N n0 X lv c F S val (e::pd))(E:Eqv pl N n0 P F.b val (e::pd))(hs:bQ e.t=true)(hp:e.p=some p)(hr:F.rest=[])
  (K:∀{F' S' Ts},Inv pl N n0 X lv c F' S' val (mf (bT e.t) Ts++pd)→Eqv pl N n0 P F'.b val (mf (bT e.t) Ts++pd)→(bT e.t).length=Ts.length→F'.rest=Ts→R is F'):R (k8 (fnOf e.t) p::is) F:=by
 obtain⟨u,w⟩:=I.ok.aw.walks e.T;have q:=I.pk e (.head _);have al:=tj hs q.wt;have hu:=w.dA I.ok.cX q.bI;have hh:=(q.jZ p hp).1
 cases hv:u.bN with
 |true=>
  refine fc hv fun n hn=>?_;subst hn;obtain⟨⟨S',m,nl⟩,sat⟩:=I.ok.bind (r:=bT (cC (fnOf e.t) F.aI)) al.2 (w.free n rfl) (hu.lo n rfl);exact rl.Dy hr hh w I.ok.aw I.ok.cX q.bI al.2 (K ((I.tl.mo m fun _ _=>rfl).parts q.wt q.vs (u7 al.2) nl) (Eqv.new I E hs w sat) (al.1.trans ((aE ar sD.2.symm).trans (tj sD.1 (u7 (n:=F.aI) al.2).wt).1.symm)) rfl)
 |false=>
  by_cases h:bQ u=true∧fnOf u=fnOf e.t
  ·have nl:NL S F.loose u:=((zV I.ok w).mpr q.ni).elim (fun z=>by
    have z:=(w.sat I.ok.aw.sol).symm▸z
    cases u with
    |v=>exact(ax hv.symm).elim
    |_=>exact(ax z).elim) id
   exact rl.Dx hr hh w I.ok.aw I.ok.cX q.bI al.2 h.1 h.2 (K ((I.tl.mo (I.ok.more (m:=ar (fnOf e.t)) (r:=bT u)) fun _ _=>rfl).parts q.wt q.vs (hu.mono (aT _ _)) nl) (E.iff (kH.trans (.trans (and_congr_left fun z=>by rw[w.sat z.sat];exact GK hs q.wt h.1 hu.wt h.2) AP.symm))) (al.1.trans (by rw[(tj h.1 hu.wt).1,h.2])) rfl)
  ·exact rl.Dw hr hh w I.ok.aw I.ok.cX q.bI al.2 hv h (I.fx.1▸hF (GY E fun s=>Sg hs hv h (w.sat s.sat▸s.pd e (.head _))))
theorem R7(inj:Inj pl N)(I:Inv pl N n0 X lv c F S val (e::pd))(E:Eqv pl N n0 P F.b val (e::pd))(hr:F.rest=e.T::r)(he:e.t=.v k)(hv:pl.void k=false)(al:lv k)(hh:e.h=false)
  (K:∀{F' S' val'},Inv pl N n0 X lv (jz pl k c).2 F' S' val' pd→Eqv pl N n0 P F'.b val' pd→F'.rest=r→R is F'):R ((jz pl k c).1++is) F:=by
 unfold jz at K ⊢;by_cases h:k∈c.seen
 ·rw[aG h] at K ⊢;obtain⟨t,ht⟩:=I.sv k h;by_cases h2:k∈c.loc
  ·rw[aG h2] at K ⊢;exact Fv rl hF (.inl rfl) I E hr (sA hv he) ht al hh fun _ _ I E=>K I E rfl
  ·rw[aD h2] at K ⊢;exact Ij rl hF (.inl rfl) I E hr (sA hv he) ht al h2 hh fun _ I E=>K I E rfl
 ·rw[aD h] at K ⊢;exact rl.gQ hr (I.pk e (.head _)).bI (K (I.new inj he hv h rfl rfl (fun _ _ q=>q) fun _=>(I.pk e (.head _)).nl hh) (E.var he hv (I.seen k h)) rfl)
end
section
variable{pl:Pl}{N n0:Nat}{lv:Nat→Prop}{X F F':FS}{c c':Cs}{S S':Sb}{val val':Nat→Option Tm}{pd pd' es:List Pe}{e:Pe}{P:Sb→Prop}{b b':Bd}{k j n i:Nat}{t u w:Tm}{r:List Tm}{π σ:Sb}{R:List ak→FS→Prop}{Fl:List Ev→Prop}{Dn:FS→Prop}{sig:Nat→Nat}{picks:List Nat}(rl:Rules R Fl Dn sig picks){is:List ak}(hF:(∀π,¬P π)→Fl X.evs)(inj:Inj pl N)(al:∀k,lv k)
noncomputable def Wq(e:Pe):Prop:=bQ e.t=true∧e.p=some e.tp.2
include rl hF inj al
theorem R3(I:Inv pl N n0 X lv c F S val (e::pd))(E:Eqv pl N n0 P F.b val (e::pd))(hr:F.rest=e.T::r)(hs:bQ e.t=false)(hv:jv pl e.t=false)(hh:e.h=false)
  (K:∀{F' S' val'},Inv pl N n0 X lv (iH pl e.t c).2 F' S' val' pd→Eqv pl N n0 P F'.b val' pd→F'.rest=r→R is F'):R ((iH pl e.t c).1++is) F:=by
 cases ht:e.t with
 |v k=>rw[ht] at K hv;exact R7 rl hF inj I E hr ht hv (al k) hh K
 |c b z=>rw[ht] at K;exact Ko rl hF I ht E hr hh fun I E=>K I E rfl
 |_=>rw[ht] at hs;exact(ax hs.symm).elim
theorem R0{as:List Tm}:∀{n c F S val Ts pd},Inv pl N n0 X lv c F S val (mf as Ts++pd)→Eqv pl N n0 P F.b val (mf as Ts++pd)→as.length=Ts.length→F.rest.drop n=Ts→n≤F.rest.length→
  (∀{F' S' val' es},es.map Pe.tp=(bo pl as n c).2.2→(∀e∈es,Wq e)→Inv pl N n0 X lv (bo pl as n c).2.1 F' S' val' (es++pd)→Eqv pl N n0 P F'.b val' (es++pd)→F'.rest=[]→R is F')→R ((bo pl as n c).1++is) F:=by
 induction as with
 |nil=>
  intro n c F S val Ts pd I E hl hd hn K;cases lW.mp hl.symm;show R (gJ n++is) F;unfold gJ;by_cases h:n=0
  ·rw[aG h];exact K (es:=[]) rfl (fun _ m=>nomatch m) I E (by rw[h] at hd;exact hd)
  ·rw[aD h];exact rl.iO (fun q=>by rw[q] at hn;exact h (Nat.le_zero.mp hn)) hn (K (es:=[]) rfl (fun _ m=>nomatch m) I.same E hd)
 |cons t as ih=>
  intro n c F S val Ts pd I E hl hd hn K
  cases Ts with
  |nil=>exact nomatch hl
  |cons T Ts=>
   have hl:=oq hl
   cases hs:bQ t with
   |true=>
    rw[r8 hs] at K ⊢;rw[dX];refine DW rl hF hd (rl.gQ rfl (I.pk _ (.head _)).bI ?_);have mem:∀{l:List Pe} {e},e∈l++⟨t,T,some (tP c.nt),false⟩::pd↔e∈⟨t,T,some (tP c.nt),false⟩::(l++pd):=List.perm_middle.mem_iff;exact ih (pd:=⟨t,T,some (tP c.nt),false⟩::pd) (((I.same (r:=T::Ts)).wait (r:=Ts) rfl rfl).perm fun e=>mem.mp) (E.wait.perm fun e=>mem) hl rfl (bW _) fun{F' S' val' es} q z I E=>K (es:=⟨t,T,some (tP c.nt),false⟩::es) (aE (List.cons _) q) (fun e m=>(a8.mp m).elim (fun q=>q▸⟨hs,rfl⟩) (z e)) (I.perm fun e=>mem.mpr) (E.perm fun e=>mem.symm)
   |false=>cases hv:jv pl t with
    |true=>
     rw[r7 hs hv] at K ⊢;have lt:n<F.rest.length:=Bc fun q=>by rw[BF q] at hd;exact nomatch hd
     refine ih I.tl (E.void fun{π w}=>?_) hl (by rw[←List.drop_drop,hd];rfl) lt K
     cases t with
     |v k=>exact .inl hv
     |_=>exact(ax hv).elim
    |false=>
     rw[r6 hs hv] at K ⊢;rw[dX,dX];exact DW rl hF hd (R3 rl hF inj al (I.same (r:=T::Ts)) E rfl hs hv rfl fun I E q=>ih I E hl q (bW _) K)
theorem SG:∀{n es c F S val},Inv pl N n0 X lv c F S val (es++pd)→Eqv pl N n0 P F.b val (es++pd)→(∀e∈es,Wq e)→fE (es.map Pe.tp)≤n→F.rest=[]→
  (∀{F' S' val'},Inv pl N n0 X lv (jT pl n (es.map Pe.tp) c).2 F' S' val' pd→Eqv pl N n0 P F'.b val' pd→F'.rest=[]→R is F')→R ((jT pl n (es.map Pe.tp) c).1++is) F:=by
 intro n
 induction n with
 |zero=>
  intro es c F S val I E hw hz hr K
  cases es with
  |nil=>exact K I E hr
  |cons e es=>exact absurd (aA e.t.mZ (aA (aT _ _) hz)) (iV 0)
 |succ n ih=>
  intro es c F S val I E hw hz hr K
  cases es with
  |nil=>exact K I E hr
  |cons e es=>
   have we:=hw e (.head _);have ew:=As (pl:=pl) (ts:=bT e.t) (n:=0) (c:=c);show R (k8 (fnOf e.t) e.tp.2::((bo pl (bT e.t) 0 c).1++(jT pl n (es.map Pe.tp++_) _).1++is)) F;rw[dX];refine NG rl hF I E we.1 we.2 hr fun{F' S' Ts} I E hl q=>R0 rl hF inj al I E hl q (bW _) fun{F' S' val' es'} q z I E hr=>?_;have mem:∀{e:Pe},e∈(es++es')++pd↔e∈es'++(es++pd):=by
    intro e;rw[dX,b6,b6,b6,b6,or_left_comm]
   have K:∀{F' S' val'},Inv pl N n0 X lv (jT pl n (es.map Pe.tp++(bo pl (bT e.t) 0 c).2.2) (bo pl (bT e.t) 0 c).2.1).2 F' S' val' pd→_:=K;have hk:es.map Pe.tp++(bo pl (bT e.t) 0 c).2.2=(es++es').map Pe.tp:=by rw[bt,q]
   rw[hk] at K ⊢;exact ih (I.perm fun e=>mem.mp) (E.perm fun e=>mem) (fun e m=>(b6.mp m).elim (fun m=>hw e (.tail _ m)) (z e)) (by
    have a:fE (es.map Pe.tp)+fE (es'.map Pe.tp)+1≤e.t.aU+fE (es.map Pe.tp):=by rw[bR e.t.aU,bP,←(vW we.1).1];exact cq (cI (q.symm▸ew.sz)) _
    rw[bt,sq];exact gY (aA a hz)) hr K
end
section
variable{pl:Pl}{N n0:Nat}{lv:Nat→Prop}{X F F':FS}{c c':Cs}{S S':Sb}{val val':Nat→Option Tm}{pd pd' es:List Pe}{e:Pe}{P:Sb→Prop}{b b':Bd}{k j n i:Nat}{t u w:Tm}{r:List Tm}{π σ:Sb}{L:List Nat}
theorem GV{Q:Prop}(h:NI S L t)(h1:∀x,t.app S=.v x→x∈L→Q)(h2:NL S L t→Q):Q:=h.elim (fun q=>fc q fun x e=>(ml (x∈L)).elim (h1 x e) fun n=>h2 fun y hy=>by rw[e] at hy;exact(show x=y from hy)▸n) h2
theorem Al(h:NI S L t)(h':NI S L u)(o:∀x,u.app S=.v x→x∈L→∃y,t.app S=.v y∧y∈L):Way S L t u:=GV h (fun x e m=>.inr ⟨x,e,m,h'⟩) fun n=>GV h' (fun x e m=>let ⟨y,e',m'⟩:=o x e m;absurd m' (n y (by rw[e'];rfl))) fun n'=>.inl ⟨n,n'⟩
variable{R:List ak→FS→Prop}{Fl:List Ev→Prop}{Dn:FS→Prop}{sig:Nat→Nat}{picks:List Nat}(rl:Rules R Fl Dn sig picks){is:List ak}(hF:(∀π,¬P π)→Fl X.evs)(inj:Inj pl N)(al:∀k,lv k)
include rl hF al
theorem ND(I:Inv pl N n0 X lv c F S val (e::pd))(E:Eqv pl N n0 P F.b val (e::pd)){p:Place}(hp:e.p=some p)(hr:F.rest=[])(he:e.t=.v k)(hv:pl.void k=false)(hk:k∈c.seen)(K:∀{F' S' val'},Inv pl N n0 X lv c F' S' val' pd→Eqv pl N n0 P F'.b val' pd→F'.rest=[]→R is F'):R (.il (place pl k) p::is) F:=by
 obtain⟨t,ht⟩:=I.sv k hk;have v:=I.vk k t ht;have q:=I.pk e (.head _);obtain⟨u1,w1⟩:=I.ok.aw.walks t;obtain⟨u2,w2⟩:=I.ok.aw.walks e.T;have b1:=w1.dA I.ok.cX v.bI;have b2:=w2.dA I.ok.cX q.bI;have n1:=(zV I.ok w1).mpr v.ni;have n2:=(zV I.ok w2).mpr q.ni;have iff:∀{π σ:Sb},Sat F.b σ→(∀k t,val k=some t→π k=t.app σ)→(Mt pl π e.t (e.T.app σ)↔u1.app σ=u2.app σ):=fun s vc=>(sA hv he).trans (by rw[vc k t ht,w1.sat s,w2.sat s])
 refine rl.il hr (v.hold (al k)) (q.jZ p hp).1 w1 w2 I.ok.aw I.ok.cX b1 b2 fun{s1 s2} cs=>cs.elim (fun⟨e1,e2,x,ex,mx⟩=>?_) fun⟨e1,e2,o⟩=>?_
 ·subst e1 e2;exact⟨fun M=>K (I.tl.meet (r:=F.rest) M b2 b1 (.inr ⟨x,by rw[←w2.sat I.ok.aw.sol];exact w2.vi I.ok.aw |>.mp ex,mx,n1⟩)) (E.met M fun s vc=>(iff s vc).trans eq_comm) hr,fun U=>I.fx.1▸hF (E.qN U fun s vc=>(iff s vc).trans eq_comm)⟩
 ·subst e1 e2;exact⟨fun M=>K (I.tl.meet (r:=F.rest) M b1 b2 (Al n1 n2 fun x ex mx=>by
   rw[←w2.sat I.ok.aw.sol] at ex;obtain⟨y,ey,my⟩:=o x ((w2.vi I.ok.aw).mpr ex) mx;exact⟨y,by rw[←w1.sat I.ok.aw.sol];exact(w1.vi I.ok.aw).mp ey,my⟩)) (E.met M iff) hr,fun U=>I.fx.1▸hF (E.qN U iff)⟩
include inj
theorem NZ(I:Inv pl N n0 X lv c F S val (e::pd))(E:Eqv pl N n0 P F.b val (e::pd)){p:Place}(hp:e.p=some p)(hr:F.rest=[])(K:∀{F' S' val'},Inv pl N n0 X lv (iq pl e.t p c).2 F' S' val' pd→Eqv pl N n0 P F'.b val' pd→F'.rest=[]→R is F'):R ((iq pl e.t p c).1++is) F:=by
 have q:=I.pk e (.head _);have cmp:bQ e.t=true→(∀{F' S' val'},Inv pl N n0 X lv (ng pl e.t p c).2 F' S' val' pd→Eqv pl N n0 P F'.b val' pd→F'.rest=[]→R is F')→R ((ng pl e.t p c).1++is) F:=fun hs K=>by
  have tp:[e].map Pe.tp=[(e.t,p)]:=by show[(e.t,e.p.getD (0,0))]=_;rw[hp];rfl
  unfold ng at K ⊢;rw[←tp] at K ⊢;exact SG rl hF inj al (es:=[e]) I E (fun e' m=>a6.mp m▸⟨hs,by unfold Pe.tp;rw[hp];rfl⟩) (ai _) hr K
 cases ht:e.t with
 |v k=>
  rw[ht] at K;unfold iq at K ⊢;by_cases hv:pl.void k=true
  ·dsimp only at K ⊢
   rw[aG hv] at K ⊢;exact K I.tl (E.void (by rw[ht];exact .inl hv)) hr
  ·dsimp only at K ⊢
   rw[aD hv] at K ⊢;have hv:=jA.mpr hv;by_cases hk:k∈c.seen
   ·rw[aG hk] at K ⊢;exact ND rl hF al I E hp hr ht hv hk K
   ·rw[aD hk] at K ⊢;exact rl.getVar hr (q.jZ p hp).1 q.bI (K (I.new (c':=(c.lM k).pZ k) (r:=F.rest) inj ht hv hk rfl rfl (fun j _ m m'=>m (pb.mpr (.inl m'))) fun m=>absurd (pb.mpr (.inr rfl)) m) (E.var ht hv (I.seen k hk)) hr)
 |c k z=>
  rw[ht] at K;have iff:∀{π σ:Sb},Sat F.b σ→(∀k t,val k=some t→π k=t.app σ)→(Mt pl π e.t (e.T.app σ)↔e.T.app σ=(Tm.c k z).app σ):=fun _ _=>by rw[ht];rfl
  exact rl.jR hr (q.jZ p hp).1 I.ok.aw I.ok.cX q.bI (fun M=>K (I.tl.meet (r:=F.rest) M q.bI .c (Al q.ni (.inr fun _ h=>h.elim) fun _ e=>nomatch e)) (E.met M iff) hr) fun U=>I.fx.1▸hF (E.qN U iff)
 |s1 f x=>rw[ht] at cmp K;exact cmp rfl K
 |s2 f x y=>rw[ht] at cmp K;exact cmp rfl K
omit rl hF inj al
noncomputable def oM:List Tm→List Tm→Nat→List Pe
 |t::ts,T::Ts,i=>⟨t,T,some (aP i),true⟩::oM ts Ts (i+1)
 |_,_,_=>[]
include rl hF inj al
theorem D3{ts:List Tm}:∀{Ts i c F S val},ts.length=Ts.length→Inv pl N n0 X lv c F S val (oM ts Ts i)→Eqv pl N n0 P F.b val (oM ts Ts i)→F.rest=[]→(∀{F' S' val'},Inv pl N n0 X lv (gL pl ts i c).2 F' S' val' []→Eqv pl N n0 P F'.b val' []→F'.rest=[]→R is F')→R ((gL pl ts i c).1++is) F:=by
 induction ts with
 |nil=>
  intro Ts i c F S val hl I E hr K;cases lW.mp hl.symm;exact K I E hr
 |cons t ts ih=>
  intro Ts i c F S val hl I E hr K
  cases Ts with
  |nil=>exact nomatch hl
  |cons T Ts=>
   show R ((iq pl t (aP i) c).1++_++is) F;rw[dX];exact NZ rl hF inj al (e:=⟨t,T,some (aP i),true⟩) I E rfl hr fun I E hr=>ih (oq hl) I E hr K
end
section
variable{pl:Pl}{N n0:Nat}{lv:Nat→Prop}{X F F':FS}{c c':Cs}{S S':Sb}{val val':Nat→Option Tm}{pd pd' es:List Pe}{e:Pe}{P:Sb→Prop}{b b':Bd}{k j n i:Nat}{t u w T:Tm}{r us as:List Tm}{π σ:Sb}{L:List Nat}
theorem RU:lB pl (.v k) n c=([.iK (place pl k) (aP n)],c):=rfl
theorem RT:lB pl (.s1 32 (.v k)) n c=(.putStr 32 (aP n)::(iy pl k c).1,(iy pl k c).2):=rfl
noncomputable def Ga(val:Nat→Option Tm)(lv:Nat→Prop)(t:Tm):Prop:=(t=.v (b5 t)∨t=.s1 32 (.v (b5 t)))∧lv (b5 t)∧∃T,val (b5 t)=some T
theorem Eqv.fresh(I:Inv pl N n0 X lv c F S val [])(E:Eqv pl N n0 P F.b val [])(hv:pl.void k=false){h:Option Place}:Eqv pl N n0 P F.b val [⟨.v k,.v (F.aI+1),h,false⟩]:=⟨fun s=>E.snd (kH.mp s).2,fun{π} p=>by
 obtain⟨σ,s⟩:=E.cmp p;have lo:∀m,m≤F.aI→(fun m=>if m≤F.aI then σ m else π k) m=σ m:=fun m h=>aG h
 refine⟨fun m=>if m≤F.aI then σ m else π k,kH.mpr ⟨.inr (aD (Nat.not_succ_le_self F.aI)).symm,fun x t h=>?_,fun m h1 h2=>(lo m (aA h2 I.sp)).trans (s.ag m h1 h2),fun k t h=>(s.vc k t h).trans (r0 (I.vk k t h).bI lo).symm,fun _ m=>nomatch m⟩⟩
 have r:=I.ok.cX _ (nJ h);exact(lo x (r.1.lo x rfl)).trans ((s.sat x t h).trans (r0 r.2 lo).symm)⟩
theorem Inv.XR(I:Inv pl N n0 X lv c F S val [])(nl:∀t,val k=some t→NL S F.loose t):Inv pl N n0 X lv {c with loc:=c.loc.filter (· != k)} F S val []:=⟨I.ok,I.sp,I.fx,I.seen,I.sv,fun j t h=>have v:=I.vk j t h
 ⟨v.bI,v.lt,v.nv,v.hold,v.ni,fun q=>by
  by_cases e:j=k
  ·exact nl t (e▸h)
  ·exact v.nl fun m=>q (fz.mpr ⟨m,lu.mpr e⟩)⟩,I.nt,fun _ m=>nomatch m⟩
variable{R:List ak→FS→Prop}{Fl:List Ev→Prop}{Dn:FS→Prop}{sig:Nat→Nat}{picks:List Nat}(rl:Rules R Fl Dn sig picks){is:List ak}(hF:(∀π,¬P π)→Fl X.evs)
include rl hF
theorem RQ(I:Inv pl N n0 X lv c F S val [])(E:Eqv pl N n0 P F.b val [])(hr:F.rest=[])(g:Ga val lv t)
  (K:∀{F' S' T},Inv pl N n0 X lv (lB pl t n c).2 F' S' val []→Eqv pl N n0 P F'.b val []→F'.rest=[]→F.aI≤F'.aI→F'.hold (aP n)=some T→af F'.aI T→(∀p,p≠aP n→F'.hold p=F.hold p)→(∀{π σ},dP pl N n0 F'.b val [] π σ→Sat F.b σ∧T.app σ=t.app π)→R is F'):R ((lB pl t n c).1++is) F:=by
 obtain⟨h,al,T,hv⟩:=g;generalize b5 t=k at*;have v:=I.vk k T hv;have nh:∀{h:Place→Option Tm} {T:Tm} {p},((∃k t,val k=some t∧p=place pl k)∨∃e∈([]:List Pe),e.p=some p)→pt F.hold (aP n) T p=F.hold p:=fun m=>aD (m.elim (fun⟨j,t,a,b⟩ x=>zu (pl:=pl) (c:=c) I.nt (I.vk j t a).lt (.inl rfl) (x.symm.trans b)) fun⟨_,m,_⟩=>nomatch m);rcases h with rfl|rfl
 ·rw[RU] at K ⊢;exact rl.iK hr (v.hold al) v.bI (K (I.mo (I.ok.same (r:=F.rest)) fun p m=>nh (h:=F.hold) m) E hr (ai _) (aG rfl) v.bI (fun p q=>aD q) fun s=>⟨s.sat,(s.vc k T hv).symm⟩)
 ·rw[RT] at K ⊢;have ok1:Mo F S {F with hold:=pt F.hold (aP n) (.s1 32 (.v (F.aI+1))),rest:=[.v (F.aI+1)],aI:=F.aI+1} S:=(I.ok.same (h:=pt F.hold (aP n) (.s1 32 (.v (F.aI+1)))) (r:=[])).trans (Ok.more ⟨I.ok.aw,I.ok.cX,I.ok.low⟩);have I1:=I.mo ok1 fun p m=>nh (h:=F.hold) m;have fr:NL S F.loose (.v (F.aI+1)):=fun x hx m=>by
   rw[show(Tm.v (F.aI+1)).app S=.v (F.aI+1) from I.ok.new (dY _)] at hx
   exact Nat.not_succ_le_self F.aI (show F.aI+1≤F.aI from(show F.aI+1=x from hx)▸I.ok.low x m)
  have I2:=I1.cons (e:=⟨.v k,.v (F.aI+1),none,false⟩) ⟨.v (ai _),.inr fr,fun _=>fr,(fun p h=>nomatch h),bx,fun j h=>(show k=j from h)▸v.lt⟩
  have E2:=Eqv.fresh (h:=none) I E v.nv;have so:∀{b':Bd} {π σ:Sb},dP pl N n0 F.b val [⟨.v k,.v (F.aI+1),none,false⟩] π σ→Sat F.b σ∧(Tm.s1 32 (.v (F.aI+1))).app σ=(Tm.s1 32 (.v k)).app π:=fun s=>⟨s.sat,aE (Tm.s1 32) ((s.pd _ (.head _)).resolve_left (by rw[v.nv];exact ax)).symm⟩
  have tb:∀{m},F.aI+1≤m→af m (.s1 32 (.v (F.aI+1))):=fun h=>⟨fun x q=>(show F.aI+1=x from q)▸h,⟨rfl,bx⟩,(by decide:1≤100)⟩
  refine rl.putStr hr ?_;unfold iy at K ⊢;by_cases h2:k∈c.loc
  ·rw[aG h2] at K ⊢;refine Fv rl hF (.inr rfl) I2 E2 rfl (sA v.nv rfl) hv al rfl fun{b' S' l} sl nl I E=>?_;refine K (S':=S') ?_ E rfl (cB _) (aG rfl) (tb (ai _)) (fun p q=>aD q) fun s=>so (b':=F.b) (sl s);by_cases hp:pl.perm k=true
   ·rw[aG hp];exact I
   ·rw[aD hp];exact I.XR fun t h=>av (hv.symm.trans h)▸nl
  ·rw[aD h2] at K ⊢;exact Ij rl hF (.inr rfl) I2 E2 rfl (sA v.nv rfl) hv al h2 rfl fun sl I E=>K I E rfl (cB _) (aG rfl) (tb (ai _)) (fun p q=>aD q) fun s=>so (b':=F.b) (sl s)
theorem RW{as:List Tm}:∀{n c F S},Inv pl N n0 X lv c F S val []→Eqv pl N n0 P F.b val []→F.rest=[]→(∀t∈as,Ga val lv t)→
  (∀{F' S'} {us:List Tm},Inv pl N n0 X lv (gp pl as n c).2 F' S' val []→Eqv pl N n0 P F'.b val []→F'.rest=[]→F.aI≤F'.aI→as.length=us.length→(∀i t,us[i]?=some t→F'.hold (aP (n+i))=some t∧af F'.aI t)→(∀p,(p.1=97→p.2<n)→F'.hold p=F.hold p)→(∀{π σ},dP pl N n0 F'.b val [] π σ→Sat F.b σ∧us.map (Tm.app σ)=as.map (Tm.app π))→R is F')→R ((gp pl as n c).1++is) F:=by
 induction as with
 |nil=>exact fun I E hr g K=>K (us:=[]) I E hr (ai _) rfl (fun _ _ h=>nomatch h) (fun _ _=>rfl) fun s=>⟨s.sat,rfl⟩
 |cons t as ih=>
  intro n c F S I E hr g K;show R ((lB pl t n c).1++_++is) F;rw[dX];refine RQ rl hF I E hr (g t (.head _)) fun{F1 S1 T} I E hr sp h1 b1 o1 s1=>ih I E hr (fun t m=>g t (.tail _ m)) fun{F2 S2 us} I E hr sp2 hl h2 o2 s2=>?_;refine K (us:=T::us) I E hr (aA sp sp2) (aE Nat.succ hl) (fun i t h=>?_) (fun p h=>(o2 p fun q=>wL (h q)).trans (o1 p fun q=>eA n (by rw[q] at h;exact h rfl))) fun s=>⟨(s1 ⟨(s2 s).1,s.ag,s.vc,s.pd⟩).1,by rw[cO,cO,(s2 s).2,(s1 ⟨(s2 s).1,s.ag,s.vc,s.pd⟩).2]⟩
  cases i with
  |zero=>cases h;exact⟨(o2 (aP n) fun _=>dY n).trans h1,b1.mono sp2⟩
  |succ i=>rw[bR i 1,←bP];exact h2 i t h
end
theorem ah.ind{b:Bd}{S:Sb}(M:ah b S){P:Nat→Prop}(h0:∀n,b.at n=none→P n)(h1:∀n t,b.at n=some t→(∀m,t.has m→P m)→P n):∀n,P n:=by
 obtain⟨r,hr⟩:=M.rank;have key:∀(k j n:Nat),(S n).aU<k→r n<j→P n:=by
  intro k
  induction k with
  |zero=>exact fun _ _ h=>absurd h (q5 _)
  |succ k ihk=>
   intro j
   induction j with
   |zero=>exact fun _ _ h=>absurd h (q5 _)
   |succ j ihj=>
    intro n hk hj
    cases e:b.at n with
    |none=>exact h0 n e
    |some t=>
     have hs:=M.sol n t e;refine h1 n t e fun m hm=>?_
     cases hv:t.bN with
     |false=>exact ihk (r m+1) m (bj (hs▸D2 hm fun e=>nomatch (e▸hv:(Tm.v m).bN=false)) (oh hk)) (dY _)
     |true=>
      refine fc hv fun x ex=>?_;subst ex;cases (show x=m from hm)
      exact ihj m (bb (bS (aE Tm.aU hs.symm)) hk) (bj (hr n m e) (oh hj))
 exact fun n=>key _ _ n (dY _) (dY _)
theorem Hf{b:Bd}{S:Sb}(M:ah b S){N:Nat→Prop}(h:BQ (fun t=>∀n,t.has n→N n) b):∀n,N n→∀y,(S n).has y→N y:=M.ind (fun n e h y hy=>by rw[M.id n e] at hy;exact(show n=y from hy)▸h) fun n t e ih _ y hy=>by
 rw[M.sol n t e] at hy;obtain⟨m,h1,h2⟩:=mC.mp hy;exact ih m h1 ((h _ (nJ e)).2 m h1) y h2
structure iY(us ws:List Tm)(τ ω:Sb):Prop where
 to:us.map (Tm.app τ)=ws
 back:ws.map (Tm.app ω)=us
theorem iY.C3{us ws:List Tm}{τ ω:Sb}(V:iY us ws τ ω):iw us=iw ws∧eX τ ω (bG us) (bG ws):=V.to▸RG (V.to▸V.back) .nil
theorem iY.iw{us ws:List Tm}{τ ω:Sb}(V:iY us ws τ ω):iw us=iw ws:=V.C3.1
theorem iY.names{us ws:List Tm}{τ ω:Sb}(V:iY us ws τ ω):eX τ ω (bG us) (bG ws):=V.C3.2
noncomputable def At(vs:List Tm)(x:Nat)(c:Tm)(ts:List Tm):Prop:=∃σ:Sb,ts=vs.map (Tm.app σ)∧σ x=c
theorem Ji{vs ts:List Tm}{x:Nat}{c:Tm}{σ:Sb}(m:x∈bG vs)(h:ts=vs.map (Tm.app σ)):At vs x c ts↔σ x=c:=⟨fun⟨_,e,q⟩=>(map_inj m (h.symm.trans e)).trans q,fun q=>⟨σ,h,q⟩⟩
section
variable{pl:Pl}{N n0:Nat}{lv:Nat→Prop}{X F F':FS}{c c':Cs}{S S' Sp:Sb}{val val':Nat→Option Tm}{P:Sb→Prop}{b b':Bd}{k j n i x y:Nat}{t u w T:Tm}{us as ks l l':List Tm}{π σ τ ω:Sb}{L:List Nat}{picks:List Nat}
noncomputable def Good(pl:Pl)(N n0 n:Nat):Prop:=(n<N∧pl.void n=false)∨(N≤n∧n≤n0)
structure Lk(pl:Pl)(N n0:Nat)(P:Sb→Prop)(b:Bd)(Sp:Sb)(ks:List Tm)(bF:Bd)(kF:List Tm)(val:Nat→Option Tm):Prop where
 mp:ah b Sp
 pp:∀π,P π↔∃π',Sat b π'∧∀n,Good pl N n0 n→π' n=π n
 ke:∀{π σ},dP pl N n0 bF val [] π σ→ks.map (Tm.app π)=kF.map (Tm.app σ)
 kv:∀t∈ks,∀n,t.has n→Good pl N n0 n
theorem zD(ha:∀t∈as,∀n,t.has n→Good pl N n0 n)(h:∀n,Good pl N n0 n→π n=σ n):as.map (Tm.app π)=as.map (Tm.app σ):=g8 fun t m=>app_congr fun n q=>h n (ha t m n q)
theorem R9:(us.map (Tm.app τ)).map (Tm.app σ)=us.map (Tm.app fun n=>(τ n).app σ):=by rw[fJ];exact g8 fun t _=>fP σ τ t
theorem zE(M:ah b S)(h:Sat b σ):(us.map (Tm.app S)).map (Tm.app σ)=us.map (Tm.app σ):=by rw[fJ];exact g8 fun t _=>M.zI h t
theorem AR(M:ah b S)(hv:∀k t,val k=some t→k<N):∃π,dP pl N n0 b val [] π S:=⟨fun n=>if n<N then((val n).getD (.v n)).app S else S n,M.sol,fun n h _=>(aD (fL.mpr h)).symm,fun k t h=>(aG (hv k t h)).trans (by rw[h];rfl),fun _ m=>nomatch m⟩
theorem Ak{kF:List Tm}(E:Eqv pl N n0 P b' val [])(M:ah b' S)(L:Lk pl N n0 P b Sp ks b' kF val)(hv:∀k t,val k=some t→k<N)(hu:∀{π σ},dP pl N n0 b' val [] π σ→as.map (Tm.app π)=us.map (Tm.app σ))(ha:∀t∈as,∀n,t.has n→Good pl N n0 n):∃τ ω,iY (as.map (Tm.app Sp)) (us.map (Tm.app S)) τ ω:=by
 obtain⟨π,s⟩:=AR (pl:=pl) (n0:=n0) M hv;obtain⟨τ,h1,h2⟩:=(L.pp π).mp (E.snd s);obtain⟨ω,s'⟩:=E.cmp ((L.pp Sp).mpr ⟨Sp,L.mp.sol,fun _ _=>rfl⟩);exact⟨τ,ω,by rw[zE L.mp h1,zD ha h2,hu s],by rw[zE M s'.sat,hu s']⟩
theorem UA{l l':List Nat}(h:l.length=l'.length){Q:Prop}(h0:ix l n picks=none→ix l' n picks=none→Q)(h1:∀(j x y:Nat),l[j]?=some x→l'[j]?=some y→ix l n picks=some x→ix l' n picks=some y→Q):Q:=by
 unfold ix at h0 h1;have e:l≠[]↔l'≠[]:=not_congr (by rw[←lW,h,lW])
 by_cases q:l≠[]∧0<(picks[n % picks.length]?).getD 0
 ·have hp:=wD.mpr q.1;rw[aG q,aG ⟨e.mp q.1,q.2⟩,←h] at h1;have e1:=bh (q4 ((picks[n % picks.length]?).getD 0) hp);have e2:=bh (l:=l') (i:=(picks[n % picks.length]?).getD 0 % l.length) (h▸q4 ((picks[n % picks.length]?).getD 0) hp);exact h1 _ _ _ e1 e2 e1 e2
 ·rw[aD q,aD fun z=>q ⟨e.mpr z.1,z.2⟩] at h0;exact h0 rfl rfl
theorem u5(M:ah b S)(h:x∈bG (us.map (Tm.app S))):b.at x=none:=by
 obtain⟨t,ht,hn⟩:=(mG.mp h).resolve_left dM;obtain⟨u,_,rfl⟩:=cg.mp ht;obtain⟨m,hm,hx⟩:=mC.mp hn;exact M.free hx
theorem zG(M:ah b S)(hx:b.at x=none){k:Bool}{z:Int}:∃S',Met b S (.v x) (.c k z) (b++[(x,.c k z)]) S':=
 ⟨_,((dN.start M (.v x) (.c k z)).bound (x:=x) (u:=.c k z) (fun _ _=>Iff.rfl) hx (fun _ e=>nomatch e) (fun h=>h) (fun n h=>.inl (by
  show(S x).has n;rw[M.id x hx];exact(h.resolve_right fun q=>q).symm)) (fun _ _ _ h1 h2=>⟨h1,h2⟩) (.inl ⟨M.id x hx,rfl⟩)).done⟩
theorem CP{c:Tm}{vs:List Tm}(M:ah b S)(m:x∈bG vs)(e:vs.map (Tm.app τ)=as.map (Tm.app S))(ex:τ x=.v y)(h:Sat b σ):At vs x c (as.map (Tm.app σ))↔σ y=c:=(Ji (σ:=fun n=>(τ n).app σ) m (by rw[←zE M h,←e,R9])).trans (by rw[ex];exact .rfl)
theorem LQ(O:Ok F S)(E:Eqv pl N n0 P F.b val [])(L:Lk pl N n0 P b Sp ks F.b F.kept val)(hv:∀k t,val k=some t→k<N)(hu:∀{π σ},dP pl N n0 F.b val [] π σ→as.map (Tm.app π)=us.map (Tm.app σ))(ha:∀t∈as,∀n,t.has n→Good pl N n0 n)(ib:∀t∈us,af F.aI t){f:Nat}{Q:Prop}
  (K:∀{Sp' S' P'},Mo F S {F with b:=(event F.b S f us F.evs picks).1} S'→Eqv pl N n0 P' (event F.b S f us F.evs picks).1 val []→Lk pl N n0 P' (event b Sp f as F.evs picks).1 Sp' (ks++as) (event F.b S f us F.evs picks).1 (F.kept++us) val→(event b Sp f as F.evs picks).2=(event F.b S f us F.evs picks).2→Q):Q:=by
 obtain⟨τ,ω,V⟩:=Ak E O.aw L hv hu ha;have ev:(event b Sp f as F.evs picks).2=(event F.b S f us F.evs picks).2:=by unfold event;rw[V.iw]
 have ke:∀{π σ},dP pl N n0 F.b val [] π σ→(ks++as).map (Tm.app π)=(F.kept++us).map (Tm.app σ):=fun s=>by rw[bt,bt,L.ke s,hu s]
 have kv:∀t∈ks++as,∀n,t.has n→Good pl N n0 n:=fun t m=>(b6.mp m).elim (L.kv t) (ha t);unfold event at K;refine UA (n:=F.evs.length+1) (picks:=picks) V.names.len (fun e1 e2=>?_) fun j x y hx hy e1 e2=>?_
 ·rw[e1,e2] at K;exact K (O.same (h:=F.hold) (r:=F.rest)) E ⟨L.mp,L.pp,ke,kv⟩ ev
 ·rw[e1,e2] at K;have mx:=dj hx;have fx:=u5 L.mp mx;have fy:=u5 O.aw (dj hy);obtain⟨Sp',Mx⟩:=zG L.mp fx (k:=false) (z:=700+((F.evs.length+1:Nat):Int));obtain⟨S',My⟩:=zG O.aw fy (k:=false) (z:=700+((F.evs.length+1:Nat):Int));have yb:af F.aI (.v y):=by
   obtain⟨t,ht,hn⟩:=(mG.mp (dj hy)).resolve_left dM;obtain⟨u,hu,rfl⟩:=cg.mp ht;obtain⟨m,hm,hx⟩:=mC.mp hn;refine .v ?_;exact Hf O.aw (N:=fun n=>n≤F.aI) (fun p m=>⟨(O.cX p m).1.lo,(O.cX p m).2.lo⟩) m ((ib u hu).lo m hm) y hx
  have sx:∀{σ},Sat (b++[(x,.c false (700+((F.evs.length+1:Nat):Int)))]) σ↔Sat b σ∧At (as.map (Tm.app Sp)) x (.c false (700+((F.evs.length+1:Nat):Int))) (as.map (Tm.app σ)):=fun{σ}=>(Mx.sat σ).trans (and_congr_right fun h=>(CP L.mp (τ:=.v) mx (List.map_id'' nI _) rfl h).symm);have sy:∀{σ},Sat (F.b++[(y,.c false (700+((F.evs.length+1:Nat):Int)))]) σ↔Sat F.b σ∧At (as.map (Tm.app Sp)) x (.c false (700+((F.evs.length+1:Nat):Int))) (us.map (Tm.app σ)):=fun{σ}=>(My.sat σ).trans (and_congr_right fun h=>(CP O.aw mx V.to (V.names.at_ j x y hx hy) h).symm);refine K (P':=fun π=>P π∧At (as.map (Tm.app Sp)) x (.c false (700+((F.evs.length+1:Nat):Int))) (as.map (Tm.app π))) (My.mo (r:=F.rest) O yb .c (Al (.inl (by rw[show(Tm.v y).app S=.v y from O.aw.id y fy];rfl)) (.inr fun _ h=>h.elim) fun _ e=>nomatch e)) ⟨fun s=>?_,fun⟨p1,p2⟩=>?_⟩ ⟨Mx.aw,fun π=>⟨fun⟨p1,p2⟩=>?_,fun⟨π',h1,h2⟩=>?_⟩,fun s=>ke ((qB fun σ=>sy).mp s).2,kv⟩ ev
  ·have s:=(qB fun σ=>sy).mp s;exact⟨E.snd s.2,hu s.2▸s.1⟩
  ·obtain⟨σ,s⟩:=E.cmp p1;exact⟨σ,(qB fun σ=>sy).mpr ⟨hu s▸p2,s⟩⟩
  ·obtain⟨π',h1,h2⟩:=(L.pp π).mp p1;exact⟨π',sx.mpr ⟨h1,zD ha h2▸p2⟩,h2⟩
  ·have h3:=sx.mp h1;exact⟨(L.pp π).mpr ⟨π',h3.1,h2⟩,zD ha h2▸h3.2⟩
end
noncomputable def br(n:Nat):Tm→Nat
 | .v m=>if m=n then 1 else 0
 | .c _ _=>0
 | .s1 _ x=>br n x
 | .s2 _ x y=>br n x+br n y
noncomputable def bZ(k:Nat):List Tm→Nat
 | []=>0
 |t::ts=>br k t+bZ k ts
theorem vC{n:Nat}{t:Tm}(h:t.has n):1≤br n t:=by
 induction t with
 |v m=>exact bS (aG h).symm
 |c=>exact h.elim
 |s1 f x ih=>exact ih h
 |s2 f x y i1 i2=>exact h.elim (fun h=>aA (i1 h) (aT _ _)) fun h=>aA (i2 h) (b9 _ _)
theorem p5{k:Nat}{ts:List Tm}{t:Tm}(m:t∈ts)(h:t.has k):1≤bZ k ts:=by
 induction ts with
 |nil=>exact nomatch m
 |cons u ts ih=>exact(a8.mp m).elim (fun e=>aA (vC (e▸h)) (aT _ _)) fun m=>aA (ih m) (b9 _ _)
theorem XJ{a b:Nat}(h:a+b≤1)(h1:1≤a)(h2:1≤b){P:Prop}:P:=absurd (aA (d9 h1 h2) h) (by decide)
section
variable{pl:Pl}{π ρ σ:Sb}{N n0:Nat}{args call:List Tm}
noncomputable def Ov(pl:Pl)(π ρ:Sb):Prop:=∀k,pl.void k=false→ρ k=π k
theorem Sh{t:Tm}(h:∀k,t.has k→pl.void k=false→ρ k=π k):Mt pl π t (t.app ρ):=by
 induction t with
 |v k=>cases e:pl.void k with
  |true=>exact .inl e
  |false=>exact .inr (h k rfl e).symm
 |c=>rfl
 |s1 f x ih=>exact⟨_,rfl,ih h⟩
 |s2 f x y i1 i2=>exact⟨_,_,rfl,i1 fun k q=>h k (.inl q),i2 fun k q=>h k (.inr q)⟩
open Classical in
theorem mix{ρ1 ρ2:Sb}(h1:Ov pl π ρ1)(h2:Ov pl π ρ2)(A:Nat→Prop):∃ρ,Ov pl π ρ∧(∀n,A n→ρ n=ρ1 n)∧∀n,(A n→pl.void n=false)→ρ n=ρ2 n:=⟨fun n=>if A n then ρ1 n else ρ2 n,fun k e=>by by_cases q:A k;exact(aG q).trans (h1 k e);exact(aD q).trans (h2 k e),fun n q=>aG q,fun n e=>by by_cases q:A n;exact(aG q).trans ((h1 n (e q)).trans (h2 n (e q)).symm);exact aD q⟩
theorem Gi{k:Nat}{x:Tm}{n:Nat}(h:pl.void k=true→br k x+n≤1)(hx:x.has k)(hy:1≤n):pl.void k=false:=by
 cases e:pl.void k with
 |true=>exact XJ (h e) (vC hx) hy
 |false=>rfl
theorem Se{t:Tm}:∀{w:Tm},(∀k,pl.void k=true→br k t≤1)→Mt pl π t w→∃ρ,Ov pl π ρ∧t.app ρ=w:=by
 induction t with
 |v k=>
  intro w _ h;by_cases e:pl.void k=true
  ·exact⟨fun n=>if n=k then w else π n,⟨fun j hj=>aD fun(q:j=k)=>ax (hj.symm.trans (q▸e)),aG rfl⟩⟩
  ·exact⟨π,fun _ _=>rfl,h.resolve_left e⟩
 |c b z=>exact fun _ h=>⟨π,fun _ _=>rfl,Eq.symm h⟩
 |s1 f x ih=>
  intro w o ⟨y,e,h⟩;obtain⟨ρ,h1,h2⟩:=ih o h;exact⟨ρ,h1,(aE (Tm.s1 f) h2).trans e.symm⟩
 |s2 f x y i1 i2=>
  intro w o ⟨x',y',e,hx,hy⟩;obtain⟨ρ1,h1,e1⟩:=i1 (fun k q=>aA (aT _ _) (o k q)) hx;obtain⟨ρ2,h2,e2⟩:=i2 (fun k q=>aA (b9 _ _) (o k q)) hy;obtain⟨ρ,h,m1,m2⟩:=mix h1 h2 x.has;exact⟨ρ,h,by rw[wz,app_congr m1,app_congr (t:=y) fun n hn=>m2 n fun q=>Gi (o n) q (vC hn),e1,e2,e]⟩
theorem SW{ts:List Tm}:∀{Ts:List Tm} {i:Nat},ts.length=Ts.length→(∀k,pl.void k=true→bZ k ts≤1)→(∀e∈oM ts Ts i,Mt pl π e.t (e.T.app σ))→∃ρ,Ov pl π ρ∧ts.map (Tm.app ρ)=Ts.map (Tm.app σ):=by
 induction ts with
 |nil=>exact fun hl _ _=>⟨π,fun _ _=>rfl,by cases lW.mp hl.symm;rfl⟩
 |cons t ts ih=>
  intro Ts i hl o h
  cases Ts with
  |nil=>exact nomatch hl
  |cons T Ts=>
   obtain⟨ρ1,h1,e1⟩:=Se (fun k q=>aA (aT _ _) (o k q)) (h _ (.head _));obtain⟨ρ2,h2,e2⟩:=ih (oq hl) (fun k q=>aA (b9 _ _) (o k q)) fun e m=>h e (.tail _ m);obtain⟨ρ,h,m1,m2⟩:=mix h1 h2 t.has;refine⟨ρ,h,?_⟩;rw[cO,cO,app_congr m1,show t.app ρ1=T.app σ from e1,←e2]
   exact aE (List.cons _) (g8 fun u m=>app_congr fun n hn=>m2 n fun q=>Gi (o n) q (p5 m hn))
theorem Iu{ts:List Tm}:∀{Ts:List Tm} {i:Nat} {e:Pe},e∈oM ts Ts i→∃j,ts[j]?=some e.t∧Ts[j]?=some e.T∧e.p=some (aP (i+j))∧e.h=true:=by
 induction ts with
 |nil=>exact fun m=>nomatch m
 |cons t ts ih=>
  intro Ts i e m
  cases Ts with
  |nil=>exact nomatch m
  |cons T Ts=>exact(a8.mp m).elim (fun q=>q▸⟨0,rfl,rfl,rfl,rfl⟩) fun m=>(let ⟨j,a,b,c,d⟩:=ih m;⟨j+1,a,b,by rw[c,hE,bP],d⟩)
noncomputable def v5(pl:Pl)(N n0:Nat)(args call:List Tm)(π:Sb):Prop:=∃ρ:Sb,args.map (Tm.app ρ)=call.map (Tm.app ρ)∧∀n,Good pl N n0 n→ρ n=π n
theorem DN(hl:args.length=call.length)(once:∀k,pl.void k=true→bZ k args≤1)(va:∀t∈args,∀n,t.has n→n<N)(vc:∀t∈call,∀n,t.has n→N≤n∧n≤n0):Eqv pl N n0 (v5 pl N n0 args call) [] (fun _=>none) (oM args call 1):=by
 refine⟨fun{π σ} s=>?_,fun{π} ⟨ρ,h1,h2⟩=>⟨ρ,⟨(fun _ _ e=>nomatch e),fun n a b=>h2 n (.inr ⟨a,b⟩),(fun _ _ e=>nomatch e),fun e m=>?_⟩⟩⟩
 ·obtain⟨ρ,h1,h2⟩:=SW hl once s.pd;refine⟨fun n=>if n<N then ρ n else π n,?_,fun n g=>g.elim (fun g=>(aG g.1).trans (h1 n g.2)) fun g=>aD (fL.mpr g.1)⟩
  rw[g8 (g:=Tm.app ρ) fun t m=>app_congr fun n hn=>aG (va t m n hn),h2];exact g8 fun t m=>app_congr fun n hn=>(s.ag n (vc t m n hn).1 (vc t m n hn).2).trans (aD (fL.mpr (vc t m n hn).1)).symm
 ·obtain⟨j,a,b,_⟩:=Iu m;have e1:(args.map (Tm.app ρ))[j]?=(call.map (Tm.app ρ))[j]?:=by rw[h1]
  rw[fI,fI,a,b] at e1;exact av e1▸Sh fun k hk hv=>h2 k (.inl ⟨va _ (dj a) k hk,hv⟩)
end
noncomputable def jS(pl:Pl)(la:Nat)(e:Bool):List (Nat×List Tm)→Cs→List ak
 | [],_=>[]
 |g::gs,c=>(gp pl g.2 1 c).1++(if gs.isEmpty=true then(if e=true then[.hV] else[])++[.exec g.1] else .call g.1 la::jS pl la e gs (gp pl g.2 1 c).2)
noncomputable def gf(pl:Pl)(N la:Nat)(e:Bool)(es:Nat)(args:List Tm)(goals:List (Nat×List Tm)):List ak:=(if e=true then[.alloc es] else[])++((gL pl args 1 ⟨[],[],N⟩).1++jS pl la e goals (gL pl args 1 ⟨[],[],N⟩).2)
section
variable{pl:Pl}{k:Nat}
theorem R4{t:Tm}{c:Cs}(hs:bQ t=false)(h:k∈c.seen∨(pl.void k=false∧t.has k)):k∈(iH pl t c).2.seen:=by
 cases t with
 |v j=>
  show k∈(jz pl j c).2.seen;unfold jz;by_cases q:j∈c.seen
  ·rw[aG q]
   have:k∈c.seen:=h.elim id fun h=>(show j=k from h.2)▸q
   by_cases q2:j∈c.loc
   ·rw[aG q2];exact this
   ·rw[aD q2];exact this
  ·rw[aD q];exact pb.mpr (h.imp id fun h=>(show j=k from h.2).symm)
 |c=>exact h.elim id fun h=>h.2.elim
 |s1=>exact nomatch hs
 |s2=>exact nomatch hs
theorem R1{as:List Tm}:∀{n:Nat} {c:Cs},(k∈c.seen∨(pl.void k=false∧∃a∈as,a.has k))→k∈(bo pl as n c).2.1.seen∨(pl.void k=false∧∃q∈(bo pl as n c).2.2,q.1.has k):=by
 induction as with
 |nil=>exact fun h=>.inl (h.elim id fun h=>(let ⟨_,m,_⟩:=h.2;nomatch m))
 |cons t as ih=>
  intro n c h;have h:(k∈c.seen∨(pl.void k=false∧t.has k))∨(pl.void k=false∧∃a∈as,a.has k):=h.elim (fun h=>.inl (.inl h)) fun⟨v,a,m,q⟩=>(a8.mp m).elim (fun e=>.inl (.inr ⟨v,e▸q⟩)) fun m=>.inr ⟨v,a,m,q⟩
  cases hs:bQ t with
  |true=>
   rw[r8 hs];refine h.elim (fun h=>h.elim (fun h=>?_) fun h=>.inr ⟨h.1,_,.head _,h.2⟩) fun h=>?_
   ·exact(ih (c:=c.iN) (.inl h)).imp id fun⟨v,q,m,x⟩=>⟨v,q,.tail _ m,x⟩
   ·exact(ih (c:=c.iN) (.inr h)).imp id fun⟨v,q,m,x⟩=>⟨v,q,.tail _ m,x⟩
  |false=>cases hv:jv pl t with
   |true=>
    rw[r7 hs hv];refine ih (h.imp (fun h=>h.elim id fun h=>?_) id)
    cases t with
    |v j=>exact absurd (hv.symm.trans ((aE pl.void (show j=k from h.2)).trans h.1)) (by decide)
    |_=>exact nomatch hv
   |false=>
    rw[r6 hs hv];exact ih (h.imp (R4 hs) id)
theorem NU{t:Tm}(hs:bQ t=true)(h:t.has k):∃a∈bT t,a.has k:=by
 cases t with
 |v=>exact nomatch hs
 |c=>exact nomatch hs
 |s1 f x=>exact⟨x,.head _,h⟩
 |s2 f x y=>exact h.elim (fun h=>⟨x,.head _,h⟩) fun h=>⟨y,.tail _ (.head _),h⟩
theorem xg{n:Nat}:(gJ n).length≤1:=by
 unfold gJ;by_cases h:n=0
 ·rw[aG h];exact bW _
 ·rw[aD h];exact ai _
theorem R2{t:Tm}{c:Cs}:(iH pl t c).1.length≤1:=by
 cases t with
 |v j=>
  show(jz pl j c).1.length≤1;unfold jz;by_cases q:j∈c.seen
  ·rw[aG q];by_cases q2:j∈c.loc
   ·rw[aG q2];exact ai _
   ·rw[aD q2];exact ai _
  ·rw[aD q];exact ai _
 |c=>exact ai _
 |s1=>exact bW _
 |s2=>exact bW _
theorem Fe{a b m l:Nat}(h1:a≤1)(h2:b≤1)(h3:m≤2*l+1):a+(b+m)≤2*(l+1)+1:=by omega
theorem Rz{as:List Tm}:∀{n:Nat} {c:Cs},(bo pl as n c).1.length≤2*as.length+1:=by
 induction as with
 |nil=>exact xg
 |cons t as ih=>
  intro n c
  cases hs:bQ t with
  |true=>rw[r8 hs,a5,dK,bR _ 1];exact Fe xg (ai 1) ih
  |false=>cases hv:jv pl t with
   |true=>rw[r7 hs hv];exact aA ih (bp (dO 2 (cB _)) 1)
   |false=>rw[r6 hs hv,a5,a5];exact Fe xg R2 ih
theorem Q8{s a x q l:Nat}(h1:a+1=s)(h2:x≤a)(h3:l≤2*2+1){m:Nat}(h4:m≤6*(q+x)):l+m+1≤6*(s+q):=by omega
theorem Q9{s a x q n:Nat}(h1:a+1=s)(h2:x≤a)(h:s+q≤n+1):q+x≤n:=by omega
theorem SH{n:Nat}:∀{q:List (Tm×Place)} {c:Cs},fE q≤n→(∀x∈q,bQ x.1=true)→((k∈c.seen∨(pl.void k=false∧∃x∈q,x.1.has k))→k∈(jT pl n q c).2.seen)∧(jT pl n q c).1.length≤6*fE q:=by
 induction n with
 |zero=>
  intro q c z w
  cases q with
  |nil=>exact⟨fun h=>h.elim id (fun⟨_,_,m,_⟩=>nomatch m),bW _⟩
  |cons x q=>exact absurd (aA x.1.mZ (aA (aT _ _) z)) (iV 0)
 |succ n ih=>
  intro q c z w
  cases q with
  |nil=>exact⟨fun h=>h.elim id (fun⟨_,_,m,_⟩=>nomatch m),bW _⟩
  |cons x q=>
   have hs:=w x (.head _);have wt:=As (pl:=pl) (ts:=bT x.1) (n:=0) (c:=c);have sa:=vW hs;have i:=ih (q:=q++(bo pl (bT x.1) 0 c).2.2) (c:=(bo pl (bT x.1) 0 c).2.1) (by rw[sq];exact Q9 sa.1 wt.sz z) fun y m=>(b6.mp m).elim (fun m=>w y (.tail _ m)) (wt.s y)
   refine⟨fun h=>i.1 ?_,?_⟩
   ·have h:(k∈c.seen∨(pl.void k=false∧x.1.has k))∨(pl.void k=false∧∃y∈q,y.1.has k):=h.elim (fun h=>.inl (.inl h)) fun⟨v,a,m,q⟩=>(a8.mp m).elim (fun e=>.inl (.inr ⟨v,e▸q⟩)) fun m=>.inr ⟨v,a,m,q⟩;refine h.elim (fun h=>?_) fun⟨v,y,m,z⟩=>.inr ⟨v,y,gX _ m,z⟩;exact(R1 (h.imp id fun h=>⟨h.1,NU hs h.2⟩)).imp id fun⟨v,y,m,z⟩=>⟨v,y,jl _ m,z⟩
   ·show(_::((bo pl (bT x.1) 0 c).1++_)).length≤6*(x.1.aU+fE q);have z:=i.2;rw[sq] at z;rw[dK,a5];exact Q8 sa.1 wt.sz (aA Rz (bp (dO 2 sa.2.1) 1)) z
theorem Na{t:Tm}{p:Place}{c:Cs}:((k∈c.seen∨(pl.void k=false∧t.has k))→k∈(iq pl t p c).2.seen)∧(iq pl t p c).1.length≤6*t.aU:=by
 have cmp:bQ t=true→((k∈c.seen∨(pl.void k=false∧t.has k))→k∈(ng pl t p c).2.seen)∧(ng pl t p c).1.length≤6*t.aU:=fun hs=>
  have i:=SH (pl:=pl) (k:=k) (n:=t.aU) (q:=[(t,p)]) (c:=c) (ai _) fun x m=>a6.mp m▸hs
  ⟨fun h=>i.1 (h.imp id fun h=>⟨h.1,_,.head _,h.2⟩),i.2⟩
 cases t with
 |v j=>
  unfold iq
  dsimp only
  by_cases v:pl.void j=true
  ·rw[aG v];exact⟨fun h=>h.elim id fun h=>absurd (v.symm.trans ((aE pl.void (show j=k from h.2)).trans h.1)) (by decide),bW _⟩
  ·rw[aD v];by_cases q:j∈c.seen
   ·rw[aG q];exact⟨fun h=>h.elim id fun h=>(show j=k from h.2)▸q,(by decide:1≤6*1)⟩
   ·rw[aD q];exact⟨fun h=>pb.mpr (h.imp id fun h=>(show j=k from h.2).symm),(by decide:1≤6*1)⟩
 |c=>exact⟨fun h=>h.elim id fun h=>h.2.elim,(by decide:1≤6*1)⟩
 |s1=>exact cmp rfl
 |s2=>exact cmp rfl
noncomputable def jc(ts:List Tm):Nat:=(ts.map Tm.aU).sum
theorem yI{ts:List Tm}:∀{n:Nat} {c:Cs},((k∈c.seen∨(pl.void k=false∧∃t∈ts,t.has k))→k∈(gL pl ts n c).2.seen)∧(gL pl ts n c).1.length≤6*jc ts:=by
 induction ts with
 |nil=>exact fun{n c}=>⟨fun h=>h.elim id (fun⟨_,_,m,_⟩=>nomatch m),bW _⟩
 |cons t ts ih=>
  intro n c;have i:=ih (n:=n+1) (c:=(iq pl t (aP n) c).2);have a:=Na (pl:=pl) (k:=k) (t:=t) (p:=aP n) (c:=c);refine⟨fun h=>i.1 (h.elim (fun h=>.inl (a.1 (.inl h))) fun⟨v,u,m,q⟩=>(a8.mp m).elim (fun e=>.inl (a.1 (.inr ⟨v,e▸q⟩))) fun m=>.inr ⟨v,u,m,q⟩),?_⟩;show((iq pl t (aP n) c).1++_).length≤6*(t.aU+jc ts);rw[a5,Nat.mul_add];exact d9 a.2 i.2
end
structure Start(N n0:Nat)(call:List Tm)(F:FS):Prop where
 b:F.b=[]
 rest:F.rest=[]
 kept:F.kept=call
 evs:F.evs=[]
 sp:F.aI=n0
 args:∀j T,call[j]?=some T→F.hold (aP (1+j))=some T
 bI:∀T∈call,af n0 T∧∀k,T.has k→N≤k
 loose:∀x∈F.loose,x≤n0∧∀T∈call,bQ T=true→¬T.has x
structure Plan(pl:Pl)(N:Nat)(sig:Nat→Nat)(la:Nat)(args:List Tm)(goals:List (Nat×List Tm)):Prop where
 inj:Inj pl N
 head:∀t∈args,t.WT∧∀k,t.has k→k<N
 once:∀k,pl.void k=true→bZ k args≤1
 goal:∀g∈goals,(sig g.1=g.2.length∧g.2.length≤100)∧∀t∈g.2,(t=.v (b5 t)∨t=.s1 32 (.v (b5 t)))∧pl.void (b5 t)=false∧∃u∈args,u.has (b5 t)
 FZ:∀g g',goals=[g,g']→∀t∈g'.2,pl.perm (b5 t)=true∧pl.slot (b5 t)≤la
section
variable{pl:Pl}{N n0:Nat}{lv lv2:Nat→Prop}{X F F':FS}{c c':Cs}{S S' Sp:Sb}{val val':Nat→Option Tm}{P:Sb→Prop}{b b':Bd}{k j n i x y:Nat}{t u w T:Tm}{us as ks l l' call args:List Tm}{π σ τ ω:Sb}{picks:List Nat}
theorem EG(I:Start N n0 call F)(hl:args.length=call.length)(va:∀t∈args,t.WT∧∀k,t.has k→k<N):Inv pl N n0 F lv ⟨[],[],N⟩ F .v (fun _=>none) (oM args call 1):=
 ⟨⟨I.b▸ah.nil,fun p m=>(by rw[I.b] at m;exact nomatch m),fun x m=>I.sp▸(I.loose x m).1⟩,bS I.sp.symm,⟨rfl,rfl,rfl⟩,fun _ _=>rfl,fun _ m=>(nomatch m),fun _ _ e=>(nomatch e),ai _,fun e m=>by
  obtain⟨j,a,b,d,h⟩:=Iu m;have m':=dj b;have q:=I.bI _ m';have r:=va _ (dj a);refine⟨I.sp▸q.1,?_,(fun z=>nomatch h.symm.trans z),(fun p z=>av (d.symm.trans z)▸⟨I.args j _ b,.inl rfl⟩),r.1,r.2⟩
  cases hv:e.T.bN with
  |true=>exact .inl (by rw[nI];exact hv)
  |false=>
   refine .inr fun x hx mx=>(I.loose x mx).2 _ m' ?_ (by rw[nI] at hx;exact hx)
   rw[nI] at hx
   cases ht:e.T with
   |v=>rw[ht] at hv;exact nomatch hv
   |c=>rw[ht] at hx;exact hx.elim
   |s1=>rfl
   |s2=>rfl⟩
theorem Inv.past{b2:Bd}{es:List Ev}{l:Int}(I:Inv pl N n0 X lv c F S val [])(m:Mo F S {F with b:=b2} S')(h2:∀k,lv2 k→lv k∧ir l (place pl k)=true):Inv pl N n0 {F with hold:=fun p=>if ir l p=true then F.hold p else none,living:=l,kept:=ks,b:=b2,evs:=es} lv2 c {F with hold:=fun p=>if ir l p=true then F.hold p else none,living:=l,kept:=ks,b:=b2,evs:=es} S' val []:=
 ⟨⟨m.ok.aw,m.ok.cX,m.ok.low⟩,I.sp,⟨rfl,rfl,rfl⟩,I.seen,I.sv,fun k t e=>have v:=I.vk k t e
  ⟨v.bI,v.lt,v.nv,fun q=>(aG (h2 k q).2).trans (v.hold (h2 k q).1),m.ni v.bI v.ni,fun q=>m.nl v.bI (v.nl q)⟩,I.nt,fun _ m=>nomatch m⟩
theorem Kv{t:Tm}:t.dep≤(t.app σ).dep:=by
 induction t with
 |s1 f x ih=>exact cI ih
 |s2 f x y i1 i2=>exact cI (tY.mpr ⟨aA i1 (iS _ _),aA i2 (iT _ _)⟩)
 |_=>exact bW _
theorem iY.fk(V:iY (as.map (Tm.app Sp)) (us.map (Tm.app S)) τ ω)(h:fk Sp as):fk S us:=fun t m=>by
 have q:(t.app S).app ω∈as.map (Tm.app Sp):=V.back▸qm (qm m);obtain⟨u,hu,e⟩:=cg.mp q;exact aA Kv (e▸h u hu)
theorem Ga.good(I:Inv pl N n0 X lv c F S val [])(g:Ga val lv t):∀n,t.has n→Good pl N n0 n:=fun n h=>by
 obtain⟨T,hT⟩:=g.2.2;have v:=I.vk _ T hT;have e:b5 t=n:=g.1.elim (fun e=>by rw[e] at h;exact h) fun e=>by rw[e] at h;exact h
 exact e▸.inl ⟨v.lt,v.nv⟩
variable{R:List ak→FS→Prop}{Fl:List Ev→Prop}{Dn:FS→Prop}{sig:Nat→Nat}(rl:Rules R Fl Dn sig picks){is:List ak}(hF:(∀π,¬P π)→Fl X.evs)
include rl hF
theorem D0{f:Nat}(I:Inv pl N n0 X lv c F S val [])(E:Eqv pl N n0 P F.b val [])(L:Lk pl N n0 P b Sp ks F.b F.kept val)(hr:F.rest=[])(g:∀t∈as,Ga val lv t)(sh:fk Sp as)
  (K:∀{F1 S1 us S2 Sp' P'},Inv pl N n0 X lv (gp pl as 1 c).2 F1 S1 val []→F1.rest=[]→as.length=us.length→(∀i t,us[i]?=some t→F1.hold (aP (i+1))=some t∧af F1.aI t)→fk S1 us→Mo F1 S1 {F1 with b:=(event F1.b S1 f us F1.evs picks).1} S2→Eqv pl N n0 P' (event F1.b S1 f us F1.evs picks).1 val []→Lk pl N n0 P' (event b Sp f as F.evs picks).1 Sp' (ks++as) (event F1.b S1 f us F1.evs picks).1 (F1.kept++us) val→(event b Sp f as F.evs picks).2=(event F1.b S1 f us F1.evs picks).2→R is F1):R ((gp pl as 1 c).1++is) F:=by
 refine RW rl hF I E hr g fun{F1 S1 us} I1 E1 hr1 sp hl hus ho hs=>?_;have ke:F1.evs=F.evs:=I1.fx.1.trans I.fx.1.symm;have kk:F1.kept=F.kept:=I1.fx.2.2.trans I.fx.2.2.symm;have L1:Lk pl N n0 P b Sp ks F1.b F1.kept val:=⟨L.mp,L.pp,fun s=>by rw[kk];exact L.ke ⟨(hs s).1,s.ag,s.vc,s.pd⟩,L.kv⟩
 have hv:∀k t,val k=some t→k<N:=fun k t h=>(I.vk k t h).lt;have hu:∀{π σ},dP pl N n0 F1.b val [] π σ→as.map (Tm.app π)=us.map (Tm.app σ):=fun s=>(hs s).2.symm;have ha:∀t∈as,∀n,t.has n→Good pl N n0 n:=fun t m=>(g t m).good I;obtain⟨τ,ω,V⟩:=Ak E1 I1.ok.aw L1 hv hu ha;refine LQ (f:=f) (picks:=picks) I1.ok E1 L1 hv hu ha (fun t m=>let ⟨i,hi⟩:=iR.mp m;(hus i t hi).2) fun m E2 L2 ev=>?_;exact K I1 hr1 hl (fun i t h=>bR 1 i▸hus i t h) (V.fk sh) m E2 (by rw[←ke];exact L2) (by rw[←ke];exact ev)
end
structure PS where
 b:Bd
 S:Sb
 ks:List Tm
 evs:List Ev
noncomputable def PS.ev(p:PS)(g:Nat×List Tm)(picks:List Nat)(S2:Sb):PS:=⟨(event p.b p.S g.1 g.2 p.evs picks).1,S2,p.ks++g.2,(event p.b p.S g.1 g.2 p.evs picks).2⟩
noncomputable def Calls(picks:List Nat)(gs:List (Nat×List Tm)):PS→PS→Prop:=List.rec (motive:=fun _=>PS→PS→Prop) (fun p q=>q=p) (fun g _ ih p q=>fk p.S g.2∧∃S2,ah (event p.b p.S g.1 g.2 p.evs picks).1 S2∧ih (p.ev g picks S2) q) gs
theorem GG{b:Bd}{S S':Sb}(M:ah b S)(M':ah b S'):S=S':=funext fun z=>(M'.mg S M.sol z).symm.trans (wx fun n h=>M.id n (M'.free h))
section
variable{pl:Pl}{N n0:Nat}{lv:Nat→Prop}{X F F':FS}{c c':Cs}{S S' Sp:Sb}{val val':Nat→Option Tm}{P:Sb→Prop}{b b':Bd}{k j n i x y la:Nat}{t u w T:Tm}{us as ks l l' call args:List Tm}{π σ τ ω:Sb}{picks:List Nat}{p q:PS}{g g':Nat×List Tm}{R:List ak→FS→Prop}{Fl:List Ev→Prop}{Dn:FS→Prop}{sig:Nat→Nat}(rl:Rules R Fl Dn sig picks){is:List ak}
include rl
theorem FY{e:Bool}(hF:(∀π,¬P π)→Fl X.evs)(I:Inv pl N n0 X lv c F S val [])(E:Eqv pl N n0 P F.b val [])(L:Lk pl N n0 P p.b p.S p.ks F.b F.kept val)(he:F.evs=p.evs)(hr:F.rest=[])(ga:∀t∈g.2,Ga val lv t)(hs:sig g.1=g.2.length∧g.2.length≤100)(hl:e=false→F.living=-1)(C:Calls picks [g] p q)(dn:∀{G S2 τ ω},G.evs=q.evs→ah G.b S2→iY (q.ks.map (Tm.app q.S)) (G.kept.map (Tm.app S2)) τ ω→Dn G):R (jS pl la e [g] c) F:=by
 obtain⟨sh,Sq,Mq,rfl⟩:=C;refine D0 (f:=g.1) rl hF I E L hr ga sh fun{F1 S1 us S2 Sp' P'} I1 hr1 hl1 hus sh1 m E2 L2 ev=>?_;have ke:F1.evs=F.evs:=I1.fx.1.trans I.fx.1.symm;rw[he] at L2 ev;cases GG L2.mp Mq;obtain⟨τ,ω,V⟩:=Ak E2 m.ok.aw L2 (fun k t h=>(I1.vk k t h).lt) (fun s=>L2.ke s) L2.kv;have D:Dn (mB F1 S1 us g.1 (-1) picks):=dn (S2:=S2) (τ:=τ) (ω:=ω) ev.symm m.ok.aw V
 cases e with
 |true=>exact rl.hV hr1 (rl.exec (F:={F1 with living:=-1}) hr1 ⟨hs.1.trans hl1,hl1▸hs.2⟩ hus rfl I1.ok.aw I1.ok.cX sh1 D)
 |false=>exact rl.exec hr1 ⟨hs.1.trans hl1,hl1▸hs.2⟩ hus (I1.fx.2.1.trans (I.fx.2.1.symm.trans (hl rfl))) I1.ok.aw I1.ok.cX sh1 D
theorem KN{e:Bool}{goals:List (Nat×List Tm)}(pn:Plan pl N sig la args goals)(hg:goals=[g]∨goals=[g',g])(hF:(∀π,¬P π)→Fl X.evs)(I:Inv pl N n0 X (fun _=>True) c F S val [])(E:Eqv pl N n0 P F.b val [])(L:Lk pl N n0 P p.b p.S p.ks F.b F.kept val)(he:F.evs=p.evs)(hr:F.rest=[])(sn:∀k u,u∈args→u.has k→pl.void k=false→k∈c.seen)
  (he2:e=decide (goals.length=2)) (hl:F.living=if e=true then(la:Int) else -1) (C:Calls picks goals p q) (dn:∀{G S2 τ ω},G.evs=q.evs→ah G.b S2→iY (q.ks.map (Tm.app q.S)) (G.kept.map (Tm.app S2)) τ ω→Dn G):R (jS pl la e goals c) F:=by
 have gx:∀x∈goals,∀t∈x.2,Ga val (fun _=>True) t:=fun x m t mt=>by
  obtain⟨h1,h2,u,h3,h4⟩:=(pn.goal x m).2 t mt;exact⟨h1,bx,I.sv _ (sn _ u h3 h4 h2)⟩
 rcases hg with rfl|rfl
 ·exact FY rl hF I E L he hr (gx g (.head _)) (pn.goal g (.head _)).1 (fun h=>hl.trans (by rw[h];rfl)) C dn
 ·obtain⟨sh,Sq,Mq,C⟩:=C;refine D0 (f:=g'.1) rl hF I E L hr (gx g' (.head _)) sh fun{F1 S1 us S2 Sp' P'} I1 hr1 hl1 hus sh1 m E2 L2 ev=>?_;have ke:F1.evs=F.evs:=I1.fx.1.trans I.fx.1.symm;rw[he] at L2 ev;cases GG L2.mp Mq;have lv1:F1.living=la:=I1.fx.2.1.trans (I.fx.2.1.symm.trans (hl.trans (by rw[he2];rfl)))
  refine rl.call hr1 ⟨(pn.goal g' (.head _)).1.1.trans hl1,hl1▸(pn.goal g' (.head _)).1.2⟩ hus (Int.le_of_eq lv1.symm) I1.ok.aw I1.ok.cX sh1 ?_;have I3:=I1.past (lv2:=fun k=>pl.perm k=true∧pl.slot k≤la) (ks:=F1.kept++us) (es:=(event F1.b S1 g'.1 us F1.evs picks).2) (l:=(la:Int)) m fun k h=>⟨bx,by unfold place ir;rw[aG h.1];exact a9 ⟨rfl,kW.mpr h.2⟩⟩
  refine FY rl (p:=p.ev g' picks Sq) (fun h=>?_) I3 E2 L2 ev.symm hr1 (fun t mt=>?_) (pn.goal g (.tail _ (.head _))).1 (fun h=>?_) C dn
  ·obtain⟨π,s⟩:=AR (pl:=pl) (n0:=n0) m.ok.aw fun k t h=>(I1.vk k t h).lt;exact absurd (E2.snd s) (h π)
  ·have z:=gx g (.tail _ (.head _)) t mt;exact⟨z.1,pn.FZ g' g rfl t mt,z.2.2⟩
  ·rw[he2] at h;exact nomatch h
theorem Nc(I:Start N n0 call F)(hl:args.length=call.length){goals:List (Nat×List Tm)}(pn:Plan pl N sig la args goals)(no:∀σ,args.map (Tm.app σ)≠call.map (Tm.app σ))(fl:Fl []):R ((gL pl args 1 ⟨[],[],N⟩).1++is) F:=
 D3 rl (P:=v5 pl N n0 args call) (X:=F) (fun _=>I.evs▸fl) pn.inj (lv:=fun _=>True) (fun _=>bx) hl (EG I hl pn.head) (I.b▸DN hl pn.once (fun t m=>(pn.head t m).2) fun t m n h=>⟨(I.bI t m).2 n h,(I.bI t m).1.lo n h⟩) I.rest fun I E _=>by
  obtain⟨π,s⟩:=AR (pl:=pl) (n0:=n0) I.ok.aw fun k t h=>(I.vk k t h).lt;obtain⟨ρ,h,_⟩:=E.snd s;exact absurd h (no ρ)
theorem KZ(I:Start N n0 call F)(hl:args.length=call.length){e:Bool}{goals:List (Nat×List Tm)}(pn:Plan pl N sig la args goals)(hg:goals=[g]∨goals=[g',g])(he2:e=decide (goals.length=2))(hv:F.living=if e=true then(la:Int) else -1){b0:Bd}{S0:Sb}(M:ah b0 S0)(sat:∀σ,Sat b0 σ↔args.map (Tm.app σ)=call.map (Tm.app σ))(C:Calls picks goals ⟨b0,S0,call,[]⟩ q)(dn:∀{G S2 τ ω},G.evs=q.evs→ah G.b S2→iY (q.ks.map (Tm.app q.S)) (G.kept.map (Tm.app S2)) τ ω→Dn G):R ((gL pl args 1 ⟨[],[],N⟩).1++jS pl la e goals (gL pl args 1 ⟨[],[],N⟩).2) F:=by
 have hF:(∀π,¬v5 pl N n0 args call π)→Fl F.evs:=fun h=>absurd ⟨S0,(sat S0).mp M.sol,fun _ _=>rfl⟩ (h S0);have cv:∀t∈call,∀n,t.has n→N≤n∧n≤n0:=fun t m n h=>⟨(I.bI t m).2 n h,(I.bI t m).1.lo n h⟩;refine D3 rl hF pn.inj (lv:=fun _=>True) (fun _=>bx) hl (EG I hl pn.head) (I.b▸DN hl pn.once (fun t m=>(pn.head t m).2) cv) I.rest fun{F' S' val'} I' E hr=>?_;have kk:F'.kept=call:=I'.fx.2.2.trans I.kept;exact KN rl (p:=⟨b0,S0,call,[]⟩) pn hg hF I' E ⟨M,fun π=>⟨fun⟨ρ,a,b⟩=>⟨ρ,(sat ρ).mpr a,b⟩,fun⟨ρ,a,b⟩=>⟨ρ,(sat ρ).mp a,b⟩⟩,fun s=>by
  rw[kk];exact g8 fun t m=>app_congr fun n h=>(s.ag n (cv t m n h).1 (cv t m n h).2).symm,fun t m n h=>.inr (cv t m n h)⟩ (I'.fx.1.trans I.evs) hr (fun k u m h v=>yI.1 (.inr ⟨v,u,m,h⟩)) he2 (I'.fx.2.1.trans hv) C dn
end
section
variable{b:Bd}{S σ:Sb}{t:Tm}{m n x d:Nat}{L:List Nat}{as:List Tm}{evs:List Ev}{picks:List Nat}{f:Nat}
theorem zO(M:ah b S){N:Nat→Prop}(h:BQ (fun t=>∀n,t.has n→N n) b)(ha:∀t∈as,∀n,t.has n→N n)(hx:x∈bG (as.map (Tm.app S))):N x:=by
 obtain⟨t,ht,hn⟩:=(mG.mp hx).resolve_left dM;obtain⟨u,hu,rfl⟩:=cg.mp ht;obtain⟨m,hm,hx⟩:=mC.mp hn;exact Hf M h m (ha u hu m hm) x hx
theorem xO(h:t.has m):(σ m).dep≤(t.app σ).dep:=by
 induction t with
 |v k=>exact bS (aE (fun k=>(σ k).dep) (show k=m from h).symm)
 |c=>exact h.elim
 |s1 f x ih=>exact eI (ih h)
 |s2 f x y i1 i2=>exact eI (h.elim (fun h=>aA (i1 h) (iS _ _)) fun h=>aA (i2 h) (iT _ _))
theorem Kw(h:t.has m)(hv:t.bN=false):(σ m).dep<(t.app σ).dep:=by
 cases t with
 |v=>exact nomatch hv
 |c=>exact h.elim
 |s1 f x=>exact jI (xO (t:=x) h)
 |s2 f x y=>exact jI (h.elim (fun h=>aA (xO (t:=x) h) (iS _ _)) fun h=>aA (xO (t:=y) h) (iT _ _))
theorem C9{M:Nat}(h:∀m,t.has m→(σ m).dep≤M):(t.app σ).dep≤t.dep+M:=by
 induction t with
 |v k=>exact aA (h k rfl) (b9 _ _)
 |c=>exact bW _
 |s1 f x ih=>exact aA (cI (ih h)) (bS (Nat.succ_add _ _).symm)
 |s2 f x y i1 i2=>
  refine aA (cI (tY.mpr ⟨aA (i1 fun m q=>h m (.inl q)) (bp (iS x.dep y.dep) M),aA (i2 fun m q=>h m (.inr q)) (bp (iT x.dep y.dep) M)⟩)) (bS (Nat.succ_add _ _).symm)
theorem C4{α:Type}{p q:α→Bool}(hpq:∀x,p x=true→q x=true){l:List α}{x:α}(m:x∈l)(hq:q x=true)(hp:p x=false):l.countP p+1≤l.countP q:=by
 induction l with
 |nil=>exact nomatch m
 |cons y l ih=>
  rw[List.countP_cons,List.countP_cons];have mono:l.countP p≤l.countP q:=List.countP_mono_left fun x _ h=>hpq x h;rcases a8.mp m with rfl|m
  ·rw[hq,hp,aD ax,aG rfl];exact cI mono
  ·rw[hE];refine d9 (ih m) ?_
   cases e:p y with
   |true=>rw[hpq y e];exact ai _
   |false=>exact bW _
noncomputable def cnt(b:Bd)(S:Sb)(k:Nat):Nat:=b.countP fun p=>decide ((S p.1).dep≤k)
theorem Kt(M:ah b S)(hd:BQ (fun t=>t.dep≤d) b):∀k n,(S n).dep≤k→(S n).dep≤d*cnt b S k:=by
 intro k
 induction k with
 |zero=>exact fun n h=>aA h (bW _)
 |succ k ih=>
  refine M.ind (fun n e h=>by rw[M.id n e];exact bW _) fun n t e i2 h=>?_
  have hs:=M.sol n t e;have mono:cnt b S k≤cnt b S (k+1):=List.countP_mono_left fun x _ h=>a9 (eI (c6 h));by_cases hk:(S n).dep≤k
  ·exact aA (ih n hk) (dO d mono)
  ·cases hv:t.bN with
   |true=>
    refine fc hv fun m em=>?_;subst em;rw[show S n=S m from hs] at h ⊢
    exact i2 m rfl h
   |false=>
    have c1:=C4 (p:=fun p:Nat×Tm=>decide ((S p.1).dep≤k)) (q:=fun p=>decide ((S p.1).dep≤k+1)) (fun x h=>a9 (eI (c6 h))) (nJ e) (a9 h) (a7 hk);have a:=C9 (t:=t) (σ:=S) (M:=d*cnt b S k) fun m hm=>ih m (oh (bj (Kw hm hv) (hs▸h)));rw[hs];exact aA a (aA (aA (bp (hd _ (nJ e)).2 _) (bS ((bR _ _).trans (wO _ _).symm))) (dO d c1))
theorem mQ{l:List Nat}:∀{r:List Nat},l.Nodup→(∀x∈l,x∈r)→l.length≤r.length:=by
 induction l with
 |nil=>exact fun _ _=>bW _
 |cons x l ih=>
  intro r h hs;have h:=ba.mp h;have hx:=hs x (.head _)
  have:=ih (r:=r.erase x) h.2 fun y m=>(List.mem_erase_of_ne fun e=>h.1 (by rw[←e];exact m)).mpr (hs y (.tail _ m))
  rw[BP hx] at this;exact aA (cI this) (bS (wV (List.length_pos_of_mem hx)))
noncomputable def Lt(L:List Nat)(d:Nat)(t:Tm):Prop:=(∀n,t.has n→n∈L)∧t.dep≤d
theorem Ry(L:List Nat)(d:Nat):hJ (Lt L d):=⟨fun f x h=>⟨h.1,fK h.2⟩,fun f x y h=>
 have e:max x.dep y.dep≤d:=fK h.2
 ⟨⟨fun n q=>h.1 n (.inl q),aA (iS _ _) e⟩,⟨fun n q=>h.1 n (.inr q),aA (iT _ _) e⟩⟩⟩
theorem zA(M:ah b S)(h:BQ (Lt L d) b)(t:Tm):(t.app S).dep≤t.dep+d*L.length:=C9 fun m _=>aA (Kt M (fun p hp=>⟨(h p hp).1.2,(h p hp).2.2⟩) _ m (ai _)) (dO d (aA List.countP_le_length (by
 have:=mQ (r:=L) M.nd fun x hx=>by
  obtain⟨p,hp,rfl⟩:=cg.mp hx;exact(h p hp).1.1 p.1 rfl
 rw[aN] at this;exact this)))
theorem DO(M:ah b S){Q:Tm→Prop}(h:BQ Q b)(hc:∀z,Q (.c false z))(hx:∀x∈bG (as.map (Tm.app S)),Q (.v x)):BQ Q (event b S f as evs picks).1∧∃S2,ah (event b S f as evs picks).1 S2:=by
 unfold event
 dsimp only
 cases e:ix (bG (as.map (Tm.app S))) (evs.length+1) picks with
 |none=>exact⟨h,S,M⟩
 |some x=>
  have m:x∈bG (as.map (Tm.app S)):=by
   unfold ix at e;split at e
   ·exact dj e
   ·exact nomatch e
  exact⟨fun p hp=>(b6.mp hp).elim (h p) fun q=>(a6.mp q).symm▸⟨hx x m,hc _⟩,(let ⟨S2,M2⟩:=zG M (u5 M m) (k:=false);⟨S2,M2.aw⟩)⟩
theorem KI(hd:d+d*L.length≤150){gs:List (Nat×List Tm)}:∀{p:PS},ah p.b p.S→BQ (Lt L d) p.b→(∀g∈gs,∀t∈g.2,Lt L d t)→∃q,Calls picks gs p q∧ah q.b q.S∧BQ (Lt L d) q.b:=by
 induction gs with
 |nil=>exact fun{p} M h _=>⟨p,rfl,M,h⟩
 |cons g gs ih=>
  intro p M h hg;have ha:=hg g (.head _);obtain⟨h2,S2,M2⟩:=DO (f:=g.1) (evs:=p.evs) (picks:=picks) M h (fun _=>⟨fun _ q=>q.elim,bW _⟩) fun x m=>⟨fun n q=>(show x=n from q)▸zO M (fun p hp=>⟨(h p hp).1.1,(h p hp).2.1⟩) (fun t m=>(ha t m).1) m,bW _⟩
  obtain⟨q,C,R⟩:=ih (p:=p.ev g picks S2) M2 h2 fun g m=>hg g (.tail _ m);exact⟨q,⟨fun t m=>aA (zA M h t) (aA (bp (ha t m).2 _) hd),S2,M2,C⟩,R⟩
end
noncomputable def vJ(void:Nat→Bool)(order:List Nat):Pl:=⟨void,fun k=>decide (k∈order),fun k=>order.idxOf k+1⟩
section
variable{void:Nat→Bool}{order:List Nat}{k j N:Nat}
theorem Nn(h:k∈order):order.idxOf k+1≤order.length:=jG.mpr h
theorem zr:(place (vJ void order) k=yP (order.idxOf k+1)∧k∈order)∨place (vJ void order) k=tP k:=by
 unfold place;by_cases h:k∈order
 ·exact .inl ⟨aG (a9 h),h⟩
 ·exact .inr (aD fun q=>h (c6 q))
theorem EC:Inj (vJ void order) N:=fun j k _ _ _ _ e=>by
 rcases zr (void:=void) (order:=order) (k:=j) with ⟨hj,mj⟩|hj
 ·rcases zr (void:=void) (order:=order) (k:=k) with ⟨hk,mk⟩|hk
  ·rw[hj,hk] at e;have e:=oq (nE e).2;exact((mz (jG.mpr mj)).symm.trans (by congr 1)).trans (mz (jG.mpr mk))
  ·rw[hj,hk] at e;exact absurd (nE e).1 (by decide)
 ·rcases zr (void:=void) (order:=order) (k:=k) with ⟨hk,mk⟩|hk
  ·rw[hj,hk] at e;exact absurd (nE e).1 (by decide)
  ·rw[hj,hk] at e;exact(nE e).2
end
theorem Gj{k:Nat}{t:Tm}:¬t.has k→br k t=0:=by
 induction t with
 |v m=>exact fun h=>aD h
 |c=>exact fun _=>rfl
 |s1 f x ih=>exact ih
 |s2 f x y i1 i2=>exact fun h=>(congr (aE _ (i1 fun q=>h (.inl q))) (i2 fun q=>h (.inr q)):br k x+br k y=0+0)
theorem Te{k:Nat}{ts:List Tm}(h:∀t∈ts,¬t.has k):bZ k ts=0:=by
 induction ts with
 |nil=>rfl
 |cons t ts ih=>exact(congr (aE _ (Gj (h t (.head _)))) (ih fun u m=>h u (.tail _ m)):br k t+bZ k ts=0+0)
noncomputable def Tm.hasB(n:Nat):Tm→Bool
 | .v m=>m == n
 | .c _ _=>false
 | .s1 _ x=>x.hasB n
 | .s2 _ x y=>x.hasB n||y.hasB n
theorem NS{n f:Nat}{x y:Tm}:(Tm.s2 f x y).hasB n=(x.hasB n||y.hasB n):=rfl
theorem D1{n:Nat}{t:Tm}:t.hasB n=true↔t.has n:=by
 induction t with
 |v m=>exact dm
 |c=>exact⟨(fun h=>nomatch h),fun h=>h.elim⟩
 |s1 _ x ih=>exact ih
 |s2 _ x y i1 i2=>rw[NS,tF,i1,i2,NV]
end Mine.U
end
section
open PySem PySem.W
namespace Mine
set_option genSizeOf false
set_option genInjectivity false
section
variable{W:Wd}{n:Nat}{F:aO}{H H':AH}{Q:V→AH→Prop}{u v x y:V}
theorem ay.var{a:Nat}(h:F a=some v)(q:Q v H):ay W n (.var a) F H Q:=⟨h,q⟩
end
section
variable{W:Wd}{n:Nat}{F:aO}{H H':AH}{Q:Fl→aO→AH→Prop}{u v x y:V}{ss:aK}{e:IE}
end
section
variable{W:Wd}{n:Nat}{F:aO}{H H':AH}{Q:V→AH→Prop}{u v x y:V}
theorem VK{a i c:Nat}{fl:List (Nat×V)}(hc:H[i]?=some (.inst c fl))(h:fU c a=false)(g:aR fl a=some v)(q:Q v H):Seq (Prim W (.attr a) [.obj i] H) Q:=⟨(⟨⟨hc,h,g⟩⟩:vt a (.obj i) H v H),q⟩
theorem oA(p:dy W u x H v)(q:Q v H):Seq (Prim W .sub [u,x] H) Q:=⟨(⟨p⟩:wh W u x H v H),q⟩
theorem fC{op:Operator}(p:P2 W u v x H H' (binaryOp op))(q:Q v H'):Seq (Prim W (.bin op) [u,x] H) Q:=⟨(show Prim W (.bin op) [u,x] H v H' from p),q⟩
theorem lJ{op:CmpOp}(p:P2 W u v x H H' (compareOp op))(q:Q v H'):Seq (Prim W (.cmp op) [u,x] H) Q:=⟨(show Prim W (.cmp op) [u,x] H v H' from p),q⟩
theorem iM{f:F1}(p:P1 W u v H H' (fun a=>call f.fv [a]))(q:Q v H'):Seq (Prim W (.f1 f) [u] H) Q:=⟨(show Prim W (.f1 f) [u] H v H' from p),q⟩
theorem VQ{vs:List V}(z:vs.length≤aJ)(q:Q (.tup vs) H):Seq (Prim W .tup vs H) Q:=⟨(⟨z⟩:wi vs H (.tup vs) H),q⟩
theorem kD{vs:List V}(z:vs.length≤aJ)(q:Q (.lst vs) H):Seq (Prim W .lst vs H) Q:=⟨(⟨z,.val⟩:au (vs.length≤aJ) (LR vs H (.lst vs) H)),q⟩
theorem VO(q:Q (.bool (ub u)) H):Seq (Prim W .lG [u] H) Q:=⟨(.mk:wX u H _ H),q⟩
theorem VN{l:List V}(h:IsL H l u)(q:Q (.bool (!l.isEmpty)) H):Seq (Prim W .fh [u] H) Q:=⟨(.mk h:wW u H _ H),q⟩
theorem VM{l:List (List Nat)}{s:List Nat}(q:Q (.bool (l.contains s)) H):Seq (Prim W (.eE l) [.str s] H) Q:=⟨(.mk:v9 l H (.str s) _ H),q⟩
theorem oB(p:dw W kQ u x v H H')(q:Q v H'):Seq (Prim W .i6 [u,x] H) Q:=⟨(show Prim W .i6 [u,x] H v H' from p),q⟩
theorem vO(p:dw W jq u x v H H')(q:Q v H'):Seq (Prim W .gj [u,x] H) Q:=⟨(show Prim W .gj [u,x] H v H' from p),q⟩
theorem VL(p:rA W u x y v H H')(q:Q v H'):Seq (Prim W .cut [u,x,y] H) Q:=⟨(show Prim W .cut [u,x,y] H v H' from p),q⟩
theorem VP(p:q9 W u v H H')(q:Q v H'):Seq (Prim W .listRev [u] H) Q:=⟨(show Prim W .listRev [u] H v H' from p),q⟩
theorem vX{b:Bool}{P:Bool→Prop}(p:P b):Tq (.bool b) H P:=⟨.bool rfl,p⟩
theorem if1{P P':Prop}{b:Bool}(h:b=true)(p:P):(if b=true then P else P'):=by rw[aG h];exact p
theorem yJ{P P':Prop}{b:Bool}(h:b=false)(p:P'):(if b=true then P else P'):=by rw[h,aD ax];exact p
theorem Fn.mono{f:Nat}{vs:List V}{Q':V→AH→Prop}(h:Fn W n f vs H Q)(k:∀{v H'},Q v H'→Q' v H'):Fn W n f vs H Q':=fun ha _ _ _ _ _ K r c=>h ha K r fun q=>c (k q)
end
section
variable{F:aO}{H:AH}{Q:Fl→aO→AH→Prop}
end
section
noncomputable abbrev Fa:=List (Option V)
noncomputable abbrev K1:=V→AH→Prop
noncomputable abbrev K2:=Fl→Fa→AH→Prop
noncomputable abbrev fw:=List V→AH→Prop
noncomputable abbrev ET:=Fa→AH→K1→Prop
noncomputable abbrev tM:=Fa→AH→fw→Prop
noncomputable abbrev BT:=Fa→AH→K2→Prop
universe u
noncomputable def Nf:Nat:=0
noncomputable def nS:Nat:=Nf
noncomputable def uW:Nat:=nS
noncomputable def Ng:Nat:=uW
noncomputable def bV:Nat:=Ng
section
variable{α:Type}
@[reducible] noncomputable def ob{β:Sort u}(o:Option α)(d:β)(f:α→β):β:=Option.rec (motive:=fun _=>β) d f o
noncomputable def aB(l:List α):Nat→Option α:=List.rec (motive:=fun _=>Nat→Option α) (fun _=>none) (fun x _ ih k=>Nat.rec (motive:=fun _=>Option α) (some x) (fun k _=>ih k) k) l
noncomputable def aq(l:List α)(v:α):Nat→List α:=List.rec (motive:=fun _=>Nat→List α) (fun _=>[]) (fun x r ih k=>Nat.rec (motive:=fun _=>List α) (v::r) (fun k _=>x::ih k) k) l
noncomputable def app(l r:List α):List α:=List.rec (motive:=fun _=>List α) r (fun x _ ih=>x::ih) l
noncomputable def eN(l:List (Nat×α))(a:Nat):Option α:=List.rec (motive:=fun _=>Option α) none (fun p _ ih=>Bool.rec (motive:=fun _=>Option α) ih (some p.2) (Nat.beq p.1 a)) l
noncomputable def yH(l:List (Nat×α))(a:Nat):Bool:=List.rec (motive:=fun _=>Bool) false (fun p _ ih=>Bool.rec (motive:=fun _=>Bool) ih true (Nat.beq p.1 a)) l
noncomputable def zC(l:List (Nat×α))(a:Nat)(v:α):List (Nat×α):=List.rec (motive:=fun _=>List (Nat×α)) [] (fun p _ ih=>Bool.rec (motive:=fun _=>Nat×α) p (p.1,v) (Nat.beq p.1 a)::ih) l
noncomputable def pM(l:List (Nat×α))(a:Nat)(v:α):List (Nat×α):=Bool.rec (motive:=fun _=>List (Nat×α)) (app l [(a,v)]) (zC l a v) (yH l a)
noncomputable def lA(l:List α):Option α:=List.rec (motive:=fun _=>Option α) none (fun x _ ih=>ob ih (some x) some) l
noncomputable def e6(l:List α):Bool:=List.rec (motive:=fun _=>Bool) true (fun _ _ _=>false) l
end
section
variable{β:Type}(d:β)
noncomputable def jP(v:V)(f:List V→β):β:=V.casesOn (motive_1:=fun _=>β) v d (fun _=>d) (fun _=>d) (fun _=>d) f (fun _=>d) (fun _=>d)
noncomputable def cInt(v:V)(f:Int→β):β:=V.casesOn (motive_1:=fun _=>β) v d (fun _=>d) f (fun _=>d) (fun _=>d) (fun _=>d) (fun _=>d)
noncomputable def cStr(v:V)(f:List Nat→β):β:=V.casesOn (motive_1:=fun _=>β) v d (fun _=>d) (fun _=>d) f (fun _=>d) (fun _=>d) (fun _=>d)
noncomputable def cBool(v:V)(f:Bool→β):β:=V.casesOn (motive_1:=fun _=>β) v d f (fun _=>d) (fun _=>d) (fun _=>d) (fun _=>d) (fun _=>d)
noncomputable def t6(v:V)(f:Nat→β):β:=V.casesOn (motive_1:=fun _=>β) v d (fun _=>d) (fun _=>d) (fun _=>d) (fun _=>d) (fun _=>d) f
noncomputable def rL(v:V)(f:Nat→β):β:=cInt d v fun i=>Int.rec (motive:=fun _=>β) f (fun _=>d) i
end
section
variable{β:Type}(d:β)
noncomputable def ly(v:V)(f:Atom→β):β:=V.casesOn (motive_1:=fun _=>β) v d (fun _=>d) (fun i=>f (.int i)) (fun s=>f (.str s)) (fun _=>d) (fun _=>d) (fun _=>d)
noncomputable def w8(v:V)(f:List V→β):β:=V.casesOn (motive_1:=fun _=>β) v d (fun _=>d) (fun _=>d) (fun _=>d) f f (fun _=>d)
noncomputable def jX(vs:List V)(f:V→β):β:=List.rec (motive:=fun _=>β) d (fun x r _=>List.rec (motive:=fun _=>β) (f x) (fun _ _ _=>d) r) vs
noncomputable def s8(vs:List V)(f:V→V→β):β:=List.rec (motive:=fun _=>β) d (fun x r _=>jX d r (f x)) vs
noncomputable def at_(H:AH)(v:V)(f:Nat→Cell→β):β:=t6 d v fun i=>ob (aB H i) d (f i)
noncomputable def iB(c:Cell)(f:List V→β):β:=Cell.casesOn (motive:=fun _=>β) c f (fun _ _=>d) (fun _ _=>d) (fun _=>d) (fun _ _=>d)
noncomputable def yQ(c:Cell)(f:List (Atom×V)→Nat→β):β:=Cell.casesOn (motive:=fun _=>β) c (fun _=>d) f (fun _ _=>d) (fun _=>d) (fun _ _=>d)
noncomputable def isSet(c:Cell)(f:List Int→β):β:=Cell.casesOn (motive:=fun _=>β) c (fun _=>d) (fun _ _=>d) (fun _ _=>d) f (fun _ _=>d)
noncomputable def rV(c:Cell)(f:Nat→List (Nat×V)→β):β:=Cell.casesOn (motive:=fun _=>β) c (fun _=>d) (fun _ _=>d) (fun _ _=>d) (fun _=>d) f
end
noncomputable def atoms(l:List V):Option (List Atom):=List.rec (motive:=fun _=>Option (List Atom)) (some []) (fun x _ ih=>ly none x fun a=>ob ih none fun r=>some (a::r)) l
noncomputable def d5(a:List Nat):List Nat→Bool:=List.rec (motive:=fun _=>List Nat→Bool) (fun b=>e6 b) (fun x _ ih b=>List.rec (motive:=fun _=>Bool) false (fun y r _=>Bool.rec (motive:=fun _=>Bool) false (ih r) (Nat.beq x y)) b) a
noncomputable def zF(s:List Nat)(l:List (List Nat)):Bool:=List.rec (motive:=fun _=>Bool) false (fun x _ ih=>Bool.rec (motive:=fun _=>Bool) ih true (d5 s x)) l
noncomputable def aH{α:Type}(l:List α):Nat:=List.rec (motive:=fun _=>Nat) 0 (fun _ _ ih=>Nat.succ ih) l
noncomputable def jV(k:Nat):List V:=Nat.rec (motive:=fun _=>List V) [] (fun k ih=>app ih [.int (k:Int)]) k
noncomputable def te(p:List Int)(k:Int):List Int:=if p.contains k then p else p++[k]
noncomputable def H3(op:CmpOp)(a b:List Nat):Option Bool:=match op with
 | .Eq=>some (d5 a b)
 | .NotEq=>some (!d5 a b)
 |_=>none
noncomputable def EE(op:CmpOp)(a b:Int):Option Bool:=match op with
 | .Eq=>some (decide (a=b))
 | .NotEq=>some (!decide (a=b))
 | .Lt=>some (decide (a<b))
 | .LtE=>some (decide (a≤b))
 | .Gt=>some (decide (b<a))
 | .GtE=>some (decide (b≤a))
 |_=>none
noncomputable def yK(H:AH)(u x:V):Option Bool:=at_ none H x fun _ c=>Cell.casesOn (motive:=fun _=>Option Bool) c (fun _=>none) (fun kvs _=>ly none u fun a=>some (aR kvs a).isSome) (fun kvs _=>jP none u fun l=>ob (atoms l) none fun k=>some (aR kvs k).isSome) (fun p=>cInt none u fun k=>some (p.contains k)) (fun _ _=>none)
noncomputable def Nr(op:CmpOp)(H:AH)(u x:V):Option Bool:=match op with
 | .In=>yK H u x
 | .NotIn=>ob (yK H u x) none fun b=>some (!b)
 |_=>none
noncomputable def uD(op:CmpOp)(H:AH)(u x:V):Option Bool:=t6 (cStr (cInt none u fun a=>cInt none x fun b=>EE op a b) u fun a=>cStr none x fun b=>H3 op a b) x fun _=>Nr op H u x
noncomputable def rK(op:Operator)(u x:V):Option V:=cInt none u fun a=>cInt none x fun b=>match op with
 | .Add=>some (.int (a+b))
 | .Sub=>some (.int (a-b))
 |_=>none
noncomputable def oC(H:AH)(v:V):Option (List V):=V.casesOn (motive_1:=fun _=>Option (List V)) v none (fun _=>none) (fun _=>none) (fun _=>none) some some (fun i=>ob (aB H i) none fun c=>iB none c some)
noncomputable def atC(H:AH)(a:Nat)(u:V):Option V:=at_ none H u fun _ c=>rV none c fun k fl=>Bool.rec (motive:=fun _=>Option V) (eN fl a) none (fU k a)
noncomputable def Sel(t:Bool)(P P':Prop):Prop:=Bool.rec P' P t
noncomputable def fN(o:Option V)(H:AH)(Q:K1):Prop:=ob o False fun v=>Q v H
noncomputable def jN(v:V)(H:AH)(P:Bool→Prop):Prop:=V.casesOn (motive_1:=fun _=>Prop) v (P false) P (fun _=>Tq v H P) (fun _=>Tq v H P) (fun _=>Tq v H P) (fun _=>Tq v H P) (fun i=>ob (aB H i) (Tq v H P) fun c=>iB (Tq v H P) c fun l=>P (!e6 l))
noncomputable def gc(W:Wd)(u x:V)(H:AH)(Q:K1):Prop:=let fb:=Seq (Prim W .sub [u,x] H) Q;V.casesOn (motive_1:=fun _=>Prop) u fb (fun _=>fb) (fun _=>fb) (fun _=>fb) (fun l=>cInt fb x fun j=>Int.rec (motive:=fun _=>Prop) (fun k=>fN (aB l k) H Q) (fun k=>Nat.rec (motive:=fun _=>Prop) (fN (lA l) H Q) (fun _ _=>fb) k) j) (fun l=>rL fb x fun k=>fN (aB l k) H Q)
 fun i=>ob (aB H i) fb fun c=>Cell.casesOn (motive:=fun _=>Prop) c (fun l=>cInt fb x fun j=>Int.rec (motive:=fun _=>Prop) (fun k=>fN (aB l k) H Q) (fun k=>Nat.rec (motive:=fun _=>Prop) (fN (lA l) H Q) (fun _ _=>fb) k) j)
  (fun kvs _=>ly fb x fun a=>fN (aR kvs a) H Q) (fun kvs _=>jP fb x fun l=>ob (atoms l) fb fun k=>fN (aR kvs k) H Q) (fun _=>fb) (fun _ _=>fb)
noncomputable def gU(W:Wd)(op:CmpOp)(u x:V)(H:AH)(Q:K1):Prop:=ob (uD op H u x) (Seq (Prim W (.cmp op) [u,x] H) Q) fun v=>Q (.bool v) H
noncomputable def Av(W:Wd)(op:Operator)(u x:V)(H:AH)(Q:K1):Prop:=ob (rK op u x) (Seq (Prim W (.bin op) [u,x] H) Q) fun v=>Q v H
noncomputable def oS(W:Wd)(f:F1)(u:V)(H:AH)(Q:K1):Prop:=let fb:=Seq (Prim W (.f1 f) [u] H) Q;F1.casesOn (motive:=fun _=>Prop) f (ob (oC H u) fb fun l=>Q (.int (l.length:Nat)) H) fb (jP (ob (oC H u) fb fun l=>Q (.tup l) H) u fun _=>fb) fb fb
noncomputable def tD(W:Wd)(a:Nat)(u:V)(H:AH)(Q:K1):Prop:=ob (atC H a u) (Seq (Prim W (.attr a) [u] H) Q) fun v=>Q v H
noncomputable def A7(W:Wd)(l:List (List Nat))(u:V)(H:AH)(Q:K1):Prop:=cStr (Seq (Prim W (.eE l) [u] H) Q) u fun s=>Q (.bool (zF s l)) H
noncomputable def tc(W:Wd)(u:V)(H:AH)(Q:K1):Prop:=jP (ob (oC H u) (Seq (Prim W .fh [u] H) Q) fun l=>Q (.bool (!e6 l)) H) u fun _=>Seq (Prim W .fh [u] H) Q
noncomputable def Bl(W:Wd)(o:Op)(vs:List V)(H:AH)(Q:K1):Prop:=let _h:=bV;match o with
 | .tup=>Sel (Nat.ble (aH vs) aJ) (Q (.tup vs) H) False
 | .mS=>Q (.obj (aH H)) (app H [.set []])
 | .sub=>s8 False vs fun u x=>gc W u x H Q
 | .cmp op=>s8 False vs fun u x=>gU W op u x H Q
 | .bin op=>s8 False vs fun u x=>Av W op u x H Q
 | .f1 f=>jX False vs fun u=>oS W f u H Q
 | .attr a=>jX False vs fun u=>tD W a u H Q
 | .eE l=>jX False vs fun u=>A7 W l u H Q
 | .fh=>jX False vs fun u=>tc W u H Q
 | .lG=>jX False vs fun u=>Q (.bool (ub u)) H
 |o=>Seq (Prim W o vs H) Q
noncomputable def GJ:List (Nat×List (Nat×Nat)):=[(0,[(5929987949,4),(100897158637842290,6),(6013939299,7),(1518042969209,9)]),(5,[(5996636532,19),(29028909779157184358610936885881,20),(101739320438647140,21),(111863565712922486446909386356,22),(1582366286693,23),(28553514230927730767136968502900,24),(1569298080616,25),(1897164968328812631054732654321497203,26),(7410800657534425848493992510123109,27),(1522388266084,28),(109699635645612750339947324787,29),(29425046964601494130652034790515,30),(114941589706983022890938690661,31),(1763479434849757986513260,32),(8327796176364402537107088797765516207285496933,33),(1938966143961158221447987740652889459,34),(6667233722873370993509,35),(1517942301043,36),(7270166046139272155806917352252786,37),(408354559388773,38),(447781419885367196255219558,39),(6722640649202348879732,40),(7391621563157248401458788381389939,41),(28873521731084510004641471294565,42),(443021384642753003221115244,43),(6030319980,44),(390792119415653,45)]),(8,[(101739320438647140,54)]),(9,[(6130328948,59),(1599429832051,60)])]
noncomputable def EA:List (Nat×Nat):=[(0,3),(5,18),(6,47),(7,50),(8,51),(9,58)]
noncomputable def sC(c m:Nat):Option Nat:=ob (eN GJ c) none fun l=>eN l m
noncomputable def wJ(W:Wd)(m:Nat)(u:V)(H:AH)(P:Nat→Prop):Prop:=let fb:=lZ W m u H P;at_ fb H u fun _ c=>rV fb c fun k fl=>ob (eN fl m) (ob (sC k m) fb P) fun _=>fb
noncomputable def kB(m:Mt)(c:Cell):Bool:=Mt.casesOn (motive:=fun _=>Bool) m (iB false c fun _=>true) (iB false c fun _=>true) (iB false c fun _=>true) (isSet false c fun _=>true) (isSet false c fun _=>true) (Cell.casesOn (motive:=fun _=>Bool) c (fun _=>false) (fun _ _=>true) (fun _ _=>true) (fun _=>false) (fun _ _=>false)) (yQ false c fun _ _=>true)
noncomputable def iW(W:Wd)(m:Mt)(u:V)(Q:K1)(vs:List V)(H:AH):Prop:=let fb:=Seq (bu W m (u::vs) H) Q;at_ fb H u fun i c=>Mt.casesOn (motive:=fun _=>Prop) m
 (jX fb vs fun v=>iB fb c fun l=>au (l.length<aJ) (Q .none (aq H (.lst (l++[v])) i)))
 (Sel (e6 vs) (iB fb c fun l=>fN (lA l) (aq H (.lst l.dropLast) i) Q) fb)
 fb
 (jX fb vs fun v=>cInt fb v fun k=>isSet fb c fun p=>au (p.length<4000) (Q .none (aq H (.set (te p k)) i)))
 (jX fb vs fun v=>cInt fb v fun k=>isSet fb c fun p=>Q .none (aq H (.set (p.filter (· != k))) i))
 (s8 fb vs fun x d=>Cell.casesOn (motive:=fun _=>Prop) c (fun _=>fb) (fun kvs _=>ly fb x fun a=>Q ((aR kvs a).getD d) H) (fun kvs _=>jP fb x fun l=>ob (atoms l) fb fun k=>Q ((aR kvs k).getD d) H) (fun _=>fb) (fun _ _=>fb))
 (jX fb vs fun x=>yQ fb c fun kvs st=>ly fb x fun a=>au (kvs.length≤aJ) (fN (aR kvs a) (aq H (.dict (nV kvs a) (st+1)) i) Q))
noncomputable def tJ(W:Wd)(u x:V)(H:AH)(Q:K1):Prop:=let fb:=Ex fun H'=>au (kg W u x H H') (Q .none H');at_ fb H u fun i c=>iB fb c fun l=>jP fb x fun r=>au (l.length+r.length≤aJ) (Q .none (aq H (.lst (l++r.reverse)) i))
noncomputable def nU(P P':Prop)(t:Bool):Prop:=let _h:=bV;Sel t P P'
noncomputable def Pt(W:Wd)(o:Op)(Q:K1)(vs:List V)(H:AH):Prop:=let _h:=bV;Bl W o vs H Q
@[irreducible] noncomputable def Fi(W:Wd)(n:Nat)(f:Nat)(vs:List V)(H:AH)(Q:K1):Prop:=Fn W n f vs H Q
noncomputable def Pf(W:Wd)(n f:Nat)(Q:K1)(vs:List V)(H:AH):Prop:=let _h:=bV;Fi W n f vs H Q
noncomputable def Pg(W:Wd)(n f:Nat)(u:V)(Q:K1)(vs:List V)(H:AH):Prop:=let _h:=bV;Fi W n f (u::vs) H Q
noncomputable def Po(W:Wd)(n:Nat)(u:V)(l:tM)(F:Fa)(H:AH)(Q:K1)(f:Nat):Prop:=let _h:=bV;l F H (Pg W n f u Q)
noncomputable def kM(W:Wd)(n m:Nat)(l:tM)(F:Fa)(Q:K1)(u:V)(H:AH):Prop:=let _h:=bV;wJ W m u H (Po W n u l F H Q)
noncomputable def E8(W:Wd)(m:Mt)(u:V)(Q:K1)(vs:List V)(H:AH):Prop:=let _h:=bV;iW W m u Q vs H
noncomputable def PZ(W:Wd)(m:Mt)(l:tM)(F:Fa)(Q:K1)(u:V)(H:AH):Prop:=let _h:=bV;Sel (at_ false H u fun _ c=>kB m c) (l F H (E8 W m u Q)) (au (Recv W m u H) (l F H (E8 W m u Q)))
noncomputable def FA(W:Wd)(u:V)(Q:K1)(x:V)(H:AH):Prop:=let _h:=bV;tJ W u x H Q
noncomputable def QC(W:Wd)(a:ET)(F:Fa)(Q:K1)(u:V)(H:AH):Prop:=let _h:=bV;Sel (at_ false H u fun _ c=>iB false c fun _=>true) (a F H (FA W u Q)) (au (nH W u H) (a F H (FA W u Q)))
noncomputable def E7(i:Nat)(Q:K1)(r:V)(H:AH):Prop:=au (r=.none) (Q (.obj i) H)
noncomputable def E4(W:Wd)(n c:Nat)(Q:K1)(vs:List V)(H:AH):Prop:=let _h:=bV;ob (eN EA c) (ot W n c vs H Q) fun f=>Fi W n f (.obj (aH H)::vs) (app H [.inst c []]) (E7 (aH H) Q)
noncomputable def PX(b:ET)(F:Fa)(Q:K1)(v:V)(H:AH):Prop:=let _h:=bV;jN v H (nU (b F H Q) (cBool (Q v H) v fun _=>Q (.bool false) H))
noncomputable def Pu(b:ET)(F:Fa)(Q:K1)(v:V)(H:AH):Prop:=let _h:=bV;jN v H (nU (cBool (Q v H) v fun _=>Q (.bool true) H) (b F H Q))
noncomputable def Pq(H:AH)(Q:K1)(t:Bool):Prop:=let _h:=bV;Q (.bool (!t)) H
noncomputable def Pp(Q:K1)(v:V)(H:AH):Prop:=let _h:=bV;jN v H (Pq H Q)
noncomputable def Pm(a b:ET)(F:Fa)(Q:K1)(v:V)(H:AH):Prop:=let _h:=bV;jN v H (nU (a F H Q) (b F H Q))
noncomputable def Ez(w:V)(Q:fw)(ws:List V)(H:AH):Prop:=let _h:=bV;Q (w::ws) H
noncomputable def kC(m:AH→fw→Prop)(Q:fw)(w:V)(H:AH):Prop:=let _h:=bV;m H (Ez w Q)
noncomputable def dT(F:Fa)(x:Nat)(v:V):Fa:=aq F (some v) x
noncomputable def oQ(el:ET)(x:Nat)(F:Fa)(l:List V):AH→fw→Prop:=List.rec (motive:=fun _=>AH→fw→Prop) (fun H Q=>Q [] H) (fun v _ ih H Q=>el (dT F x v) H (kC ih Q)) l
noncomputable def oP(C:AH→Prop)(el:ET)(x:Nat)(F:Fa)(l:List V):AH→fw→Prop:=List.rec (motive:=fun _=>AH→fw→Prop) (fun H Q=>au (C H) (Q [] H)) (fun v _ ih H Q=>au (C H) (el (dT F x v) H (kC ih Q))) l
noncomputable def uf(Q:K1)(ws:List V)(H:AH):Prop:=let _h:=bV;m9 ws H Q
noncomputable def Pb(el:ET)(x:Nat)(F:Fa)(H:AH)(Q:K1)(C:AH→Prop)(l:List V):Prop:=let _h:=bV;au (l.length≤aJ) (oP C el x F l H (uf Q))
noncomputable def yi(el:ET)(x:Nat)(F:Fa)(Q:K1)(src:V)(H:AH):Prop:=let _h:=bV;w8 (qi src H (Pb el x F H Q)) src fun l=>au (l.length≤aJ) (oQ el x F l H (uf Q))
noncomputable def Pd(el:ET)(x:Nat)(F:Fa)(Q:K1)(v:V)(H:AH):Prop:=let _h:=bV;rL False v fun k=>au (k≤aJ) (oQ el x F (jV k) H (uf Q))
noncomputable def kL(m:tM)(F:Fa)(Q:fw)(u:V)(H:AH):Prop:=let _h:=bV;m F H (Ez u Q)
mutual
noncomputable def bC(W:Wd)(n:Nat):IE→Fa→AH→K1→Prop
 | .const v,_,H,Q=>Q v H
 | .var x,F,H,Q=>fN (ob (aB F x) none id) H Q
 | .op o es,F,H,Q=>mm W n es F H (Pt W o Q)
 | .call f es,F,H,Q=>mm W n es F H (Pf W n f Q)
 | .aV e m es,F,H,Q=>bC W n e F H (kM W n m (mm W n es) F Q)
 | .bm m e es,F,H,Q=>bC W n e F H (PZ W m (mm W n es) F Q)
 | .hZ e a,F,H,Q=>bC W n e F H (QC W (bC W n a) F Q)
 | .new c es,F,H,Q=>mm W n es F H (E4 W n c Q)
 | .and a b,F,H,Q=>bC W n a F H (PX (bC W n b) F Q)
 | .or a b,F,H,Q=>bC W n a F H (Pu (bC W n b) F Q)
 | .not a,F,H,Q=>bC W n a F H (Pp Q)
 | .ite c a b,F,H,Q=>bC W n c F H (Pm (bC W n a) (bC W n b) F Q)
 | .comp e x it,F,H,Q=>bC W n it F H (yi (bC W n e) x F Q)
 | .f7 e x m,F,H,Q=>bC W n m F H (Pd (bC W n e) x F Q)
noncomputable def mm(W:Wd)(n:Nat):c9→Fa→AH→fw→Prop
 | .nil,_,H,Q=>Q [] H
 | .cons e es,F,H,Q=>bC W n e F H (kL (mm W n es) F Q)
end
noncomputable def jw(b:BT)(Q:K2)(fl:Fl)(F:Fa)(H:AH):Prop:=let _h:=bV;Fl.casesOn (motive:=fun _=>Prop) fl (b F H Q) (Q .brk F H) (Q .cnt F H) (fun v=>Q (.ret v) F H)
noncomputable def f9(w:BT)(Q:K2)(fl:Fl)(F:Fa)(H:AH):Prop:=let _h:=bV;Fl.casesOn (motive:=fun _=>Prop) fl (w F H Q) (Q .aL F H) (w F H Q) (fun v=>Q (.ret v) F H)
noncomputable def gM(P:K1)(fl:Fl)(F:Fa)(H:AH):Prop:=let _h:=bV;Fl.casesOn (motive:=fun _=>Prop) fl (P .none H) False False (fun v=>P v H)
noncomputable def ug(b w:BT)(F:Fa)(Q:K2)(v:V)(H:AH):Prop:=let _h:=bV;jN v H (nU (b F H (f9 w Q)) (Q .aL F H))
noncomputable def gH(c:ET)(b:BT)(k:Nat):BT:=Nat.rec (motive:=fun _=>BT) (fun _ _ _=>False) (fun _ ih F H Q=>c F H (ug b ih F Q)) k
noncomputable def cf(x:Nat)(b:BT)(l:List V):BT:=List.rec (motive:=fun _=>BT) (fun F H Q=>Q .aL F H) (fun v _ ih F H Q=>b (dT F x v) H (f9 ih Q)) l
noncomputable def gV(C:AH→Prop)(x:Nat)(b:BT)(l:List V):BT:=List.rec (motive:=fun _=>BT) (fun F H Q=>au (C H) (Q .aL F H)) (fun v _ ih F H Q=>au (C H) (b (dT F x v) H (f9 ih Q))) l
noncomputable def Ey(x:Nat)(F:Fa)(Q:K2)(v:V)(H:AH):Prop:=let _h:=bV;Q .aL (dT F x v) H
noncomputable def Hj(F:Fa)(xs:List Nat):List V→Option Fa:=List.rec (motive:=fun _=>Fa→List V→Option Fa) (fun F vs=>List.rec (motive:=fun _=>Option Fa) (some F) (fun _ _ _=>none) vs) (fun x _ ih F vs=>List.rec (motive:=fun _=>Option Fa) none (fun v vs _=>ih (dT F x v) vs) vs) xs F
noncomputable def QB(xs:List Nat)(F:Fa)(Q:K2)(v:V)(H:AH):Prop:=let _h:=bV;jP False v fun l=>ob (Hj F xs l) False fun F=>Q .aL F H
noncomputable def QA(x y:Nat)(u:V)(F:Fa)(Q:K2)(w:V)(H:AH):Prop:=let _h:=bV;Q .aL (dT (dT F y w) x u) H
noncomputable def P9(x y:Nat)(b:ET)(F:Fa)(Q:K2)(u:V)(H:AH):Prop:=let _h:=bV;b F H (QA x y u F Q)
noncomputable def nF(W:Wd)(u x v:V)(F:Fa)(H:AH)(Q:K2):Prop:=let fb:=Ex fun H'=>au (gG W u x v H H') (Q .aL F H');at_ fb H u fun i c=>Cell.casesOn (motive:=fun _=>Prop) c (fun l=>rL fb x fun k=>au (k<l.length) (Q .aL F (aq H (.lst (l.set k v)) i)))
 (fun kvs st=>ly fb x fun a=>au (kvs.length≤aJ) (Q .aL F (aq H (.dict (bc kvs a v) (st+1)) i))) (fun kvs st=>jP fb x fun l=>ob (atoms l) fb fun k=>au (kvs.length≤aJ) (Q .aL F (aq H (.aY (bc kvs k v) (st+1)) i))) (fun _=>fb) (fun _ _=>fb)
noncomputable def P8(W:Wd)(v u:V)(F:Fa)(Q:K2)(x:V)(H:AH):Prop:=let _h:=bV;nF W u x v F H Q
noncomputable def P7(W:Wd)(v:V)(i:ET)(F:Fa)(Q:K2)(u:V)(H:AH):Prop:=let _h:=bV;i F H (P8 W v u F Q)
noncomputable def P6(W:Wd)(a i:ET)(F:Fa)(Q:K2)(v:V)(H:AH):Prop:=let _h:=bV;a F H (P7 W v i F Q)
noncomputable def oy(a:Nat)(u v:V)(F:Fa)(H:AH)(Q:K2):Prop:=let fb:=Ex fun H'=>au (hH a H v u H') (Q .aL F H');at_ fb H u fun i c=>rV fb c fun k fl=>Sel (fU k a) fb (Sel (Nat.ble (aH fl) 800) (Q .aL F (aq H (.inst k (pM fl a v)) i)) fb)
noncomputable def Pz(a:Nat)(v:V)(F:Fa)(Q:K2)(u:V)(H:AH):Prop:=let _h:=bV;oy a u v F H Q
noncomputable def Py(o:ET)(a:Nat)(F:Fa)(Q:K2)(v:V)(H:AH):Prop:=let _h:=bV;o F H (Pz a v F Q)
noncomputable def isAdd(op:Operator):Bool:=Operator.casesOn (motive:=fun _=>Bool) op true false false false false false false false false false false false false
noncomputable def qV(op:Operator)(u:V)(H:AH)(w:V)(Q:K1):Prop:=let fb:=lU op u H w Q;t6 (ob (rK op u w) fb fun v=>Q v H) u fun i=>ob (aB H i) fb fun c=>iB fb c fun l=>jP (Sel (isAdd op) (ob (oC H w) fb fun r=>au (l.length+r.length≤aJ) (Q u (aq H (.lst (l++r)) i))) fb) w fun _=>fb
noncomputable def PY(op:Operator)(x:Nat)(u:V)(F:Fa)(Q:K2)(w:V)(H:AH):Prop:=let _h:=bV;qV op u H w (Ey x F Q)
noncomputable def Ew(a:Nat)(op:Operator)(u v:V)(F:Fa)(Q:K2)(w:V)(H:AH):Prop:=let _h:=bV;ob (rK op v w) False fun r=>oy a u r F H Q
noncomputable def yh(a:Nat)(op:Operator)(e:ET)(F:Fa)(Q:K2)(u:V)(H:AH):Prop:=let _h:=bV;ob (atC H a u) False fun v=>e F H (Ew a op u v F Q)
noncomputable def kEx(F:Fa)(Q:K2)(v:V)(H:AH):Prop:=let _h:=bV;Q .aL F H
noncomputable def Pw(F:Fa)(Q:K2)(v:V)(H:AH):Prop:=let _h:=bV;Q (.ret v) F H
noncomputable def E3(a b:BT)(F:Fa)(Q:K2)(v:V)(H:AH):Prop:=let _h:=bV;jN v H (nU (a F H Q) (b F H Q))
noncomputable def E0(x:Nat)(b:BT)(F:Fa)(H:AH)(Q:K2)(C:AH→Prop)(l:List V):Prop:=let _h:=bV;gV C x b l F H Q
noncomputable def Ph(x:Nat)(b:BT)(F:Fa)(Q:K2)(v:V)(H:AH):Prop:=let _h:=bV;w8 (qi v H (E0 x b F H Q)) v fun l=>cf x b l F H Q
noncomputable def Pj(x:Nat)(b:BT)(F:Fa)(Q:K2)(v:V)(H:AH):Prop:=let _h:=bV;rL False v fun k=>au (k≤aJ) (cf x b (jV k) F H Q)
mutual
noncomputable def vw(W:Wd)(n:Nat):IS→Fa→AH→K2→Prop
 | .asg x e,F,H,Q=>bC W n e F H (Ey x F Q)
 | .fR xs e,F,H,Q=>bC W n e F H (QB xs F Q)
 | .swap x y a b,F,H,Q=>bC W n a F H (P9 x y (bC W n b) F Q)
 | .bw a i e,F,H,Q=>bC W n e F H (P6 W (bC W n a) (bC W n i) F Q)
 | .setAttr o a e,F,H,Q=>bC W n e F H (Py (bC W n o) a F Q)
 | .aug x op e,F,H,Q=>ob (ob (aB F x) none id) False fun u=>bC W n e F H (PY op x u F Q)
 | .jo t a op e,F,H,Q=>bC W n t F H (yh a op (bC W n e) F Q)
 | .expr e,F,H,Q=>bC W n e F H (kEx F Q)
 | .ite c a b,F,H,Q=>bC W n c F H (E3 (aQ W n a) (aQ W n b) F Q)
 | .da c b,F,H,Q=>Ex fun k=>gH (bC W n c) (aQ W n b) k F H Q
 | .forIn x e b,F,H,Q=>bC W n e F H (Ph x (aQ W n b) F Q)
 | .forR x m b,F,H,Q=>bC W n m F H (Pj x (aQ W n b) F Q)
 | .ret e,F,H,Q=>bC W n e F H (Pw F Q)
 | .cont,F,H,Q=>Q .cnt F H
 | .pass,F,H,Q=>Q .aL F H
noncomputable def aQ(W:Wd)(n:Nat):aK→Fa→AH→K2→Prop
 | .nil,F,H,Q=>Q .aL F H
 | .cons s ss,F,H,Q=>vw W n s F H (jw (aQ W n ss) Q)
end
end
end Mine
end
section
open PySem PySem.W PySem.SeqAt
namespace Mine
set_option genSizeOf false
set_option genInjectivity false
section
variable{α:Type}
theorem aj{l:List α}:∀{k:Nat},aB l k=l[k]?:=by
 induction l with
 |nil=>exact rfl
 |cons x l ih=>
  intro k
  cases k with
  |zero=>rfl
  |succ k=>exact ih
theorem c7{l:List α}{v:α}:∀{k:Nat},aq l v k=l.set k v:=by
 induction l with
 |nil=>exact rfl
 |cons x l ih=>
  intro k
  cases k with
  |zero=>rfl
  |succ k=>exact aE _ ih
theorem cJ{l r:List α}:app l r=l++r:=by
 induction l with
 |nil=>rfl
 |cons x l ih=>exact aE _ ih
theorem pv{l:List α}:e6 l=l.isEmpty:=by cases l<;>rfl
theorem cT{l:List α}:aH l=l.length:=by
 induction l with
 |nil=>rfl
 |cons x l ih=>exact aE Nat.succ ih
theorem DT{l:List (Nat×α)}{a:Nat}:eN l a=aR l a:=by
 induction l with
 |nil=>rfl
 |cons p l ih=>
  show Bool.rec (motive:=fun _=>Option α) (eN l a) (some p.2) (Nat.beq p.1 a)=_;unfold aR;rw[tQ]
  cases e:Nat.beq p.1 a with
  |true=>rw[a9 (tW e)];rfl
  |false=>rw[a7 fun q=>(wR e) q];exact ih
theorem NT{l:List (Nat×α)}{a:Nat}:yH l a=l.any fun p=>decide (p.1=a):=by
 induction l with
 |nil=>rfl
 |cons p l ih=>
  show Bool.rec (motive:=fun _=>Bool) (yH l a) true (Nat.beq p.1 a)=_;rw[oU,←ih]
  cases e:Nat.beq p.1 a with
  |true=>rw[a9 (tW e),Bool.true_or]
  |false=>rw[a7 (wR e),Bool.false_or]
theorem R8{l:List (Nat×α)}{a:Nat}{v:α}:zC l a v=l.map fun p=>if p.1=a then(p.1,v) else p:=by
 induction l with
 |nil=>rfl
 |cons p l ih=>
  show Bool.rec (motive:=fun _=>Nat×α) p (p.1,v) (Nat.beq p.1 a)::zC l a v=_;rw[cO,←ih]
  cases e:Nat.beq p.1 a with
  |true=>rw[aG (tW e)]
  |false=>rw[aD (wR e)]
theorem Lz{l:List (Nat×α)}{a:Nat}{v:α}:pM l a v=bc l a v:=by
 unfold pM bc;rw[NT,R8,cJ];cases l.any _<;>rfl
theorem xY{l:List (Nat×α)}{a:Nat}{v:α}(h:eN l a=some v):(a,v)∈l:=by
 induction l with
 |nil=>cases h
 |cons p l ih=>
  have h:Bool.rec (motive:=fun _=>Option α) (eN l a) (some p.2) (Nat.beq p.1 a)=some v:=h
  cases e:Nat.beq p.1 a with
  |true=>rw[e] at h;cases h;rw[←tW e];exact .head _
  |false=>rw[e] at h;exact .tail _ (ih h)
end
theorem uM:∀{a b:List Nat},d5 a b=decide (a=b)
 | [],[]=>rfl
 | [],_::_=>rfl
 |_::_,[]=>rfl
 |x::a,y::b=>by
  show Bool.rec (motive:=fun _=>Bool) false (d5 a b) (Nat.beq x y)=_
  cases e:Nat.beq x y with
  |true=>rw[tW e];exact(uM (a:=a)).trans (l5.mpr ⟨fun q=>q▸rfl,fun q=>(oV q).2⟩)
  |false=>exact(a7 fun q=>wR e (oV q).1).symm
theorem SN{s:List Nat}{l:List (List Nat)}:zF s l=l.contains s:=by
 induction l with
 |nil=>rfl
 |cons x l ih=>
  show Bool.rec (motive:=fun _=>Bool) (zF s l) true (d5 s x)=_;rw[BD,uM,←ih];rw[show decide (s=x)=(s == x) from mi.mpr (by rw[xN,dm])]
  cases s == x<;>rfl
theorem zP{k:Nat}:jV k=iI k:=by
 induction k with
 |zero=>rfl
 |succ k ih=>
  show app (jV k) [.int (k:Int)]=_;rw[cJ,ih];unfold iI;rw[List.range_succ,bt];rfl
theorem VU{n:Nat}(h:1≤n):seqIndex? (-1) n=some (n-1):=by
 unfold seqIndex?;have e:(if (-1:Int)<0 then -1+(n:Int) else -1)=-1+(n:Int):=rfl
 rw[e]
 dsimp only
 rw[aG (by rw[de,l6,l6];omega),GR h]
section
variable{W:Wd}{H:AH}
open PySem.Calls PyProof.Rows in
theorem dy.Wf{l:List V}{v:V}(e:l.getLast?=some v):dy W (.tup l) (.int (-1)) H v:=fun{_ A s _ _ _ R} K hu hx c=>
 hx.bz (P:=fun cx=>cN W A s _ (getItem _ cx) R) fun _=>hu.fq (P:=fun cu=>cN W A s cu (getItem cu _) R) fun _ _ nf x z r=>
  let ⟨⟨e',hv⟩⟩:=r.get (tU.symm.trans e)
  have h1:=Bh (bb (bW _) (nc e'))
  ⟨IW x,wc.lookup,getItem_tuple x.is (by decide) (by decide) (VU (by rw[bM];exact h1)) (by rw[bM,kX];exact r.length▸e') (c.here K.N hv)⟩
end
theorem um{α:Type}{l:List α}:lA l=l.getLast?:=by
 induction l with
 |nil=>rfl
 |cons x l ih=>
  show ob (lA l) (some x) some=_;rw[ih,List.getLast?_cons];cases l.getLast?<;>rfl
section
variable{β:Type}{d:β}{v:V}{c:Cell}{R:Prop}(P:β→Prop)
theorem dS{β:Sort _}{d:β}(P:β→Prop){α:Type}{o:Option α}{f:α→β}(q:P (ob o d f))(k:∀a,o=some a→P (f a)→R)(k':P d→R):R:=by
 cases o with
 |none=>exact k' q
 |some a=>exact k a rfl q
theorem qH{f:List V→β}(q:P (jP d v f))(k:∀l,v=.tup l→P (f l)→R)(k':P d→R):R:=by cases v<;>first|exact k _ rfl q|exact k' q
theorem ju{f:Int→β}(q:P (cInt d v f))(k:∀l,v=.int l→P (f l)→R)(k':P d→R):R:=by cases v<;>first|exact k _ rfl q|exact k' q
theorem AV{f:List Nat→β}(q:P (cStr d v f))(k:∀l,v=.str l→P (f l)→R)(k':P d→R):R:=by cases v<;>first|exact k _ rfl q|exact k' q
theorem zg{f:Nat→β}(q:P (t6 d v f))(k:∀l,v=.obj l→P (f l)→R)(k':P d→R):R:=by cases v<;>first|exact k _ rfl q|exact k' q
theorem u6{f:Nat→β}(q:P (rL d v f))(k:∀l:Nat,v=.int l→P (f l)→R)(k':P d→R):R:=ju P q (fun i e q=>by cases i<;>first|exact k _ e q|exact k' q) k'
theorem o9{f:Atom→β}(q:P (ly d v f))(k:∀a,v=cG a→P (f a)→R)(k':P d→R):R:=by
 cases v with
 |int i=>exact k (.int i) rfl q
 |str i=>exact k (.str i) rfl q
 |_=>exact k' q
theorem j8{vs:List V}{f:V→β}(q:P (jX d vs f))(k:∀u,vs=[u]→P (f u)→R)(k':P d→R):R:=by
 cases vs with
 |nil=>exact k' q
 |cons u l=>cases l with
  |nil=>exact k u rfl q
  |cons=>exact k' q
theorem vg{vs:List V}{f:V→V→β}(q:P (s8 d vs f))(k:∀u x,vs=[u,x]→P (f u x)→R)(k':P d→R):R:=by
 cases vs with
 |nil=>exact k' q
 |cons u l=>exact j8 P (f:=f u) (vs:=l) q (fun x e q=>k u x (e▸rfl) q) k'
theorem nZ{f:List V→β}(q:P (iB d c f))(k:∀l,c=.lst l→P (f l)→R)(k':P d→R):R:=by cases c<;>first|exact k _ rfl q|exact k' q
theorem Kr{f:List (Atom×V)→Nat→β}(q:P (yQ d c f))(k:∀l s,c=.dict l s→P (f l s)→R)(k':P d→R):R:=by cases c<;>first|exact k _ _ rfl q|exact k' q
theorem Hm{f:List Int→β}(q:P (isSet d c f))(k:∀l,c=.set l→P (f l)→R)(k':P d→R):R:=by cases c<;>first|exact k _ rfl q|exact k' q
theorem yM{f:Nat→List (Nat×V)→β}(q:P (rV d c f))(k:∀l s,c=.inst l s→P (f l s)→R)(k':P d→R):R:=by cases c<;>first|exact k _ _ rfl q|exact k' q
theorem Kx{f:List (Atom×V)→Nat→β}{g:List (List Atom×V)→Nat→β}(q:P (Cell.casesOn (motive:=fun _=>β) c (fun _=>d) f g (fun _=>d) (fun _ _=>d)))(k:∀l s,c=.dict l s→P (f l s)→R)(k2:∀l s,c=.aY l s→P (g l s)→R)(k':P d→R):R:=by cases c<;>first|exact k _ _ rfl q|exact k2 _ _ rfl q|exact k' q
theorem kr{H:AH}{f:Nat→Cell→β}(q:P (at_ d H v f))(k:∀i c,v=.obj i→H[i]?=some c→P (f i c)→R)(k':P d→R):R:=zg P q (fun i e q=>dS P q (fun c h q=>k i c e (aj▸h) q) k') k'
end
theorem rH:∀{l:List V} {r:List Atom},atoms l=some r→l=r.map cG
 | [],r,h=>by cases h;rfl
 |x::l,r,h=>by
  have h:ly none x (fun a=>ob (atoms l) none fun r=>some (a::r))=some r:=h;exact o9 (·=some r) h (fun a e h=>dS (·=some r) h (fun q hq h=>by cases h;rw[e,rH hq];rfl) fun h=>ao h) fun h=>ao h
section
variable{W:Wd}{n:Nat}{H:AH}{Q Q':V→AH→Prop}{u v x y:V}{vs:List V}{i:Nat}{c:Cell}
theorem Seq.to{P:V→AH→Prop}(s:Seq P Q)(k:∀v H,Q v H→Q' v H):Seq P Q':=let ⟨p,q⟩:=s;⟨p,k _ _ q⟩
theorem kR{o:Option V}{R:Prop}(q:fN o H Q)(k:∀v,o=some v→Q v H→R):R:=by
 cases o with
 |none=>exact q.elim
 |some v=>exact k v rfl q
theorem V5(q:gc W u x H Q)(k:∀v H,Q v H→Q' v H):Seq (Prim W .sub [u,x] H) Q':=by
 have fb:Seq (Prim W .sub [u,x] H) Q→Seq (Prim W .sub [u,x] H) Q':=fun q=>Seq.to q k
 cases u with
 |tup l=>exact ju (β:=Prop) id q (fun j e q=>by
    cases j with
    |ofNat j=>exact kR q fun v h q=>e▸oA (dy.tup (aj▸h)) (k _ _ q)
    |negSucc j=>cases j with
     |zero=>exact kR q fun v h q=>e▸oA (dy.Wf (um▸h)) (k _ _ q)
     |succ=>exact fb q) fb
 |lst l=>exact u6 id (f:=fun k=>fN (aB l k) H Q) q (fun j e q=>kR q fun v h q=>e▸oA (dy.lst (aj▸h)) (k _ _ q)) fb
 |obj i=>
  refine dS (β:=Prop) id q (fun c hc q=>?_) fb;rw[aj] at hc
  cases c with
  |lst l=>exact ju (β:=Prop) id q (fun j e q=>by
    cases j with
    |ofNat j=>exact kR q fun v h q=>e▸oA (dy.cell hc (aj▸h)) (k _ _ q)
    |negSucc j=>cases j with
     |zero=>exact kR q fun v h q=>e▸oA (dy.last hc (um▸h)) (k _ _ q)
     |succ=>exact fb q) fb
  |dict kvs st=>exact o9 (β:=Prop) id q (fun a e q=>kR q fun v h q=>e▸oA (dy.dict hc h) (k _ _ q)) fb
  |aY kvs st=>exact qH (β:=Prop) id q (fun l e q=>dS (β:=Prop) id q (fun a h q=>kR q fun v h' q=>e▸rH h▸oA (dy.aY hc h') (k _ _ q)) fb) fb
  |_=>exact fb q
 |_=>exact fb q
theorem Vx{op:CmpOp}{a b:List Nat}{t:Bool}(h:H3 op a b=some t):P2 W (.str a) (.bool t) (.str b) H H (compareOp op):=by
 cases op<;>first|exact ao h|(rw[←av h,uM];first|exact lj.str|exact jK.str)
theorem N4{op:CmpOp}{a b:Int}{t:Bool}(h:EE op a b=some t):P2 W (.int a) (.bool t) (.int b) H H (compareOp op):=by
 cases op<;>first|exact ao h|(rw[←av h];first|exact lj.int|exact jK.int|exact JB.int|exact JA.int|exact I9.int|exact I8.int)
theorem D9{t:Bool}(h:yK H u x=some t):P2 W u (.bool t) x H H (compareOp .In)∧P2 W u (.bool (!t)) x H H (compareOp .NotIn):=by
 refine kr (·=some t) h (fun i c e hc h=>?_) fun h=>ao h;subst e
 cases c with
 |dict kvs st=>exact o9 (·=some t) h (fun a e h=>by rw[e,←av h];exact⟨q7.dict hc,nD.dict hc⟩) fun h=>ao h
 |aY kvs st=>exact qH (·=some t) h (fun l e h=>dS (·=some t) h (fun a ha h=>by rw[e,←av h,rH ha];exact⟨q7.aY hc,nD.aY hc⟩) fun h=>ao h) fun h=>ao h
 |set p=>exact ju (·=some t) h (fun a e h=>by rw[e,←av h];exact⟨q7.set hc,nD.set hc⟩) fun h=>ao h
 |_=>exact ao h
theorem Kb{op:CmpOp}{t:Bool}(h:uD op H u x=some t):P2 W u (.bool t) x H H (compareOp op):=by
 refine zg (·=some t) h (fun i e h=>?_) fun h=>?_
 ·cases op with
  |In=>exact(D9 h).1
  |NotIn=>exact dS (·=some t) h (fun b hb h=>av h▸(D9 hb).2) fun h=>ao h
  |_=>exact ao h
 ·exact AV (·=some t) h (fun a e h=>AV (·=some t) h (fun b e' h=>e▸e'▸Vx h) fun h=>ao h) fun h=>ju (·=some t) h (fun a e h=>ju (·=some t) h (fun b e' h=>e▸e'▸N4 h) fun h=>ao h) fun h=>ao h
theorem Kf{op:CmpOp}(q:gU W op u x H Q)(k:∀v H,Q v H→Q' v H):Seq (Prim W (.cmp op) [u,x] H) Q':=
 dS id q (fun _ h q=>lJ (Kb h) (k _ _ q)) fun q=>Seq.to q k
theorem w3{op:Operator}(h:rK op u x=some v):∃a b,u=.int a∧x=.int b∧((op=.Add∧v=.int (a+b))∨(op=.Sub∧v=.int (a-b))):=
 ju (·=some v) h (fun a e h=>ju (·=some v) h (fun b e' h=>⟨a,b,e,e',by cases op<;>first|exact ao h|exact .inl ⟨rfl,(av h).symm⟩|exact .inr ⟨rfl,(av h).symm⟩⟩) fun h=>ao h) fun h=>ao h
theorem Jv{op:Operator}(q:Av W op u x H Q)(k:∀v H,Q v H→Q' v H):Seq (Prim W (.bin op) [u,x] H) Q':=
 dS id q (fun v h q=>by
  obtain⟨a,b,rfl,rfl,⟨rfl,rfl⟩|⟨rfl,rfl⟩⟩:=w3 h
  ·exact fC nC.int (k _ _ q)
  ·exact fC JC.int (k _ _ q)) fun q=>Seq.to q k
theorem vQ{l:List V}(h:oC H u=some l):u=.tup l∨IsL H l u:=by
 cases u with
 |tup l'=>cases h;exact .inl rfl
 |lst l'=>cases h;exact .inr .val
 |obj i=>exact dS (·=some l) h (fun c hc h=>nZ (·=some l) h (fun l' e h=>by cases h;exact .inr (.cell (e▸aj▸hc))) fun h=>ao h) fun h=>ao h
 |_=>exact ao h
theorem La{f:F1}(q:oS W f u H Q)(k:∀v H,Q v H→Q' v H):Seq (Prim W (.f1 f) [u] H) Q':=by
 cases f with
 |len=>exact dS id q (fun l h q=>(vQ h).elim (fun e=>e▸iM ow.tup (k _ _ q)) fun e=>iM (ow.lst e) (k _ _ q)) fun q=>Seq.to q k
 |tuple=>
  have g:ob (oC H u) (Seq (Prim W (.f1 .tuple) [u] H) Q) (fun l=>Q (.tup l) H)→(∀l,u≠.tup l)→Seq (Prim W (.f1 .tuple) [u] H) Q':=fun q n=>dS id q (fun l h q=>(vQ h).elim (fun e=>absurd e (n l)) fun e=>iM (JF.lst e) (k _ _ q)) fun q=>Seq.to q k
  cases u with
  |tup l=>exact Seq.to q k
  |_=>exact g q nofun
 |_=>exact Seq.to q k
theorem KV{P:Option V→Prop}{b:Bool}{o:Option V}{R:Prop}(q:P (Bool.rec (motive:=fun _=>Option V) o none b))(k:b=false→P o→R)(k':P none→R):R:=by
 cases b with
 |true=>exact k' q
 |false=>exact k rfl q
theorem CO{a:Nat}(h:atC H a u=some v):∃i c fl,u=.obj i∧H[i]?=some (.inst c fl)∧fU c a=false∧aR fl a=some v:=
 kr (·=some v) h (fun i c e hc h=>yM (·=some v) h (fun k fl e' h=>KV (P:=(·=some v)) h (fun e2 h=>⟨i,k,fl,e,e'▸hc,e2,DT▸h⟩) fun h=>ao h) fun h=>ao h) fun h=>ao h
theorem Jk{a:Nat}(q:tD W a u H Q)(k:∀v H,Q v H→Q' v H):Seq (Prim W (.attr a) [u] H) Q':=
 dS id q (fun v h q2=>by obtain⟨i,c,fl,e1,hc,e,g⟩:=CO h;exact e1▸VK hc e g (k _ _ q2)) fun q=>Seq.to q k
theorem Nz{l:List (List Nat)}(q:A7 W l u H Q)(k:∀v H,Q v H→Q' v H):Seq (Prim W (.eE l) [u] H) Q':=
 AV (β:=Prop) id q (fun s e q=>e▸VM (k _ _ (SN▸q))) fun q=>Seq.to q k
theorem S8(q:tc W u H Q)(k:∀v H,Q v H→Q' v H):Seq (Prim W .fh [u] H) Q':=by
 have g:ob (oC H u) (Seq (Prim W .fh [u] H) Q) (fun l=>Q (.bool (!e6 l)) H)→(∀l,u≠.tup l)→Seq (Prim W .fh [u] H) Q':=fun q n=>dS id q (fun l h q=>(vQ h).elim (fun e=>absurd e (n l)) fun e=>VN e (k _ _ (pv▸q))) fun q=>Seq.to q k
 cases u with
 |tup l=>exact Seq.to q k
 |_=>exact g q nofun
theorem Ua{o:Op}(q:Bl W o vs H Q)(k:∀v H,Q v H→Q' v H):Seq (Prim W o vs H) Q':=by
 cases o with
 |tup=>
  have q:Sel (Nat.ble (aH vs) aJ) (Q (.tup vs) H) False:=q;unfold Sel at q;rw[cT] at q
  cases e:Nat.ble vs.length aJ with
  |false=>rw[e] at q;exact q.elim
  |true=>rw[e] at q;exact VQ (Bb e) (k _ _ q)
 |mS=>
  have q2:Q (.obj (aH H)) (app H [.set []]):=q;rw[cT,cJ] at q2;exact⟨(show P0 W H _ _ _ from JD.new),k _ _ q2⟩
 |sub=>exact vg (β:=Prop) id q (fun u x e q=>e▸V5 q k) False.elim
 |cmp op=>exact vg (β:=Prop) id q (fun u x e q=>e▸Kf q k) False.elim
 |bin op=>exact vg (β:=Prop) id q (fun u x e q=>e▸Jv q k) False.elim
 |f1 f=>exact j8 (β:=Prop) id q (fun u e q=>e▸La q k) False.elim
 |attr a=>exact j8 (β:=Prop) id q (fun u e q=>e▸Jk q k) False.elim
 |eE l=>exact j8 (β:=Prop) id q (fun u e q=>e▸Nz q k) False.elim
 |fh=>exact j8 (β:=Prop) id q (fun u e q=>e▸S8 q k) False.elim
 |lG=>exact j8 (β:=Prop) id q (fun u e q=>e▸VO (k _ _ q)) False.elim
 |_=>exact Seq.to q k
theorem qE{P P':Bool→Prop}(q:jN v H P)(k:∀t,P t→P' t):Tq v H P':=by
 have fb:Tq v H P→Tq v H P':=fun q=>let ⟨h,p⟩:=q;⟨h,k _ p⟩
 cases v with
 |none=>exact⟨.none rfl,k _ q⟩
 |bool b=>exact⟨.bool rfl,k _ q⟩
 |obj i=>exact dS (β:=Prop) id q (fun c hc q=>nZ (β:=Prop) id q (fun l e q=>⟨.lst (e▸aj▸hc) rfl,k _ (pv▸q)⟩) fb) fb
 |_=>exact fb q
theorem sR{t:Bool}{P P' R R':Prop}(q:Sel t P P')(k:P→R)(k':P'→R'):(if t=true then R else R'):=by
 cases t with
 |true=>exact if1 rfl (k q)
 |false=>exact yJ rfl (k' q)
theorem sS{t:Bool}{P P' R:Prop}(q:Sel t P P')(k:t=true→P→R)(k':P'→R):R:=by
 cases t with
 |true=>exact k rfl q
 |false=>exact k' q
theorem Sa:GJ.all (fun e=>e.2.all fun x=>decide (tT.nj e.1 x.1=some x.2))=true:=by kernel_rfl
theorem Nu:EA.all (fun e=>decide (tT.init e.1=some e.2))=true:=by kernel_rfl
theorem Si{c m f:Nat}(h:sC c m=some f):tT.nj c m=some f:=
 dS (·=some f) h (fun l hl h=>c6 (dh.mp (dh.mp Sa _ (xY hl)) _ (xY h))) fun h=>ao h
theorem SO(pr:bA W){m:Nat}{P P':Nat→Prop}(q:wJ W m u H P)(k:∀f,P f→P' f):lZ W m u H P':=by
 have fb:lZ W m u H P→lZ W m u H P':=fun q=>let ⟨a,b,c,d,p⟩:=q;⟨a,b,c,d,k _ p⟩;refine kr (β:=Prop) id q (fun i c e hc q=>yM (β:=Prop) id q (fun l fl e' q=>?_) fb) fb;have q:ob (eN fl m) (ob (sC l m) (lZ W m u H P) P) (fun _=>lZ W m u H P):=q
 cases g:eN fl m with
 |some=>rw[g] at q;exact fb q
 |none=>
  rw[g] at q;exact dS (β:=Prop) id q (fun f hf q=>⟨e,e'▸hc,pr.T▸Si hf,DT▸g,k _ q⟩) fb
theorem U2{m:Mt}(h:at_ false H u (fun _ c=>kB m c)=true):Recv W m u H:=by
 refine kr (·=true) h (fun i c e hc h=>?_) nofun;subst e;cases m<;>cases c<;>first|exact(ax h).elim|exact Recv.append hc|exact Recv.pop hc|exact Recv.insert hc|exact Recv.add hc|exact Recv.discard hc|exact Recv.get hc|exact Recv.Ad hc|exact Recv.fV hc
section
variable{i:Nat}{c:Cell}{l:List V}{v x:V}{k:Int}{p:List Int}{a:Atom}{ks:List Atom}{kvs:List (Atom×V)}{kv2:List (List Atom×V)}{st:Nat}(e:u=.obj i)(hc:H[i]?=some c)
include e hc
theorem UP(e1:vs=[v])(e2:c=.lst l)(z:l.length<aJ):bu W .append (u::vs) H .none (H.set i (.lst (l++[v]))):=by rw[e,e1];exact bu.append (e2▸hc) (by rw[a5];exact z)
theorem UT(e1:e6 vs=true)(e2:c=.lst l)(h:lA l=some v):bu W .pop (u::vs) H v (H.set i (.lst l.dropLast)):=by
 rw[e,show vs=[] by cases vs with|nil=>rfl|cons=>exact(ax e1).elim]
 exact bu.pop (e2▸hc) (um▸h)
theorem UO(e1:vs=[v])(ev:v=.int k)(e2:c=.set p)(z:p.length<4000):bu W .add (u::vs) H .none (H.set i (.set (te p k))):=by rw[e,e1,ev];exact bu.add (e2▸hc) z
theorem UQ(e1:vs=[v])(ev:v=.int k)(e2:c=.set p):bu W .discard (u::vs) H .none (H.set i (.set (p.filter (· != k)))):=by rw[e,e1,ev];exact bu.discard (e2▸hc)
theorem US(e1:vs=[v,x])(ev:v=cG a)(e2:c=.dict kvs st):bu W .eP (u::vs) H ((aR kvs a).getD x) H:=by rw[e,e1,ev];exact bu.get (e2▸hc)
theorem UU{r:List V}(e1:vs=[v,x])(ev:v=.tup r)(h:atoms r=some ks)(e2:c=.aY kv2 st):bu W .eP (u::vs) H ((aR kv2 ks).getD x) H:=by rw[e,e1,ev,rH h];exact bu.Ad (e2▸hc)
theorem UR(e1:vs=[x])(ev:x=cG a)(e2:c=.dict kvs st)(h:aR kvs a=some v)(z:kvs.length≤aJ):bu W .fV (u::vs) H v (H.set i (.dict (nV kvs a) (st+1))):=by rw[e,e1,ev];exact bu.fV (e2▸hc) h z
end
theorem r9{i:Nat}{c:Cell}{v:V}(q:Q v (aq H c i)):Q v (H.set i c):=Eq.mp (aE (Q v) c7) q
theorem HC{m:Mt}(q:iW W m u Q vs H)(k:∀v H,Q v H→Q' v H):Seq (bu W m (u::vs) H) Q':=by
 have fb:Seq (bu W m (u::vs) H) Q→Seq (bu W m (u::vs) H) Q':=fun q=>Seq.to q k;refine kr (β:=Prop) id q (fun i c e hc q=>?_) fb
 cases m with
 |append=>exact j8 (β:=Prop) id q (fun v e1 q=>nZ (β:=Prop) id q (fun l e2 q=>let ⟨z,q⟩:=q;⟨UP e hc e1 e2 z,k _ _ (r9 q)⟩) fb) fb
 |pop=>exact sS q (fun e1 q=>nZ (β:=Prop) id q (fun l e2 q=>kR q fun v h q=>⟨UT e hc e1 e2 h,k _ _ (r9 q)⟩) fb) fb
 |insert=>exact fb q
 |add=>exact j8 (β:=Prop) id q (fun v e1 q=>ju (β:=Prop) id q (fun j ev q=>Hm (β:=Prop) id q (fun p e2 q=>let ⟨z,q⟩:=q;⟨UO e hc e1 ev e2 z,k _ _ (r9 q)⟩) fb) fb) fb
 |discard=>exact j8 (β:=Prop) id q (fun v e1 q=>ju (β:=Prop) id q (fun j ev q=>Hm (β:=Prop) id q (fun p e2 q=>⟨UQ e hc e1 ev e2,k _ _ (r9 q)⟩) fb) fb) fb
 |eP=>exact vg (β:=Prop) id q (fun x d e1 q=>Kx (β:=Prop) id q (fun kvs st e2 q=>o9 (β:=Prop) id q (fun a ev q=>⟨US e hc e1 ev e2,k _ _ q⟩) fb) (fun kvs st e2 q=>qH (β:=Prop) id q (fun l ev q=>dS (β:=Prop) id q (fun a h q=>⟨UU e hc e1 ev h e2,k _ _ q⟩) fb) fb) fb) fb
 |fV=>exact j8 (β:=Prop) id q (fun x e1 q=>Kr (β:=Prop) id q (fun kvs st e2 q=>o9 (β:=Prop) id q (fun a ev q=>let ⟨z,q⟩:=q;kR q fun v h q=>⟨UR e hc e1 ev e2 h z,k _ _ (r9 q)⟩) fb) fb) fb
theorem DP(q:tJ W u x H Q)(k:∀v H,Q v H→Q' v H):Ex fun H'=>au (kg W u x H H') (Q' .none H'):=by
 have fb:(Ex fun H'=>au (kg W u x H H') (Q .none H'))→Ex fun H'=>au (kg W u x H H') (Q' .none H'):=fun q=>let ⟨p,q⟩:=q;⟨p,k _ _ q⟩;refine kr (β:=Prop) id q (fun i c e hc q=>nZ (β:=Prop) id q (fun l e' q=>qH (β:=Prop) id q (fun r e2 q=>?_) fb) fb) fb;subst e e' e2;obtain⟨z,q⟩:=q;rw[c7] at q;exact⟨kg.tup hc z,k _ _ q⟩
theorem U3(h:at_ false H u (fun _ c=>iB false c fun _=>true)=true):nH W u H:=
 kr (·=true) h (fun i c e hc h=>nZ (·=true) h (fun l e' _=>by subst e e';exact nH.lst hc) nofun) nofun
theorem pK{f:Nat}:Fi W n f vs H Q=Fn W n f vs H Q:=by unfold Fi;rfl
theorem xZ{f:Nat}(q:Fi W n f vs H Q)(k:∀v H,Q v H→Q' v H):Fn W n f vs H Q':=by
 rw[pK] at q;exact Fn.mono q fun q=>k _ _ q
theorem TH{c:Nat}(q:ot W n c vs H Q)(k:∀v H,Q v H→Q' v H):ot W n c vs H Q':=let ⟨h,x⟩:=q;⟨h,Fn.mono x fun y=>let ⟨a,b⟩:=y;⟨a,k _ _ b⟩⟩
theorem TG(pr:bA W){c:Nat}(q:E4 W n c Q vs H)(k:∀v H,Q v H→Q' v H):ot W n c vs H Q':=
 dS (β:=Prop) id q (fun f h q=>by
  have q:Fi W n f (.obj (aH H)::vs) (app H [.inst c []]) (E7 (aH H) Q):=q;rw[cT,cJ,pK] at q;exact⟨pr.T▸c6 (dh.mp Nu _ (xY h)),Fn.mono q fun y=>let ⟨a,b⟩:=y;⟨a,k _ _ b⟩⟩) fun q=>TH q k
theorem uy{ws:List V}(q:m9 ws H Q)(k:∀v H,Q v H→Q' v H):m9 ws H Q':=let ⟨r,x⟩:=q;⟨r,k _ _ x⟩
end
mutual
noncomputable def cD(f:Nat→Nat):IE→IE
 | .const v=>.const v
 | .var x=>.var (f x)
 | .op o es=>.op o (n4 f es)
 | .call g es=>.call g (n4 f es)
 | .aV e m es=>.aV (cD f e) m (n4 f es)
 | .bm m e es=>.bm m (cD f e) (n4 f es)
 | .hZ e a=>.hZ (cD f e) (cD f a)
 | .new c es=>.new c (n4 f es)
 | .and a b=>.and (cD f a) (cD f b)
 | .or a b=>.or (cD f a) (cD f b)
 | .not a=>.not (cD f a)
 | .ite c a b=>.ite (cD f c) (cD f a) (cD f b)
 | .comp e x it=>.comp (cD f e) (f x) (cD f it)
 | .f7 e x m=>.f7 (cD f e) (f x) (cD f m)
noncomputable def n4(f:Nat→Nat):c9→c9
 | .nil=>.nil
 | .cons e es=>.cons (cD f e) (n4 f es)
end
mutual
noncomputable def GX(f:Nat→Nat):IS→IS
 | .asg x e=>.asg (f x) (cD f e)
 | .fR xs e=>.fR (xs.map f) (cD f e)
 | .swap x y a b=>.swap (f x) (f y) (cD f a) (cD f b)
 | .bw a i e=>.bw (cD f a) (cD f i) (cD f e)
 | .setAttr o a e=>.setAttr (cD f o) a (cD f e)
 | .aug x op e=>.aug (f x) op (cD f e)
 | .jo t a op e=>.jo (cD f t) a op (cD f e)
 | .expr e=>.expr (cD f e)
 | .ite c a b=>.ite (cD f c) (gN f a) (gN f b)
 | .da c b=>.da (cD f c) (gN f b)
 | .forIn x e b=>.forIn (f x) (cD f e) (gN f b)
 | .forR x m b=>.forR (f x) (cD f m) (gN f b)
 | .ret e=>.ret (cD f e)
 | .cont=>.cont
 | .pass=>.pass
noncomputable def gN(f:Nat→Nat):aK→aK
 | .nil=>.nil
 | .cons s ss=>.cons (GX f s) (gN f ss)
end
noncomputable def Rel(f:Nat→Nat)(F:Fa)(G:aO):Prop:=∀i v,ob (aB F i) none id=some v→G (f i)=some v
section
variable{f:Nat→Nat}{F:Fa}{G:aO}
theorem Rel.set(inj:∀i j,f i=f j→i=j){x:Nat}{v:V}(r:Rel f F G):Rel f (dT F x v) (upd G (f x) v):=fun i w h=>by
 unfold upd;unfold dT at h;rw[c7,aj,tS] at h;by_cases e:x=i
 ·subst e;rw[aG rfl] at h ⊢;split at h
  ·exact h
  ·exact ao h
 ·rw[aD e] at h;rw[aD fun q=>e (inj _ _ q).symm];exact r i w (aj▸h)
end
end Mine
end
section
open PySem PySem.W
namespace Mine
set_option genSizeOf false
set_option genInjectivity false
section
variable{W:Wd}{n:Nat}{f:Nat→Nat}(pr:bA W)(inj:∀i j,f i=f j→i=j)
theorem Km{C:AH→Prop}{el:ET}{el':aO→AH→K1→Prop}{a b:Nat}{F:Fa}{G:aO}(ok:∀{v H} {Q Q':V→AH→Prop},el (dT F a v) H Q→(∀v H,Q v H→Q' v H)→el' (upd G b v) H Q'):∀{l:List V} {H:AH} {Q Q':List V→AH→Prop},oP C el a F l H Q→(∀v H,Q v H→Q' v H)→jC C el' b G l H Q':=by
 intro l
 induction l with
 |nil=>exact fun q k=>let ⟨c,q⟩:=q;⟨c,k _ _ q⟩
 |cons v l ih=>exact fun q k=>let ⟨c,q⟩:=q;⟨c,ok q fun w H q=>ih q fun ws H q=>k _ _ q⟩
theorem xJ{C:AH→Prop}(hC:∀H,C H){el:ET}{el':aO→AH→K1→Prop}{a b:Nat}{F:Fa}{G:aO}(ok:∀{v H} {Q Q':V→AH→Prop},el (dT F a v) H Q→(∀v H,Q v H→Q' v H)→el' (upd G b v) H Q'):∀{l:List V} {H:AH} {Q Q':List V→AH→Prop},oQ el a F l H Q→(∀v H,Q v H→Q' v H)→jC C el' b G l H Q':=by
 intro l
 induction l with
 |nil=>exact fun q k=>⟨hC _,k _ _ q⟩
 |cons v l ih=>exact fun q k=>⟨hC _,ok q fun w H q=>ih q fun ws H q=>k _ _ q⟩
theorem Hi{P:Prop→Prop}{d:Prop}{v:V}{g:List V→Prop}{R:Prop}(q:w8 d v g)(k:∀l,v=.tup l∨v=.lst l→g l→R)(k':d→R):R:=by
 cases v with
 |tup l=>exact k l (.inl rfl) q
 |lst l=>exact k l (.inr rfl) q
 |_=>exact k' q
theorem Wg{v:V}{H:AH}{P R R':Prop}{Q:K1}(q:jN v H (nU P (cBool (Q v H) v fun _=>Q (.bool false) H)))(k:P→R)(k':Q v H→R'):Tq v H fun t=>if t=true then R else R':=by
 cases v with
 |bool b=>cases b with
  |true=>exact vX (if1 rfl (k q))
  |false=>exact vX (yJ rfl (k' q))
 |_=>exact qE q fun t q=>sR q k k'
theorem Wh{v:V}{H:AH}{P R R':Prop}{Q:K1}(q:jN v H (nU (cBool (Q v H) v fun _=>Q (.bool true) H) P))(k:P→R)(k':Q v H→R'):Tq v H fun t=>if t=true then R' else R:=by
 cases v with
 |bool b=>cases b with
  |true=>exact vX (if1 rfl (k' q))
  |false=>exact vX (yJ rfl (k q))
 |_=>exact qE q fun t q=>sR q k' k
include pr inj
mutual
theorem b7:∀(e:IE) {F:Fa} {G:aO} {H:AH} {Q Q':V→AH→Prop},bC W n e F H Q→Rel f F G→(∀v H,Q v H→Q' v H)→ay W n (cD f e) G H Q'
 | .const v,_,_,_,_,_,q,r,k=>k _ _ q
 | .var x,F,G,H,Q,Q',q,r,k=>kR q fun v h q=>ay.var (r _ _ h) (k _ _ q)
 | .op o es,_,_,_,_,_,q,r,k=>nN es q r fun _ _ q=>Ua q k
 | .call g es,_,_,_,_,_,q,r,k=>nN es q r fun _ _ q=>xZ q k
 | .aV e m es,_,_,_,_,_,q,r,k=>b7 e q r fun _ _ q=>SO pr q fun _ q=>nN es q r fun _ _ q=>xZ q k
 | .bm m e es,_,_,_,_,_,q,r,k=>b7 e q r fun _ _ q=>sS q (fun h q=>⟨U2 h,nN es q r fun _ _ q=>HC q k⟩) fun q=>let ⟨a,q⟩:=q;⟨a,nN es q r fun _ _ q=>HC q k⟩
 | .hZ e a,_,_,_,_,_,q,r,k=>b7 e q r fun _ _ q=>sS q (fun h q=>⟨U3 h,b7 a q r fun _ _ q=>DP q k⟩) fun q=>let ⟨b,q⟩:=q;⟨b,b7 a q r fun _ _ q=>DP q k⟩
 | .new c es,_,_,_,_,_,q,r,k=>nN es q r fun _ _ q=>TG pr q k
 | .and a b,_,_,_,_,_,q,r,k=>b7 a q r fun _ _ q=>Wg q (fun q=>b7 b q r k) (k _ _)
 | .or a b,_,_,_,_,_,q,r,k=>b7 a q r fun _ _ q=>Wh q (fun q=>b7 b q r k) (k _ _)
 | .not a,_,_,_,_,_,q,r,k=>b7 a q r fun _ _ q=>qE q fun _ q=>k _ _ q
 | .ite c a b,_,_,_,_,_,q,r,k=>b7 c q r fun _ _ q=>qE q fun _ q=>sR q (fun q=>b7 a q r k) (fun q=>b7 b q r k)
 | .comp e x it,F,G,_,Q,Q',q,r,k=>b7 it q r fun src H q=>Hi (P:=id) q (fun l e' q=>let ⟨z,q⟩:=q;e'.elim (fun e'=>e'▸⟨.tup,z,xJ (fun _=>.tup) (fun q k=>b7 e q (r.set inj) k) q fun _ _ q=>uy q k⟩) fun e'=>e'▸⟨.lst .val,z,xJ (fun _=>.lst .val) (fun q k=>b7 e q (r.set inj) k) q fun _ _ q=>uy q k⟩) fun q=>let ⟨a,b,q⟩:=q;⟨a,b,Km (fun q k=>b7 e q (r.set inj) k) q fun _ _ q=>uy q k⟩
 | .f7 e x m,_,_,_,_,_,q,r,k=>b7 m q r fun v H q=>u6 (β:=Prop) id q (fun j e' q=>let ⟨z,q⟩:=q;⟨e',z,xJ (fun _=>bx) (fun q k=>b7 e q (r.set inj) k) (zP▸q) fun _ _ q=>uy q k⟩) False.elim
theorem nN:∀(es:c9) {F:Fa} {G:aO} {H:AH} {Q Q':List V→AH→Prop},mm W n es F H Q→Rel f F G→(∀v H,Q v H→Q' v H)→jD W n (n4 f es) G H Q'
 | .nil,_,_,_,_,_,q,r,k=>k _ _ q
 | .cons e es,_,_,_,_,_,q,r,k=>b7 e q r fun _ _ q=>nN es q r fun _ _ q=>k _ _ q
end
end
noncomputable abbrev Bq:=aO→AH→(Fl→aO→AH→Prop)→Prop
noncomputable def oN(f:Nat→Nat)(b:BT)(b':Bq):Prop:=∀{F:Fa} {G:aO} {H:AH} {Q:K2} {Q':Fl→aO→AH→Prop},b F H Q→Rel f F G→(∀fl F G H,Rel f F G→Q fl F H→Q' fl G H)→b' G H Q'
section
variable{W:Wd}{n:Nat}{f:Nat→Nat}{b:BT}{b':Bq}{F:Fa}{G:aO}{H:AH}{Q:K2}{Q':Fl→aO→AH→Prop}{u v w x:V}{a:Nat}
theorem Af{w:BT}{w':aO→AH→Prop}(ih:∀{F G H},Rel f F G→w F H Q→w' G H)(k:∀fl F G H,Rel f F G→Q fl F H→Q' fl G H):∀fl F G H,Rel f F G→f9 w Q fl F H→vf w' Q' fl G H
 | .aL,_,_,_,r,q=>ih r q
 | .cnt,_,_,_,r,q=>ih r q
 | .brk,_,_,_,r,q=>k _ _ _ _ r q
 | .ret _,_,_,_,r,q=>k _ _ _ _ r q
theorem Td{w:BT}{w':Bq}(o:oN f w w')(k:∀fl F G H,Rel f F G→Q fl F H→Q' fl G H):∀fl F G H,Rel f F G→jw w Q fl F H→zS (fun F H=>w' F H Q') Q' fl G H
 | .aL,_,_,_,r,q=>o q r k
 | .cnt,_,_,_,r,q=>k _ _ _ _ r q
 | .brk,_,_,_,r,q=>k _ _ _ _ r q
 | .ret _,_,_,_,r,q=>k _ _ _ _ r q
theorem Xj{c:ET}{c':aO→AH→K1→Prop}(oc:∀{F G H} {Q Q':V→AH→Prop},c F H Q→Rel f F G→(∀v H,Q v H→Q' v H)→c' G H Q')(ok:oN f b b')(k:∀fl F G H,Rel f F G→Q fl F H→Q' fl G H):∀{m:Nat} {F:Fa} {G:aO} {H:AH},Rel f F G→gH c b m F H Q→rB c' b' m G H Q':=by
 intro m
 induction m with
 |zero=>exact fun _ q=>q
 |succ m ih=>exact fun r q=>oc q r fun _ _ q=>qE q fun _ q=>sR q (fun q=>ok q r (Af ih k)) (k _ _ _ _ r)
section
variable(inj:∀i j,f i=f j→i=j)
include inj
theorem Lx{C:AH→Prop}(ok:oN f b b')(k:∀fl F G H,Rel f F G→Q fl F H→Q' fl G H):∀{l:List V} {F:Fa} {G:aO} {H:AH},Rel f F G→gV C a b l F H Q→jh C (f a) b' l G H Q':=by
 intro l
 induction l with
 |nil=>exact fun r q=>let ⟨c,q⟩:=q;⟨c,k _ _ _ _ r q⟩
 |cons v l ih=>exact fun r q=>let ⟨c,q⟩:=q;⟨c,ok q (r.set inj) (Af ih k)⟩
theorem xn{C:AH→Prop}(hC:∀H,C H)(ok:oN f b b')(k:∀fl F G H,Rel f F G→Q fl F H→Q' fl G H):∀{l:List V} {F:Fa} {G:aO} {H:AH},Rel f F G→cf a b l F H Q→jh C (f a) b' l G H Q':=by
 intro l
 induction l with
 |nil=>exact fun r q=>⟨hC _,k _ _ _ _ r q⟩
 |cons v l ih=>exact fun r q=>⟨hC _,ok q (r.set inj) (Af ih k)⟩
theorem Hk:∀{xs:List Nat} {l:List V} {F F':Fa} {G:aO},Hj F xs l=some F'→Rel f F G→l.length=xs.length∧Rel f F' (gw G (xs.map f) l)
 | [],[],_,_,_,h,r=>by cases h;exact⟨rfl,r⟩
 | [],_::_,_,_,_,h,_=>ao h
 |_::_,[],_,_,_,h,_=>ao h
 |x::xs,v::l,F,F',G,h,r=>let ⟨a,b⟩:=Hk (xs:=xs) (l:=l) (F:=dT F x v) h (r.set inj);⟨aE Nat.succ a,b⟩
end
theorem Ug(q:nF W u x v F H Q)(k:∀H,Q .aL F H→Q' .aL G H):Ex fun H'=>au (gG W u x v H H') (Q' .aL G H'):=by
 have fb:(Ex fun H'=>au (gG W u x v H H') (Q .aL F H'))→Ex fun H'=>au (gG W u x v H H') (Q' .aL G H'):=fun q=>let ⟨p,q⟩:=q;⟨p,k _ q⟩;refine kr (β:=Prop) id q (fun i c e hc q=>?_) fb;subst e
 cases c with
 |lst l=>exact u6 (β:=Prop) id q (fun j e q=>by obtain⟨z,q2⟩:=q;rw[c7] at q2;exact e▸⟨gG.lst hc z,k _ q2⟩) fb
 |dict kvs st=>exact o9 (β:=Prop) id q (fun j e q=>by obtain⟨z,q2⟩:=q;rw[c7] at q2;exact e▸⟨gG.dict hc z,k _ q2⟩) fb
 |aY kvs st=>exact qH (β:=Prop) id q (fun l e q=>dS (β:=Prop) id q (fun j h q=>by obtain⟨z,q2⟩:=q;rw[c7] at q2;rw[e,rH h];exact⟨gG.aY hc z,k _ q2⟩) fb) fb
 |_=>exact fb q
theorem AD(q:oy a u v F H Q)(k:∀H,Q .aL F H→Q' .aL G H):Ex fun H'=>au (hH a H v u H') (Q' .aL G H'):=by
 have fb:(Ex fun H'=>au (hH a H v u H') (Q .aL F H'))→Ex fun H'=>au (hH a H v u H') (Q' .aL G H'):=fun q=>let ⟨p,q⟩:=q;⟨p,k _ q⟩;refine kr (β:=Prop) id q (fun i c e hc q=>yM (β:=Prop) id q (fun c' fl e' q=>?_) fb) fb;have q2:Sel (fU c' a) (Ex fun H'=>au (hH a H v u H') (Q .aL F H')) (Sel (Nat.ble (aH fl) 800) (Q .aL F (aq H (.inst c' (pM fl a v)) i)) (Ex fun H'=>au (hH a H v u H') (Q .aL F H'))):=q
 cases hcl:fU c' a with
 |true=>rw[hcl] at q2;exact fb q2
 |false=>
  rw[hcl] at q2;exact sS (show Sel (Nat.ble (aH fl) 800) _ _ from q2) (fun z q3=>by
   rw[c7,Lz] at q3;rw[cT] at z;exact e▸⟨hH.mk (e'▸hc) hcl (bb (Bb z) (by decide)),k _ q3⟩) fb
theorem N9{op:Operator}(h:isAdd op=true):op=.Add:=by cases op<;>first|rfl|exact(ax h).elim
theorem Tb{β:Type}(P:β→Prop){d:β}{v:V}{f:List V→β}{R:Prop}(q:P (jP d v f))(k:(∀l,v≠.tup l)→P d→R)(k':∀l,P (f l)→R):R:=by cases v<;>first|exact k nofun q|exact k' _ q
theorem Jo{op:Operator}{Q Q':V→AH→Prop}(q:qV op u H w Q)(k:∀v H,Q v H→Q' v H):lU op u H w Q':=by
 have fb:lU op u H w Q→lU op u H w Q':=fun q=>by
  cases q with
  |add o e e' q=>exact .add o e e' (k _ _ q)
  |sub o e e' q=>exact .sub o e e' (k _ _ q)
  |lst o e hc hl z q=>exact .lst o e hc hl z (k _ _ q)
 refine zg (β:=Prop) id q (fun i e q=>dS (β:=Prop) id q (fun c hc q=>nZ (β:=Prop) id q (fun l e' q=>?_) fb) fb) fun q=>dS id q (fun v h q=>?_) fb
 ·exact Tb (β:=Prop) id q (fun n q=>sS q (fun ho q=>dS (β:=Prop) id q (fun r h q=>(vQ h).elim (fun e=>absurd e (n r)) fun hr=>let ⟨z,q⟩:=q;.lst (N9 ho) e (e'▸aj▸hc) hr z (e▸k _ _ (Eq.mp (aE (Q u) c7) q))) fb) fb) fun _=>fb
 ·obtain⟨a,b,e1,e2,⟨e3,e4⟩|⟨e3,e4⟩⟩:=w3 h
  ·exact .add e3 e1 e2 (e4▸k _ _ q)
  ·exact .sub e3 e1 e2 (e4▸k _ _ q)
theorem Jp{op:Operator}(q:ob (rK op v w) False fun r=>oy a u r F H Q)(k:∀H,Q .aL F H→Q' .aL G H):lU op v H w fun r H=>au (∀i,v≠.obj i) (Ex fun H'=>au (hH a H r u H') (Q' .aL G H')):=
 dS id q (fun r h q=>by
  obtain⟨a,b,e1,e2,⟨e3,e4⟩|⟨e3,e4⟩⟩:=w3 h
  ·exact .add e3 e1 e2 ⟨fun i z=>(by rw[e1] at z;cases z),e4▸AD q k⟩
  ·exact .sub e3 e1 e2 ⟨fun i z=>(by rw[e1] at z;cases z),e4▸AD q k⟩) False.elim
end
section
variable{W:Wd}{n:Nat}{f:Nat→Nat}(pr:bA W)(inj:∀i j,f i=f j→i=j)
include pr inj
mutual
theorem LP:∀(s:IS),oN f (vw W n s) (fun F H Q=>vx W n (GX f s) F H Q)
 | .asg x e=>fun q r k=>b7 pr inj e q r fun _ _ q=>k _ _ _ _ (r.set inj) q
 | .fR xs e=>fun q r k=>b7 pr inj e q r fun v H q=>qH (β:=Prop) id q (fun l e' q=>dS (β:=Prop) id q (fun F' h q=>let ⟨z,r'⟩:=Hk inj h r;⟨e',(z.trans (aN f).symm:l.length=(xs.map f).length),k _ _ _ _ r' q⟩) False.elim) False.elim
 | .swap x y a b=>fun q r k=>b7 pr inj a q r fun _ _ q=>b7 pr inj b q r fun _ _ q=>k _ _ _ _ ((r.set inj).set inj) q
 | .bw a i e=>fun q r k=>b7 pr inj e q r fun _ _ q=>b7 pr inj a q r fun _ _ q=>b7 pr inj i q r fun _ _ q=>Ug q fun _ q=>k _ _ _ _ r q
 | .setAttr o a e=>fun q r k=>b7 pr inj e q r fun _ _ q=>b7 pr inj o q r fun _ _ q=>AD q fun _ q=>k _ _ _ _ r q
 | .aug x op e=>fun q r k=>dS (β:=Prop) id q (fun u h q=>⟨r _ _ h,b7 pr inj e q r fun _ _ q=>Jo q fun _ _ q=>k _ _ _ _ (r.set inj) q⟩) False.elim
 | .jo t a op e=>fun q r k=>b7 pr inj t q r fun u H q=>dS (β:=Prop) id q (fun v h q=>let ⟨_,_,_,e1,hc,e2,g⟩:=CO h;⟨(e1▸⟨hc,e2,g⟩:qU a H u v),b7 pr inj e q r fun _ _ q=>Jp q fun _ q=>k _ _ _ _ r q⟩) False.elim
 | .expr e=>fun q r k=>b7 pr inj e q r fun _ _ q=>k _ _ _ _ r q
 | .ite c a b=>fun q r k=>b7 pr inj c q r fun _ _ q=>qE q fun _ q=>sR q (fun q=>ku a q r k) (fun q=>ku b q r k)
 | .da c b=>fun q r k=>let ⟨q⟩:=q;⟨Xj (c:=bC W n c) (c':=ay W n (cD f c)) (b:=aQ W n b) (b':=fun F H Q=>dc W n (gN f b) F H Q) (fun q r k=>b7 pr inj c q r k) (ku b) k r q⟩
 | .forIn x e b=>fun q r k=>b7 pr inj e q r fun v H q=>Hi (P:=id) q (fun l e' q=>e'.elim (fun e'=>e'▸⟨.tup,xn (b:=aQ W n b) (b':=fun F H Q=>dc W n (gN f b) F H Q) (C:=It .tup (.tup l) l) inj (fun _=>.tup) (ku b) k r q⟩) fun e'=>e'▸⟨.lst .val,xn (b:=aQ W n b) (b':=fun F H Q=>dc W n (gN f b) F H Q) (C:=It .lst (.lst l) l) inj (fun _=>.lst .val) (ku b) k r q⟩) fun q=>let ⟨a,q⟩:=q;⟨a,Lx (b:=aQ W n b) (b':=fun F H Q=>dc W n (gN f b) F H Q) inj (ku b) k r q⟩
 | .forR x m b=>fun q r k=>b7 pr inj m q r fun v H q=>u6 (β:=Prop) id q (fun j e' q=>let ⟨z,q⟩:=q;⟨e',z,xn (b:=aQ W n b) (b':=fun F H Q=>dc W n (gN f b) F H Q) inj (fun _=>bx) (ku b) k r (zP (k:=j)▸(show cf x (aQ W n b) (jV j) _ _ _ from q))⟩) False.elim
 | .ret e=>fun q r k=>b7 pr inj e q r fun _ _ q=>k _ _ _ _ r q
 | .cont=>fun q r k=>k _ _ _ _ r q
 | .pass=>fun q r k=>k _ _ _ _ r q
theorem ku:∀(ss:aK),oN f (aQ W n ss) (fun F H Q=>dc W n (gN f ss) F H Q)
 | .nil=>fun q r k=>k _ _ _ _ r q
 | .cons s ss=>fun q r k=>LP s q r (Td (ku ss) k)
end
end
noncomputable def big:Nat:=10 ^ 80
noncomputable def mO(xs:List Nat)(i:Nat):Nat:=(xs[i]?).getD (big+i)
noncomputable def distinct:List Nat→Bool
 | []=>true
 |x::xs=>Nat.blt x big&&xs.all (fun y=>!Nat.beq x y)&&distinct xs
theorem xP:∀{xs:List Nat},distinct xs=true→xs.Nodup∧∀x∈xs,x<big
 | [],_=>⟨dF,fun _ m=>nomatch m⟩
 |x::xs,h=>by
  unfold distinct at h;rw[de,de] at h;obtain⟨⟨h1,h2⟩,h3⟩:=h;obtain⟨a,b⟩:=xP h3;refine⟨ba.mpr ⟨fun m=>?_,a⟩,fun y m=>(a8.mp m).elim (fun e=>by rw[e];exact Nat.blt_eq.mp h1) (b y)⟩
  have:=dh.mp h2 x m
  rw[Nat.beq_refl] at this;cases this
theorem TN{xs:List Nat}(h:distinct xs=true):∀i j,mO xs i=mO xs j→i=j:=fun i j e=>by
 obtain⟨nd,lt⟩:=xP h;unfold mO at e
 cases hi:xs[i]? with
 |none=>
  cases hj:xs[j]? with
  |none=>rw[hi,hj] at e;exact Nat.add_left_cancel e
  |some y=>
   rw[hi,hj] at e;have e:big+i=y:=e;exact absurd (lt y (dj hj)) (fL.mpr (by rw[←e];exact aT _ _))
 |some x=>
  cases hj:xs[j]? with
  |none=>
   rw[hi,hj] at e;have e:x=big+j:=e;exact absurd (lt x (dj hi)) (fL.mpr (by rw[e];exact aT _ _))
  |some y=>
   rw[hi,hj] at e;have e:x=y:=e;subst e;have l:=(dE.mp hi).1;exact(BJ l nd).mp (hi.trans hj.symm)
noncomputable def zZ(m:Nat):Fa:=Nat.rec (motive:=fun _=>Fa) [] (fun _ ih=>none::ih) m
noncomputable def uS(vs:List V)(m:Nat):Fa:=List.rec (motive:=fun _=>Fa) (zZ m) (fun v _ ih=>some v::ih) vs
theorem Ie{x:Nat}:∀{xs:List Nat} {vs:List V} {F:aO},x∉xs→gw F xs vs x=F x
 | [],_,_,_=>rfl
 |y::xs,[],_,_=>rfl
 |y::xs,v::vs,F,h=>(Ie (xs:=xs) (vs:=vs) (F:=upd F y v) fun m=>h (.tail _ m)).trans (aD fun(e:x=y)=>h (by rw[e];exact .head _))
theorem TS{m i:Nat}:ob (aB (zZ m) i) none id=(none:Option V):=by
 induction m generalizing i with
 |zero=>rfl
 |succ m ih=>cases i with
  |zero=>rfl
  |succ i=>exact ih
theorem Dp:∀{vs:List V} {m i:Nat} {v:V},ob (aB (uS vs m) i) none id=some v→vs[i]?=some v
 | [],m,i,v,h=>by rw[show uS [] m=zZ m from rfl,TS] at h;cases h
 |w::vs,m,0,v,h=>h
 |w::vs,m,i+1,v,h=>by
  have h:ob (aB (uS vs m) i) none id=some v:=h
  have:=Dp h
  exact this
theorem Ic:∀{xs:List Nat} {vs:List V} {F:aO} {i x:Nat} {v:V},xs.Nodup→xs[i]?=some x→vs[i]?=some v→gw F xs vs x=some v
 | [],_,_,_,_,_,_,h,_=>ao h
 |_::_,[],_,_,_,_,_,_,h=>ao h
 |y::xs,w::vs,F,0,x,v,nd,h,h'=>by
  rw[ba] at nd;have h:some y=some x:=h;have h':some w=some v:=h';cases h;cases h';exact(Ie nd.1).trans (aG rfl)
 |y::xs,w::vs,F,i+1,x,v,nd,h,h'=>Ic (xs:=xs) (vs:=vs) (i:=i) (ba.mp nd).2 h h'
noncomputable def LF(f k m:Nat)(b:aK):Prop:=∃xs:List Nat,xs.length=k+m∧distinct xs=true∧(fT f).map (·.params)=some (xs.take k)∧(fT f).map (·.body)=some (gN (mO xs) b)
theorem lf{f k m:Nat}{b:aK}(xs:List Nat)(h:(xs.length,distinct xs,(fT f).map (·.params),(fT f).map (·.body))=(k+m,true,some (xs.take k),some (gN (mO xs) b))):LF f k m b:=⟨xs,aE (·.1) h,aE (·.2.1) h,aE (·.2.2.1) h,aE (·.2.2.2) h⟩
theorem bA.fe{W:Wd}(pr:bA W){f k m n:Nat}{b:aK}{vs:List V}{H:AH}{Q:V→AH→Prop}(g:LF f k m b)(hl:vs.length=k)(q:aQ W n b (uS vs m) H (gM Q)):Fi W (n+1) f vs H Q:=by
 rw[pK];obtain⟨xs,h1,h2,h3,h4⟩:=g
 cases hf:fT f with
 |none=>rw[hf] at h3;exact ao h3
 |some fi=>
  rw[hf] at h3 h4;have h3:fi.params=xs.take k:=av h3;have h4:fi.body=gN (mO xs) b:=av h4;have lk:(xs.take k).length=k:=by rw[wF,h1];exact qz (aT _ _)
  refine @bA.fn W pr f n fi vs H Q hf (by rw[h3,lk,hl]) ?_
  rw[h3,h4]
  refine ku pr (TN h2) b q (fun i v h=>?_) fun fl F G H _ q=>match fl,q with
   | .aL,q=>q
   | .ret _,q=>q
  have hv:=Dp h;have hi:i<k:=hl▸(dE.mp hv).1;have hx:(xs.take k)[i]?=some (mO xs i):=by
   have:i<xs.length:=h1▸bj hi (aT _ _)
   unfold mO;rw[List.getElem?_take_of_lt hi,bh this];rfl
  exact Ic ((List.take_sublist _ _).nodup (xP h2).1) hx hv
@[irreducible] noncomputable def Stop(b:BT):BT:=b
section
variable{W:Wd}{n:Nat}{F:Fa}{H:AH}{Q:K2}{s s':IS}{ss:aK}{b:BT}
theorem bJ(q:b F H Q):Stop b F H Q:=by unfold Stop;exact q
theorem Vu:Stop b=b:=by unfold Stop;rfl
noncomputable def tk:Nat→aK→aK
 |k+1,.cons s ss=>.cons s (tk k ss)
 |_,_=>.nil
noncomputable def dp:Nat→aK→aK
 |k+1,.cons _ ss=>dp k ss
 |_,ss=>ss
theorem C7:∀(k:Nat) {ss:aK} {F:Fa} {H:AH} {Q:K2},aQ W n (tk k ss) F H (jw (aQ W n (dp k ss)) Q)=aQ W n ss F H Q
 |0,ss,F,H,Q=>rfl
 |k+1,.nil,F,H,Q=>rfl
 |k+1,.cons s ss,F,H,Q=>aE (vw W n s F H) (funext fun fl=>funext fun F=>funext fun H=>match fl with
   | .aL=>C7 k
   | .brk=>rfl
   | .cnt=>rfl
   | .ret _=>rfl)
theorem cM(k:Nat)(q:aQ W n (tk k ss) F H (jw (Stop (aQ W n (dp k ss))) Q)):aQ W n ss F H Q:=by rw[Vu] at q;exact C7 k▸q
end
section
variable{W:Wd}{n:Nat}{H:AH}{Q:V→AH→Prop}{u v x:V}
theorem bH{o:Option V}(h:o=some v)(q:Q v H):fN o H Q:=by rw[h];exact q
theorem aa{t:Bool}{P P':Prop}(h:t=true)(p:P):Sel t P P':=by rw[h];exact p
theorem aX{t:Bool}{P P':Prop}(h:t=false)(p:P'):Sel t P P':=by rw[h];exact p
theorem cY{t:Bool}{P P':Prop}(h1:t=true→P)(h0:t=false→P'):Sel t P P':=by
 cases t with
 |true=>exact h1 rfl
 |false=>exact h0 rfl
theorem dB{vs:List V}(z:vs.length≤aJ)(q:Q (.obj (aH H)) (app H [.lst vs])):Seq (Prim W .lst vs H) Q:=by rw[cT,cJ] at q;exact⟨(⟨z,.cell⟩:au (vs.length≤aJ) (LR vs H (.obj H.length) (H++[.lst vs]))),q⟩
theorem jx(q:Q (.obj (aH H)) (app H [.dict [] 0])):Seq (Prim W .e5 [] H) Q:=by rw[cT,cJ] at q;exact⟨(.dict:DR H (.obj H.length) (H++[.dict [] 0])),q⟩
theorem uu(q:Q (.obj (aH H)) (app H [.aY [] 0])):Seq (Prim W .e5 [] H) Q:=by rw[cT,cJ] at q;exact⟨(.aY:DR H (.obj H.length) (H++[.aY [] 0])),q⟩
end
set_option genSizeOf true
set_option genInjectivity true
noncomputable abbrev i1:Int:=-1
noncomputable abbrev i2:Int:=-2
noncomputable abbrev i3:Int:=-3
noncomputable abbrev i4:Int:=-1000
section
local macro_rules
 |`(#[])=>`(.nil)
 |`(#[$a])=>`(.cons $a .nil)
 |`(#[$a,$as,*])=>`(.cons $a #[$as,*])
local macro_rules
 |`(↑$a)=>`(.var $a)
local macro_rules
 |`(⇑$a)=>`(.const (.int $a))
local macro_rules
 |`($a % $b)=>`(.op .sub (.cons $a (.cons $b .nil)))
local macro_rules
 |`($a == $b)=>`(.op (.cmp .Eq) (.cons $a (.cons $b .nil)))
local macro_rules
 |`($a+$b)=>`(.op (.bin .Add) (.cons $a (.cons $b .nil)))
local macro_rules
 |`($s:str)=>do
  let l:=s.getString.toList.toArray.map fun c=>Lean.Syntax.mkNumLit (toString c.toNat)
  `(.const (.str [$l,*]))
noncomputable abbrev j1:aK:=#[.ret (.op .tup #["[]",".",.const (.str [123,125]),"-","+","*","/",",","|",";","->",.const (.str [92,43]),":-","?-","-->","!","true","fail","false","call","=","^","error",.const (.str []),"end_of_file","system","$VAR","catch","throw"])]
theorem g1:LF 1 0 0 j1:=lf [] (by kernel_rfl)
noncomputable abbrev j2:aK:=#[.ret (.op .tup #[.op .tup #[".",⇑2],.op .tup #[",",⇑2],.op .tup #[";",⇑2],.op .tup #["->",⇑2],.op .tup #[.const (.str [92,43]),⇑1],.op .tup #[":-",⇑2],.op .tup #[":-",⇑1],.op .tup #["?-",⇑1],.op .tup #["-->",⇑2],.op .tup #[.const (.str [123,125]),⇑1],.op .tup #["=",⇑2],.op .tup #["^",⇑2],.op .tup #["-",⇑1],.op .tup #["-",⇑2],.op .tup #["+",⇑2],.op .tup #["/",⇑2],.op .tup #["error",⇑2],.op .tup #["$VAR",⇑1],.op .tup #["catch",⇑3],.op .tup #["throw",⇑1],.op .tup #["!",⇑0],.op .tup #["true",⇑0],.op .tup #["fail",⇑0],.op .tup #["false",⇑0],.op .tup #["call",⇑1],.op .tup #["call",⇑2],.op .tup #["call",⇑3],.op .tup #["call",⇑4],.op .tup #["call",⇑5],.op .tup #["call",⇑6],.op .tup #["call",⇑7],.op .tup #["call",⇑8]])]
theorem g2:LF 2 0 0 j2:=lf [] (by kernel_rfl)
noncomputable abbrev EK:aK:=#[.expr (.aV ↑0 5929987949 #[↑1])]
noncomputable abbrev EL:aK:=#[.expr (.aV ↑0 6013939299 #[↑2%⇑0,↑2%⇑1])]
noncomputable abbrev j3:aK:=#[.setAttr ↑0 1599430227059 (.op .lst #[]),.setAttr ↑0 109388970062261371602777502323 (.op .e5 #[]),.setAttr ↑0 25829672611287626355 (.op .lst #[]),.setAttr ↑0 1861224063156749765404099319326667379 (.op .e5 #[]),.forIn 1 (.call 1 #[]) EK,.forIn 2 (.call 2 #[]) EL]
theorem g3:LF 3 1 2 j3:=lf [6230994022,6247774324,24276855] (by kernel_rfl)
noncomputable abbrev j4:aK:=#[.asg 2 (.bm .eP (.op (.attr 109388970062261371602777502323) #[↑0]) #[↑1,.const (.int i1)]),.ite (.op (.cmp .GtE) #[↑2,⇑0]) #[.ret ↑2] #[],.asg 3 (.op (.f1 .len) #[.op (.attr 1599430227059) #[↑0]]),.expr (.bm .append (.op (.attr 1599430227059) #[↑0]) #[↑1]),.bw (.op (.attr 109388970062261371602777502323) #[↑0]) ↑1 ↑3,.ret ↑3]
theorem g4:LF 4 2 2 j4:=lf [6230994022,6247774324,1539468258916,402925602104690] (by kernel_rfl)
noncomputable abbrev j6:aK:=#[.asg 3 (.op .tup #[↑1,↑2]),.asg 4 (.bm .eP (.op (.attr 1861224063156749765404099319326667379) #[↑0]) #[↑3,.const (.int i1)]),.ite (.op (.cmp .GtE) #[↑4,⇑0]) #[.ret ↑4] #[],.asg 5 (.op (.f1 .len) #[.op (.attr 25829672611287626355) #[↑0]]),.expr (.bm .append (.op (.attr 25829672611287626355) #[↑0]) #[↑3]),.bw (.op (.attr 1861224063156749765404099319326667379) #[↑0]) ↑3 ↑5,.ret ↑5]
theorem g6:LF 6 3 3 j6:=lf [6230994022,5929987949,1518042969209,23815545,1539468258916,402925602104690] (by kernel_rfl)
noncomputable abbrev j7:aK:=#[.ret (.aV ↑0 100897158637842290 #[.aV ↑0 5929987949 #[↑1],↑2])]
theorem g7:LF 7 3 0 j7:=lf [6230994022,6247774324,1518042969209] (by kernel_rfl)
noncomputable abbrev j9:aK:=#[.ret (((.op (.attr 25829672611287626355) #[↑0])%↑1)%⇑1)]
theorem g9:LF 9 2 0 j9:=lf [6230994022,100897158637842290] (by kernel_rfl)
noncomputable abbrev OD:aK:=#[.ret (.call 15 #[.op .lst #[↑0]])]
theorem ME:LF 14 1 0 OD:=lf [6247772781] (by kernel_rfl)
noncomputable abbrev PF:IE:=↑3
noncomputable abbrev OF:aK:=#[.asg 4 (.bm .pop ↑3 #[]),.ite ((↑4%⇑0)=="v") #[.ite (.op (.cmp .NotIn) #[↑4%⇑1,↑1]) #[.bw ↑1 (↑4%⇑1) (.const (.bool true)),.expr (.bm .append ↑2 #[↑4%⇑1])] #[]] #[.ite ((↑4%⇑0)=="s") #[.expr (.hZ ↑3 (↑4%⇑2))] #[]]]
noncomputable abbrev OE:aK:=#[.asg 1 (.op .e5 #[]),.asg 2 (.op .lst #[]),.asg 3 (.op .listRev #[↑0]),.da PF OF,.ret ↑2]
theorem MF:LF 15 1 4 OE:=lf [1599429832051,6230992238,407255031049332,6248424559,6247772781] (by kernel_rfl)
noncomputable abbrev PG:IE:=↑2
noncomputable abbrev OH:aK:=#[.asg 3 (.bm .pop ↑2 #[]),.ite ((↑3%⇑0)=="v") #[.bw ↑1 (↑3%⇑1) ((.bm .eP ↑1 #[↑3%⇑1,⇑0])+⇑1)] #[.ite ((↑3%⇑0)=="s") #[.expr (.hZ ↑2 (↑3%⇑2))] #[]]]
noncomputable abbrev OG:aK:=#[.asg 1 (.op .e5 #[]),.asg 2 (.op .lst #[↑0]),.da PG OH,.ret ↑1]
theorem MG:LF 16 1 3 OG:=lf [6247772781,390805339403379,6248424559,6180401780] (by kernel_rfl)
noncomputable abbrev OI:aK:=#[.ite ((↑0%⇑0)=="a") #[.ret (.op .tup #[⇑4,↑0%⇑1])] #[],.ret (.op .tup #[⇑5,↑0%⇑1])]
theorem MH:LF 17 1 0 OI:=lf [6247772781] (by kernel_rfl)
noncomputable abbrev OJ:aK:=#[.setAttr ↑0 399558432417132 ↑1,.setAttr ↑0 6181118318 ↑2,.setAttr ↑0 5963211877 (.op .lst #[]),.setAttr ↑0 6230992238 (.op .mS #[]),.setAttr ↑0 1565236879724 (.op .mS #[]),.setAttr ↑0 7431401238237797656773434007450233 (.op (.attr 1526583357044) #[↑1])]
theorem MI:LF 18 3 0 OJ:=lf [6230994022,399558432417132,6181118318] (by kernel_rfl)
noncomputable abbrev OK:aK:=#[.expr (.bm .append (.op (.attr 5963211877) #[↑0]) #[↑1])]
theorem MJ:LF 19 2 0 OK:=lf [6230994022,436943810960463395400806254] (by kernel_rfl)
noncomputable abbrev OL:aK:=#[.asg 1 (.op (.attr 7431401238237797656773434007450233) #[↑0]),.setAttr ↑0 7431401238237797656773434007450233 (↑1+⇑1),.ret (.op .tup #["t",↑1])]
theorem MK:LF 20 1 1 OL:=lf [6230994022,402925602104690] (by kernel_rfl)
noncomputable abbrev OM:aK:=#[.ret ((.op (.attr 6097038948) #[(.op (.attr 1552335400819) #[.op (.attr 6181118318) #[↑0]])%↑1])=="void")]
theorem ML:LF 21 2 0 OM:=lf [6230994022,363] (by kernel_rfl)
noncomputable abbrev ON:aK:=#[.ret ((.op (.attr 6097038948) #[(.op (.attr 1552335400819) #[.op (.attr 6181118318) #[↑0]])%↑1])=="perm")]
theorem MM:LF 22 2 0 ON:=lf [6230994022,363] (by kernel_rfl)
noncomputable abbrev OO:aK:=#[.asg 2 ((.op (.attr 1552335400819) #[.op (.attr 6181118318) #[↑0]])%↑1),.ite ((.op (.attr 6097038948) #[↑2])=="perm") #[.ret (.op .tup #["y",.op (.attr 6231453556) #[↑2]])] #[],.ret (.op .tup #["t",↑1])]
theorem MN:LF 23 2 1 OO:=lf [6230994022,363,6063810159] (by kernel_rfl)
noncomputable abbrev OP:aK:=#[.ite ((↑1%⇑0)=="v") #[.asg 3 (↑1%⇑1),.ite (.aV ↑0 101739320438647140 #[↑3]) #[.ret (.const .none)] #[],.ite (.op (.cmp .In) #[↑3,.op (.attr 6230992238) #[↑0]]) #[.expr (.aV ↑0 5996636532 #[.op .tup #["get_value",.aV ↑0 1582366286693 #[↑3],↑2]])] #[.expr (.bm .add (.op (.attr 6230992238) #[↑0]) #[↑3]),.expr (.bm .add (.op (.attr 1565236879724) #[↑0]) #[↑3]),.expr (.aV ↑0 5996636532 #[.op .tup #["get_variable",.aV ↑0 1582366286693 #[↑3],↑2]])]] #[.ite ((↑1%⇑0)=="s") #[.expr (.aV ↑0 1569298080616 #[↑1,↑2])] #[.expr (.aV ↑0 5996636532 #[.op .tup #["get_constant",.call 17 #[↑1],↑2]])]]]
theorem MO:LF 24 3 1 OP:=lf [6230994022,6247772781,408397525705573,363] (by kernel_rfl)
noncomputable abbrev Em:IE:=.op (.cmp .Lt) #[↑4,.op (.f1 .len) #[↑3]]
noncomputable abbrev yU:aK:=#[.fR [5,6] (↑3%↑4),.aug 4 .Add ⇑1,.ite ((↑5%⇑1)==⇑0) #[.expr (.aV ↑0 5996636532 #[.op .tup #["get_list",↑6]])] #[.expr (.aV ↑0 5996636532 #[.op .tup #["get_structure",↑5%⇑1,↑6]])],.expr (.aV ↑0 1897164968328812631054732654321497203 #[↑5%⇑2,↑3])]
noncomputable abbrev OQ:aK:=#[.asg 3 (.op .lst #[.op .tup #[↑1,↑2]]),.asg 4 ⇑0,.da Em yU]
theorem MP:LF 25 3 4 OQ:=lf [6230994022,6247772781,408397525705573,105660221819022951,90484,6147761253,26689852469287347570] (by kernel_rfl)
noncomputable abbrev pT:aK:=#[.ite (.and ((↑4%⇑0)=="v") (.aV ↑0 101739320438647140 #[↑4%⇑1])) #[.aug 3 .Add ⇑1,.cont] #[],.ite (.op (.cmp .Gt) #[↑3,⇑0]) #[.expr (.aV ↑0 5996636532 #[.op .tup #["unify_void",↑3]]),.asg 3 ⇑0] #[],.ite ((↑4%⇑0)=="v") #[.expr (.aV ↑0 7410800657534425848493992510123109 #[↑4%⇑1])] #[.ite ((↑4%⇑0)=="s") #[.asg 5 (.aV ↑0 29028909779157184358610936885881 #[]),.expr (.aV ↑0 5996636532 #[.op .tup #["unify_variable",↑5]]),.expr (.bm .append ↑2 #[.op .tup #[↑4,↑5]])] #[.expr (.aV ↑0 5996636532 #[.op .tup #["unify_constant",.call 17 #[↑4]]])]]]
noncomputable abbrev OR:aK:=#[.asg 3 ⇑0,.forIn 4 ↑1 pT,.ite (.op (.cmp .Gt) #[↑3,⇑0]) #[.expr (.aV ↑0 5996636532 #[.op .tup #["unify_void",↑3]])] #[]]
theorem MR:LF 26 3 3 OR:=lf [6230994022,5929854835,105660221819022951,1608186946675,23163495,6869497416814208053881] (by kernel_rfl)
noncomputable abbrev OS:aK:=#[.ite (.op (.cmp .NotIn) #[↑1,.op (.attr 6230992238) #[↑0]]) #[.expr (.bm .add (.op (.attr 6230992238) #[↑0]) #[↑1]),.expr (.aV ↑0 5996636532 #[.op .tup #["unify_variable",.aV ↑0 1582366286693 #[↑1]]])] #[.ite (.op (.cmp .In) #[↑1,.op (.attr 1565236879724) #[↑0]]) #[.expr (.aV ↑0 5996636532 #[.op .tup #["unify_local_value",.aV ↑0 1582366286693 #[↑1]]])] #[.expr (.aV ↑0 5996636532 #[.op .tup #["unify_value",.aV ↑0 1582366286693 #[↑1]]])]]]
theorem MS:LF 27 2 0 OS:=lf [6230994022,363] (by kernel_rfl)
noncomputable abbrev PH:IE:=((((↑3%(.const (.int i1)))%⇑2)%(.const (.int i1)))%⇑0)=="s"
noncomputable abbrev OU:aK:=#[.expr (.bm .append ↑3 #[((↑3%(.const (.int i1)))%⇑2)%(.const (.int i1))])]
noncomputable abbrev PI:IE:=.op (.cmp .GtE) #[↑5,⇑0]
noncomputable abbrev OV:aK:=#[.asg 6 (↑3%↑5),.asg 7 (.aV ↑0 109699635645612750339947324787 #[↑6%⇑2,↑4]),.ite (↑5==⇑0) #[.asg 8 ↑2] #[.asg 8 (.aV ↑0 29028909779157184358610936885881 #[])],.ite ((↑6%⇑1)==⇑0) #[.expr (.aV ↑0 5996636532 #[.op .tup #["put_list",↑8]])] #[.expr (.aV ↑0 5996636532 #[.op .tup #["put_structure",↑6%⇑1,↑8]])],.expr (.aV ↑0 29425046964601494130652034790515 #[↑7]),.asg 4 ↑8,.aug 5 .Sub ⇑1]
noncomputable abbrev OT:aK:=#[.asg 3 (.op .lst #[↑1]),.da PH OU,.asg 4 (.const .none),.asg 5 (.op (.bin .Sub) #[.op (.f1 .len) #[↑3],⇑1]),.da PI OV]
theorem MT:LF 28 3 6 OT:=lf [6230994022,6247772781,409436856739188,1526464604526,1522120028023,90484,6147761253,405072951600499,26689852469287347570] (by kernel_rfl)
noncomputable abbrev PJ:IE:=.op (.cmp .LtE) #[↑5,↑4]
noncomputable abbrev OX:aK:=#[.asg 6 (↑1%↑5),.ite (.and (↑5==↑4) (.op .lG #[↑2])) #[.expr (.bm .append ↑3 #[↑2])] #[.ite ((↑6%⇑0)=="s") #[.asg 7 (.aV ↑0 29028909779157184358610936885881 #[]),.expr (.aV ↑0 1522388266084 #[↑6,↑7]),.expr (.bm .append ↑3 #[↑7])] #[.expr (.bm .append ↑3 #[↑6])]],.aug 5 .Add ⇑1]
noncomputable abbrev OW:aK:=#[.asg 3 (.op .lst #[]),.asg 4 (.op (.bin .Sub) #[.op (.f1 .len) #[↑1],⇑1]),.asg 5 ⇑0,.da PJ OX,.ret ↑3]
theorem MU:LF 29 3 5 OW:=lf [6230994022,5929854835,1522120028023,405072951600499,6113293172,90484,23163495,6869497416814208053881] (by kernel_rfl)
noncomputable abbrev OZ:aK:=#[.ite (.and ((↑3%⇑0)=="v") (.aV ↑0 101739320438647140 #[↑3%⇑1])) #[.aug 2 .Add ⇑1,.cont] #[],.ite (.op (.cmp .Gt) #[↑2,⇑0]) #[.expr (.aV ↑0 5996636532 #[.op .tup #["set_void",↑2]]),.asg 2 ⇑0] #[],.ite ((↑3%⇑0)=="v") #[.expr (.aV ↑0 114941589706983022890938690661 #[↑3%⇑1])] #[.ite ((↑3%⇑0)=="t") #[.expr (.aV ↑0 5996636532 #[.op .tup #["set_value",↑3]])] #[.expr (.aV ↑0 5996636532 #[.op .tup #["set_constant",.call 17 #[↑3]]])]]]
noncomputable abbrev OY:aK:=#[.asg 2 ⇑0,.forIn 3 ↑1 OZ,.ite (.op (.cmp .Gt) #[↑2,⇑0]) #[.expr (.aV ↑0 5996636532 #[.op .tup #["set_void",↑2]])] #[]]
theorem MV:LF 30 2 2 OY:=lf [6230994022,405072951600499,1608186946675,1582316217189] (by kernel_rfl)
noncomputable abbrev Oa:aK:=#[.ite (.op (.cmp .NotIn) #[↑1,.op (.attr 6230992238) #[↑0]]) #[.expr (.bm .add (.op (.attr 6230992238) #[↑0]) #[↑1]),.expr (.aV ↑0 5996636532 #[.op .tup #["set_variable",.aV ↑0 1582366286693 #[↑1]]])] #[.ite (.op (.cmp .In) #[↑1,.op (.attr 1565236879724) #[↑0]]) #[.expr (.aV ↑0 5996636532 #[.op .tup #["set_local_value",.aV ↑0 1582366286693 #[↑1]]]),.ite (.not (.aV ↑0 111863565712922486446909386356 #[↑1])) #[.expr (.bm .discard (.op (.attr 1565236879724) #[↑0]) #[↑1])] #[]] #[.expr (.aV ↑0 5996636532 #[.op .tup #["set_value",.aV ↑0 1582366286693 #[↑1]]])]]]
theorem MW:LF 31 2 0 Oa:=lf [6230994022,363] (by kernel_rfl)
noncomputable abbrev EM:aK:=#[.aug 3 .Add ⇑1,.asg 5 (.op .tup #["a",↑3]),.ite ((↑4%⇑0)=="v") #[.expr (.aV ↑0 28873521731084510004641471294565 #[↑4%⇑1,↑5,↑2])] #[.ite ((↑4%⇑0)=="s") #[.expr (.aV ↑0 1522388266084 #[↑4,↑5])] #[.expr (.aV ↑0 5996636532 #[.op .tup #["put_constant",.call 17 #[↑4],↑5]])]]]
noncomputable abbrev Ob:aK:=#[.asg 3 ⇑0,.forIn 4 ↑1 EM]
theorem MX:LF 41 3 3 Ob:=lf [6230994022,5929854835,102568360795532903,402925602104690,23163495,409436856739188] (by kernel_rfl)
noncomputable abbrev Oc:aK:=#[.asg 4 ((.op (.attr 1552335400819) #[.op (.attr 6181118318) #[↑0]])%↑1),.ite ((.op (.attr 6097038948) #[↑4])=="void") #[.expr (.aV ↑0 5996636532 #[.op .tup #["put_void",↑2]])] #[.ite (.op (.cmp .NotIn) #[↑1,.op (.attr 6230992238) #[↑0]]) #[.expr (.bm .add (.op (.attr 6230992238) #[↑0]) #[↑1]),.ite ((.op (.attr 6097038948) #[↑4])=="perm") #[.expr (.bm .add (.op (.attr 1565236879724) #[↑0]) #[↑1])] #[],.expr (.aV ↑0 5996636532 #[.op .tup #["put_variable",.aV ↑0 1582366286693 #[↑1],↑2]])] #[.ite (.and (.op (.attr 410592219326053) #[↑4]) (.and (.op (.cmp .GtE) #[↑3,⇑0]) ((.op (.attr 6721636927027383591276) #[↑4])==↑3))) #[.expr (.aV ↑0 5996636532 #[.op .tup #["put_unsafe_value",.aV ↑0 1582366286693 #[↑1],↑2]])] #[.expr (.aV ↑0 5996636532 #[.op .tup #["put_value",.aV ↑0 1582366286693 #[↑1],↑2]])]]]]
theorem MY:LF 42 4 1 Oc:=lf [6230994022,363,409436856739188,102568360795532903,6063810159] (by kernel_rfl)
noncomputable abbrev Od:aK:=#[.asg 2 ((.op (.attr 1543761914995) #[.op (.attr 399558432417132) #[↑0]])%↑1),.asg 3 (↑2%⇑0),.ite (↑3=="call") #[.expr (.aV ↑0 7391621563157248401458788381389939 #[↑2%⇑2,↑1])] #[.ite (↑3=="builtin") #[.expr (.aV ↑0 7391621563157248401458788381389939 #[↑2%⇑2,.const (.int i1)]),.expr (.aV ↑0 5996636532 #[.op .tup #["builtin",↑2%⇑1]])] #[.ite (↑3=="unify") #[.expr (.aV ↑0 1763479434849757986513260 #[↑2%⇑1,↑2%⇑2])] #[.ite (↑3=="cut") #[.expr (.aV ↑0 5996636532 #[.op .tup #["neck_cut"]])] #[.ite (↑3=="level") #[.expr (.aV ↑0 443021384642753003221115244 #["get_level",↑2%⇑1])] #[.ite (↑3=="mark") #[.expr (.aV ↑0 443021384642753003221115244 #["mark",↑2%⇑1])] #[.ite (↑3=="cutto") #[.expr (.aV ↑0 443021384642753003221115244 #["cut_to",↑2%⇑1])] #[.expr (.aV ↑0 5996636532 #[.op .tup #["fail"]])]]]]]]]]
theorem MZ:LF 44 2 2 Od:=lf [6230994022,1552335267192,6030319980,6097038948] (by kernel_rfl)
noncomputable abbrev EN:aK:=#[.aug 3 .Add ⇑1,.expr (.aV ↑0 28553514230927730767136968502900 #[↑4,.op .tup #["a",↑3]])]
noncomputable abbrev PK:IE:=.op (.cmp .Lt) #[↑6,↑5]
noncomputable abbrev Oe:aK:=#[.expr (.aV ↑0 6030319980 #[↑6]),.ite (((↑2%↑6)%⇑0)=="call") #[.expr (.aV ↑0 5996636532 #[.op .tup #["call",(↑2%↑6)%⇑1,(.op (.attr 1720886839222231419348338) #[↑1])%↑6]])] #[],.aug 6 .Add ⇑1]
noncomputable abbrev rX:aK:=#[.asg 1 (.op (.attr 6181118318) #[↑0]),.asg 2 (.op (.attr 1543761914995) #[.op (.attr 399558432417132) #[↑0]]),.ite (.op (.attr 6758814687394858888822) #[↑1]) #[.expr (.aV ↑0 5996636532 #[.op .tup #["allocate",.op (.attr 25755653471308708453) #[↑1]]])] #[],.asg 3 ⇑0,.forIn 4 (.op (.attr 5929854835) #[.op (.attr 399558432417132) #[↑0]]) EN,.asg 5 (.op (.bin .Sub) #[.op (.f1 .len) #[↑2],⇑1]),.asg 6 ⇑0,.da PK Oe,.ite (.op (.cmp .GtE) #[↑5,⇑0]) #[.expr (.aV ↑0 6030319980 #[↑5])] #[],.ite (.op (.attr 6758814687394858888822) #[↑1]) #[.expr (.aV ↑0 5996636532 #[.op .tup #["deallocate"]])] #[],.ite (.and (.op (.cmp .GtE) #[↑5,⇑0]) (((↑2%↑5)%⇑0)=="call")) #[.expr (.aV ↑0 5996636532 #[.op .tup #["execute",(↑2%↑5)%⇑1]])] #[.expr (.aV ↑0 5996636532 #[.op .tup #["proceed"]])],.ret (.op (.attr 5963211877) #[↑0])]
theorem Ma:LF 45 1 6 rX:=lf [6230994022,6181118318,1543761914995,402925602104690,23163495,6113293172,1552335267192] (by kernel_rfl)
noncomputable abbrev Of:aK:=#[.ret (.aV (.new 5 #[↑1,↑2]) 390792119415653 #[])]
theorem Mb:LF 46 3 0 Of:=lf [104560727069518963,399558432417132,6181118318] (by kernel_rfl)
noncomputable abbrev Og:aK:=#[.setAttr ↑0 100897158637842290 ↑1,.setAttr ↑0 5929854835 ↑2,.setAttr ↑0 1543761914995 ↑3,.setAttr ↑0 1526583357044 ↑4]
theorem Mc:LF 47 5 0 Og:=lf [6230994022,100897158637842290,5929854835,1543761914995,1526583357044] (by kernel_rfl)
noncomputable abbrev Oh:aK:=#[.asg 1 (↑0%⇑0),.ite (.or (↑1=="call") (↑1=="builtin")) #[.ret (↑0%⇑2)] #[],.ite (↑1=="unify") #[.ret (.op .tup #[↑0%⇑1,↑0%⇑2])] #[],.ret (.op .tup #[])]
theorem Md:LF 48 1 1 Oh:=lf [6030319980,6097038948] (by kernel_rfl)
noncomputable abbrev Oi:aK:=#[.ite (.or ((↑0%⇑0)=="level") (.or ((↑0%⇑0)=="mark") ((↑0%⇑0)=="cutto"))) #[.ret (↑0%⇑1)] #[],.ret (.const (.int i1))]
theorem Me:LF 49 1 0 Oi:=lf [6030319980] (by kernel_rfl)
noncomputable abbrev Oj:aK:=#[.setAttr ↑0 24535410 ↑1,.setAttr ↑0 6097038948 "temp",.setAttr ↑0 6231453556 ⇑0,.setAttr ↑0 1539367400308 ↑2,.setAttr ↑0 410592219326053 (.const (.bool false)),.setAttr ↑0 6721636927027383591276 (.const (.int i1)),.setAttr ↑0 1526583357044 ⇑0,.setAttr ↑0 433293403150942252400209515 ⇑0,.setAttr ↑0 1720739053318992903368299 ⇑0]
theorem Mf:LF 50 3 0 Oj:=lf [6230994022,363,1539367400308] (by kernel_rfl)
noncomputable abbrev Ol:aK:=#[.setAttr ↑0 1552335400819 ↑1,.setAttr ↑0 390775274630003 ↑2,.setAttr ↑0 6758814687394858888822 ↑3,.setAttr ↑0 25755653471308708453 ↑4,.setAttr ↑0 1720886839222231419348338 ↑5]
theorem Mg:LF 51 6 0 Ol:=lf [6230994022,1552335400819,390775274630003,6758814687394858888822,25755653471308708453,1720886839222231419348338] (by kernel_rfl)
noncomputable abbrev Oo:aK:=#[.expr (.bm .append ↑1 #[↑2]),.ite ((↑3%⇑0)=="call") #[.aug 2 .Add ⇑1] #[]]
noncomputable abbrev Om:aK:=#[.asg 1 (.op .lst #[]),.asg 2 ⇑0,.forIn 3 ↑0 Oo,.ret ↑1]
theorem Dr:LF 57 1 3 Om:=lf [1543761914995,390775274630003,1526465916523,6030319980] (by kernel_rfl)
noncomputable abbrev Oq:aK:=#[.setAttr ↑0 1552335400819 (.op .e5 #[])]
theorem Mh:LF 58 1 0 Oq:=lf [6230994022] (by kernel_rfl)
noncomputable abbrev EO:aK:=#[.ite (.op (.cmp .NotIn) #[↑1,.op (.attr 1552335400819) #[↑0]]) #[.bw (.op (.attr 1552335400819) #[↑0]) ↑1 (.new 7 #[↑1,↑2]),.setAttr ((.op (.attr 1552335400819) #[↑0])%↑1) 433293403150942252400209515 ↑4] #[],.asg 6 ((.op (.attr 1552335400819) #[↑0])%↑1),.jo ↑6 1526583357044 .Add ↑5,.setAttr ↑6 6721636927027383591276 ↑3,.setAttr ↑6 1720739053318992903368299 ↑4]
theorem Mi:LF 59 6 1 EO:=lf [6230994022,363,1539367400308,6030319980,1526465916523,1526583357044,6063810159] (by kernel_rfl)
noncomputable abbrev EP:aK:=#[.expr (.aV ↑0 6130328948 #[↑7,↑2+"_struct",↑3,↑4,↑6%↑7])]
noncomputable abbrev ud:aK:=#[.ite ((↑5%⇑0)=="v") #[.expr (.aV ↑0 6130328948 #[↑5%⇑1,↑2+"_arg",↑3,↑4,⇑1])] #[.asg 6 (.call 16 #[↑5]),.forIn 7 (.call 14 #[↑5]) EP]]
noncomputable abbrev Ot:aK:=#[.forIn 5 ↑1 ud]
theorem Mj:LF 60 5 3 Ot:=lf [6230994022,1599429832051,1582366286693,6030319980,1526465916523,6247772781,390805339403379,363] (by kernel_rfl)
noncomputable abbrev Ou:aK:=#[.ite ((.op (.attr 1526583357044) #[↑0])==⇑1) #[.ret "void"] #[],.ite (.op (.cmp .Gt) #[.op (.attr 1720739053318992903368299) #[↑0],.op (.attr 433293403150942252400209515) #[↑0]]) #[.ret "perm"] #[],.ret "temp"]
theorem Mk:LF 61 1 0 Ou:=lf [6063810159] (by kernel_rfl)
noncomputable abbrev En:IE:=.and (.op (.cmp .Gt) #[↑4,⇑0]) (.op (.cmp .Lt) #[.op (.attr 6721636927027383591276) #[↑0%(↑1%(.op (.bin .Sub) #[↑4,⇑1]))],.op (.attr 6721636927027383591276) #[↑3]])
noncomputable abbrev ER:aK:=#[.aug 4 .Sub ⇑1]
noncomputable abbrev ES:aK:=#[.asg 3 (↑0%↑2),.ite ((.op (.attr 6097038948) #[↑3])=="perm") #[.asg 4 (.op (.f1 .len) #[↑1]),.da En ER,.expr (.bm .insert ↑1 #[↑4,↑2])] #[]]
noncomputable abbrev Ow:aK:=#[.asg 1 (.op .lst #[]),.forIn 2 (.op (.f1 .sorted) #[↑0]) ES,.ret ↑1]
theorem Ml:LF 62 1 4 Ow:=lf [1552335400819,1578172179826,363,6063810159,90484] (by kernel_rfl)
noncomputable abbrev Ox:aK:=#[.asg 6 (↑1%↑5),.asg 7 (.call 49 #[↑6]),.ite (.op (.cmp .GtE) #[↑7,⇑0]) #[.expr (.aV ↑3 6130328948 #[↑7,"special",↑5,↑2%↑5,⇑1])] #[],.expr (.aV ↑3 1599429832051 #[.call 48 #[↑6],"goal",↑5,↑2%↑5]),.ite (.and ((↑6%⇑0)=="call") (.op (.cmp .Lt) #[↑5+⇑1,.op (.f1 .len) #[↑1]])) #[.asg 4 (.const (.bool true))] #[]]
noncomputable abbrev EU:aK:=#[.setAttr (↑8%↑9) 6097038948 (.call 61 #[↑8%↑9])]
noncomputable abbrev EV:aK:=#[.asg 11 (↑8%(↑10%↑5)),.setAttr ↑11 6231453556 (↑5+⇑1),.setAttr ↑11 410592219326053 ((.op (.attr 1539367400308) #[↑11])=="goal_arg")]
noncomputable abbrev yf:IE:=.and (.op (.cmp .Lt) #[↑13,.op (.f1 .len) #[↑10]]) (.op (.cmp .Gt) #[.op (.attr 6721636927027383591276) #[↑8%(↑10%↑13)],↑5])
noncomputable abbrev yX:aK:=#[.aug 13 .Add ⇑1]
noncomputable abbrev Oy:aK:=#[.asg 13 ⇑0,.da yf yX,.expr (.bm .append ↑12 #[↑13])]
noncomputable abbrev yV:aK:=#[.asg 1 (.op (.attr 1543761914995) #[↑0]),.asg 2 (.call 57 #[↑1]),.asg 3 (.new 9 #[]),.expr (.aV ↑3 1599429832051 #[.op (.attr 5929854835) #[↑0],"head",.const (.int i1),⇑0]),.asg 4 (.const (.bool false)),.forR 5 (.op (.f1 .len) #[↑1]) Ox,.asg 8 (.op (.attr 1552335400819) #[↑3]),.forIn 9 ↑8 EU,.asg 10 (.call 62 #[↑8]),.forR 5 (.op (.f1 .len) #[↑10]) EV,.asg 12 (.op .lst #[]),.forR 5 (.op (.f1 .len) #[↑1]) Oy,.ret (.new 8 #[↑8,↑2,↑4,.op (.f1 .len) #[↑10],↑12])]
theorem Ds:LF 63 1 13 yV:=lf [399558432417132,1543761914995,390775274630003,408423245440377,6758814687394858888822,90484,6030319980,104550797121511788,1552335400819,363,1578172179826,6063810159,1720886839222231419348338,6113818213] (by kernel_rfl)
noncomputable abbrev yY:aK:=#[.ite (.op (.cmp .Lt) #[↑0%⇑0,⇑1000]) #[.asg 2 (↑0%⇑1),.bw ↑0 ⇑1 (↑2+⇑1),.asg 3 ((↑0%⇑2)%(.op (.bin .Mod) #[↑2,.op (.f1 .len) #[↑0%⇑2]])),.ite (↑3==⇑0) #[.ret ⇑0] #[],.ite (.and (.op (.cmp .Lt) #[↑2,.op (.f1 .len) #[↑0%⇑2]]) (.op (.cmp .GtE) #[↑3,.op (.bin .Pow) #[⇑10,⇑18]])) #[.bw ↑0 ⇑0 (.op (.bin .Mod) #[↑3,.op (.bin .Pow) #[⇑10,⇑60]])] #[.bw ↑0 ⇑0 (.op (.bin .Mod) #[.op (.bin .Mult) #[((.op (.bin .Mod) #[↑3,⇑2305843009213693951])+(.op (.bin .Mult) #[⇑104729,↑2]))+⇑17,⇑6364136223846793005+(.op (.bin .Mult) #[⇑2,↑2])],⇑2305843009213693951])]] #[],.asg 4 (.op (.bin .Mod) #[↑0%⇑0,↑1]),.bw ↑0 ⇑0 (.op (.bin .FloorDiv) #[↑0%⇑0,↑1]),.ret ↑4]
theorem Mm:LF 64 2 3 yY:=lf [6181318508,6130987892,1582366286693,5962558572,1530927347566] (by kernel_rfl)
noncomputable abbrev PL:IE:=.call 65 #[↑2,↑1]
noncomputable abbrev O0:aK:=#[.ite ((↑0%⇑0)=="v") #[.ite (.op (.cmp .NotIn) #[↑0%⇑1,↑1]) #[.bw ↑1 (↑0%⇑1) (.op (.f1 .len) #[↑1])] #[],.ret (.op .tup #["v",↑1%(↑0%⇑1)])] #[],.ite ((↑0%⇑0)=="s") #[.ret (.op .tup #["s",↑0%⇑1,.op (.f1 .tuple) #[.comp PL 2 (↑0%⇑2)]])] #[],.ret ↑0]
theorem xq:LF 65 2 1 O0:=lf [6247772781,1599361674341,6180401780] (by kernel_rfl)
noncomputable abbrev Es:IE:=.call 65 #[↑2,↑1]
noncomputable abbrev O1:aK:=#[.asg 1 (.op .e5 #[]),.ret (.comp Es 2 ↑0)]
theorem Mn:LF 66 1 2 O1:=lf [1599429832051,1599361674341,6247772781] (by kernel_rfl)
noncomputable abbrev O3:aK:=#[.expr (.call 67 #[↑2,↑1])]
noncomputable abbrev O2:aK:=#[.ite ((↑0%⇑0)=="v") #[.ite (.op (.cmp .NotIn) #[↑0%⇑1,↑1]) #[.expr (.bm .append ↑1 #[↑0%⇑1])] #[]] #[.ite ((↑0%⇑0)=="s") #[.forIn 2 (↑0%⇑2) O3] #[]],.ret ↑1]
theorem xr:LF 67 2 1 O2:=lf [6247772781,6230992238,6180401780] (by kernel_rfl)
noncomputable abbrev Eo:IE:=.and ((↑1%⇑0)=="v") (.op (.cmp .In) #[↑1%⇑1,↑0])
noncomputable abbrev EW:aK:=#[.asg 1 (↑0%(↑1%⇑1))]
noncomputable abbrev O4:aK:=#[.da Eo EW,.ret ↑1]
theorem Mp:LF 68 2 0 O4:=lf [1522288389732,6247772781] (by kernel_rfl)
noncomputable abbrev PM:IE:=.call 69 #[↑0,↑2]
noncomputable abbrev O5:aK:=#[.asg 1 (.call 68 #[↑0,↑1]),.ite ((↑1%⇑0)=="s") #[.ret (.op .tup #["s",↑1%⇑1,.op (.f1 .tuple) #[.comp PM 2 (↑1%⇑2)]])] #[],.ret ↑1]
theorem Dt:LF 69 2 1 O5:=lf [1522288389732,6247772781,6180401780] (by kernel_rfl)
noncomputable abbrev Ep:IE:=.op .fh #[↑3]
noncomputable abbrev EX:aK:=#[.asg 4 (.call 68 #[↑0,.bm .pop ↑3 #[]]),.ite (↑4==(.op .tup #["v",↑1])) #[.ret (.const (.bool true))] #[],.ite ((↑4%⇑0)=="s") #[.aug 3 .Add (.op (.f1 .list) #[↑4%⇑2])] #[]]
noncomputable abbrev O6:aK:=#[.asg 3 (.op .lst #[↑2]),.da Ep EX,.ret (.const (.bool false))]
theorem Mr:LF 70 3 2 O6:=lf [1522288389732,402925602104690,6247772781,6248424559,6180401780] (by kernel_rfl)
noncomputable abbrev PN:IE:=.op .tup #[(↑1%⇑2)%↑4,(↑2%⇑2)%↑4]
noncomputable abbrev rZ:IE:=.op .fh #[↑3]
noncomputable abbrev pU:aK:=#[.fR [1,2] (.bm .pop ↑3 #[]),.asg 1 (.call 68 #[↑0,↑1]),.asg 2 (.call 68 #[↑0,↑2]),.ite (.and ((↑2%⇑0)=="v") (.op (.cmp .NotEq) #[↑1%⇑0,"v"])) #[.fR [1,2] (.op .tup #[↑2,↑1])] #[],.ite ((↑1%⇑0)=="v") #[.ite (↑1==↑2) #[.cont] #[],.ite (.call 70 #[↑0,↑1%⇑1,↑2]) #[.ret (.const (.bool false))] #[],.bw ↑0 (↑1%⇑1) ↑2] #[.ite (.and ((↑1%⇑0)=="s") (.and ((↑2%⇑0)=="s") ((↑1%⇑1)==(↑2%⇑1)))) #[.aug 3 .Add (.f7 PN 4 (.op (.f1 .len) #[↑1%⇑2]))] #[.ite (.or ((↑1%⇑0)=="s") (.or ((↑2%⇑0)=="s") (.op (.cmp .NotEq) #[↑1,↑2]))) #[.ret (.const (.bool false))] #[]]]]
noncomputable abbrev O7:aK:=#[.asg 3 (.op .lst #[.op .tup #[↑1,↑2]]),.da rZ pU,.ret (.const (.bool true))]
theorem Ms:LF 71 3 2 O7:=lf [1522288389732,24079973,24409967,6248424559,1582366286693] (by kernel_rfl)
noncomputable abbrev PO:IE:=.call 69 #[↑0,↑6]
noncomputable abbrev O9:aK:=#[.expr (.call 67 #[↑9,↑8])]
noncomputable abbrev O8:aK:=#[.asg 7 (.comp PO 6 ↑3),.asg 8 (.op .lst #[]),.forIn 9 ↑7 O9,.expr (.bm .append ↑4 #[.op .tup #[↑1,↑2,.call 66 #[↑7]]]),.asg 10 (↑5%(.op (.bin .Mod) #[.op (.f1 .len) #[↑4],.op (.f1 .len) #[↑5]])),.ite (.and (.op .fh #[↑8]) (.op (.cmp .Gt) #[↑10,⇑0])) #[.bw ↑0 (↑8%(.op (.bin .Mod) #[↑10,.op (.f1 .len) #[↑8]])) (.op .tup #["i",⇑700+(.op (.f1 .len) #[↑4])])] #[]]
theorem Mv:LF 72 6 5 O8:=lf [1522288389732,6097038948,402925602104690,1582182855795,393034158994547,1582316088179,6180401780,1612364868709,1573592589683,6247772781,6180922219] (by kernel_rfl)
noncomputable abbrev EY:aK:=#[.ite (.not (.call 71 #[↑0,(.op (.attr 5929854835) #[↑1])%↑6,↑2%↑6])) #[.ret (.op .tup #[↑4,↑5,"failed"])] #[]]
noncomputable abbrev EZ:aK:=#[.ite (.or ((↑7%⇑0)=="call") ((↑7%⇑0)=="builtin")) #[.aug 5 .Add (.op (.f1 .list) #[↑7%⇑2]),.expr (.call 72 #[↑0,↑7%⇑0,↑7%⇑1,↑7%⇑2,↑4,↑3])] #[.ite ((↑7%⇑0)=="unify") #[.ite (.not (.call 71 #[↑0,↑7%⇑1,↑7%⇑2])) #[.ret (.op .tup #[↑4,↑5,"failed"])] #[]] #[.ite ((↑7%⇑0)=="level") #[.bw ↑0 (↑7%⇑1) (.op .tup #["i",.const (.int i4)])] #[.ite ((↑7%⇑0)=="mark") #[.bw ↑0 (↑7%⇑1) (.op .tup #["i",⇑5000+(.op (.f1 .len) #[↑4])])] #[.ite ((↑7%⇑0)=="cutto") #[.expr (.bm .append ↑4 #[.op .tup #["cutto",.call 66 #[.op .lst #[.call 69 #[↑0,.op .tup #["v",↑7%⇑1]]]]]])] #[.ite ((↑7%⇑0)=="fail") #[.ret (.op .tup #[↑4,↑5,"failed"])] #[.expr (.bm .append ↑4 #[.op .tup #[↑7%⇑0]])]]]]]]]
noncomputable abbrev PA:aK:=#[.asg 4 (.op .lst #[]),.asg 5 (.op (.f1 .list) #[↑2]),.forR 6 (.op (.f1 .len) #[↑2]) EY,.forIn 7 (.op (.attr 1543761914995) #[↑1]) EZ,.ret (.op .tup #[↑4,↑5,"done"])]
theorem Mw:LF 73 4 4 PA:=lf [1522288389732,399558432417132,5962296428,1582316088179,393034158994547,6096777332,1582366286693,6030319980] (by kernel_rfl)
noncomputable abbrev PB:aK:=#[.ite (.op (.eE [[103,101,116,95,118,97,114,105,97,98,108,101],[103,101,116,95,99,111,110,115,116,97,110,116],[103,101,116,95,115,116,114,117,99,116,117,114,101]]) #[↑0%⇑0]) #[.ret (.op .lst #[↑0%⇑2])] #[],.ite ((↑0%⇑0)=="get_value") #[.ret (.op .lst #[↑0%⇑1,↑0%⇑2])] #[],.ite (.op (.eE [[103,101,116,95,108,105,115,116],[117,110,105,102,121,95,118,97,108,117,101],[117,110,105,102,121,95,108,111,99,97,108,95,118,97,108,117,101],[115,101,116,95,118,97,108,117,101],[115,101,116,95,108,111,99,97,108,95,118,97,108,117,101],[112,117,116,95,118,97,108,117,101],[112,117,116,95,117,110,115,97,102,101,95,118,97,108,117,101],[99,117,116,95,116,111]]) #[↑0%⇑0]) #[.ret (.op .lst #[↑0%⇑1])] #[],.ret (.op .lst #[])]
theorem Mz:LF 74 1 0 PB:=lf [23686771] (by kernel_rfl)
noncomputable abbrev PC:aK:=#[.ret (.op .tup #[.ite ((↑0%⇑0)==⇑4) "a" "i",↑0%⇑1])]
theorem M0:LF 75 1 0 PC:=lf [5962558572] (by kernel_rfl)
noncomputable abbrev Eb:aK:=#[.bw ↑7 (.op .tup #["a",↑8+⇑1]) (↑3%↑8)]
noncomputable abbrev Ec:aK:=#[.ite ((↑11%⇑0)=="s") #[.expr (.call 67 #[↑11,↑10])] #[]]
noncomputable abbrev Ed:aK:=#[.ite (.and ((↑11%⇑0)=="v") (.op (.cmp .NotIn) #[↑11%⇑1,↑10])) #[.bw ↑9 (↑11%⇑1) (.const (.int i2))] #[]]
noncomputable abbrev Ee:aK:=#[.ite (.op (.cmp .NotIn) #[↑20,↑7]) #[.ret (.op .tup #[↑5,↑6,"unset"])] #[]]
noncomputable abbrev Ef:aK:=#[.aug 13 .Add ⇑1,.expr (.bm .append ↑12 #[.op .tup #["v",↑13]])]
noncomputable abbrev yZ:aK:=#[.ite (.op (.cmp .NotIn) #[.op .tup #["a",↑8+⇑1],↑7]) #[.ret (.op .tup #[↑5,↑6,"unset"])] #[],.expr (.bm .append ↑28 #[↑7%(.op .tup #["a",↑8+⇑1])])]
noncomputable abbrev ya:aK:=#[.ite (.or (.and (↑17=="builtin") ((↑30%⇑0)=="t")) (.and ((↑30%⇑0)=="y") (.op (.cmp .LtE) #[↑30%⇑1,↑14]))) #[.bw ↑29 ↑30 (↑7%↑30)] #[]]
noncomputable abbrev yg:IE:=↑29%↑30
noncomputable abbrev Eg:aK:=#[.asg 27 (.call 68 #[↑2,↑11]),.ite (.and ((↑27%⇑0)=="v") (.and (.op (.cmp .In) #[↑27%⇑1,↑9]) (.op (.cmp .Gt) #[↑9%(↑27%⇑1),↑14]))) #[.ret (.op .tup #[↑5,↑6,"loose"])] #[]]
noncomputable abbrev ue:aK:=#[.asg 16 (↑1%↑15),.asg 17 (↑16%⇑0),.asg 18 (↑16%(.op (.bin .Sub) #[.op (.f1 .len) #[↑16],⇑1])),.asg 19 (.const (.bool true)),.forIn 20 (.call 74 #[↑16]) Ee,.ite (.op (.cmp .NotEq) #[.or ((.op .i6 #[↑17,⇑6])=="unify_") ((.op .i6 #[↑17,⇑4])=="set_"),.op .fh #[↑12]]) #[.ret (.op .tup #[↑5,↑6,"torn"])] #[],.ite (↑17=="get_variable") #[.bw ↑7 (↑16%⇑1) (↑7%(↑16%⇑2))] #[.ite (↑17=="get_value") #[.asg 21 (.call 68 #[↑2,↑7%(↑16%⇑1)]),.asg 22 (.call 68 #[↑2,↑7%(↑16%⇑2)]),.asg 23 (.ite ((↑21%⇑0)=="v") (.bm .eP ↑9 #[↑21%⇑1,.const (.int i3)]) (.const (.int i3))),.ite (.and ((↑22%⇑0)=="v") (.op (.cmp .Gt) #[.bm .eP ↑9 #[↑22%⇑1,.const (.int i3)],↑23])) #[.swap 21 22 ↑22 ↑21] #[],.asg 19 (.call 71 #[↑2,↑21,↑22])] #[.ite (↑17=="get_constant") #[.asg 19 (.call 71 #[↑2,↑7%(↑16%⇑2),.call 75 #[↑16%⇑1]])] #[.ite (.op (.eE [[103,101,116,95,108,105,115,116],[103,101,116,95,115,116,114,117,99,116,117,114,101],[112,117,116,95,108,105,115,116],[112,117,116,95,115,116,114,117,99,116,117,114,101]]) #[↑17]) #[.asg 24 (.ite ((.op .gj #[↑17,⇑4])=="structure") (↑16%⇑1) ⇑0),.forR 8 (.aV ↑0 1518042969209 #[↑24]) Ef,.asg 25 (.op .tup #["s",↑24,.op (.f1 .tuple) #[↑12]]),.ite ((.op .i6 #[↑17,⇑4])=="put_") #[.bw ↑7 ↑18 ↑25] #[.asg 26 (.call 68 #[↑2,↑7%↑18]),.ite ((↑26%⇑0)=="v") #[.bw ↑2 (↑26%⇑1) ↑25] #[.ite (.and ((↑26%⇑0)=="s") ((↑26%⇑1)==↑24)) #[.asg 12 (.op (.f1 .list) #[↑26%⇑2])] #[.asg 19 (.const (.bool false))]]]] #[.ite (.op (.eE [[117,110,105,102,121,95,118,97,114,105,97,98,108,101],[115,101,116,95,118,97,114,105,97,98,108,101]]) #[↑17]) #[.bw ↑7 (↑16%⇑1) (↑12%⇑0),.asg 12 (.op .gj #[↑12,⇑1])] #[.ite (.op (.eE [[117,110,105,102,121,95,99,111,110,115,116,97,110,116],[115,101,116,95,99,111,110,115,116,97,110,116]]) #[↑17]) #[.asg 19 (.call 71 #[↑2,↑12%⇑0,.call 75 #[↑16%⇑1]]),.asg 12 (.op .gj #[↑12,⇑1])] #[.ite (.op (.eE [[117,110,105,102,121,95,118,111,105,100],[115,101,116,95,118,111,105,100]]) #[↑17]) #[.ite (.op (.cmp .Lt) #[.op (.f1 .len) #[↑12],↑16%⇑1]) #[.ret (.op .tup #[↑5,↑6,"torn"])] #[],.asg 12 (.op .gj #[↑12,↑16%⇑1])] #[.ite (.op (.eE [[117,110,105,102,121,95,118,97,108,117,101],[117,110,105,102,121,95,108,111,99,97,108,95,118,97,108,117,101],[115,101,116,95,118,97,108,117,101],[115,101,116,95,108,111,99,97,108,95,118,97,108,117,101]]) #[↑17]) #[.asg 27 (.call 68 #[↑2,↑7%(↑16%⇑1)]),.ite (.and ((↑27%⇑0)=="v") (.op (.cmp .In) #[↑27%⇑1,↑9])) #[.ite (.op (.eE [[117,110,105,102,121,95,118,97,108,117,101],[115,101,116,95,118,97,108,117,101]]) #[↑17]) #[.ret (.op .tup #[↑5,↑6,"loose"])] #[],.expr (.bm .fV ↑9 #[↑27%⇑1])] #[],.asg 19 (.call 71 #[↑2,↑12%⇑0,↑27]),.asg 12 (.op .gj #[↑12,⇑1])] #[.ite (.or (↑17=="put_variable") (↑17=="put_void")) #[.aug 13 .Add ⇑1,.bw ↑7 (↑16%⇑1) (.op .tup #["v",↑13]),.bw ↑7 ↑18 (.op .tup #["v",↑13]),.ite (((↑16%⇑1)%⇑0)=="y") #[.bw ↑9 ↑13 ((↑16%⇑1)%⇑1)] #[]] #[.ite (↑17=="put_value") #[.bw ↑7 (↑16%⇑2) (↑7%(↑16%⇑1))] #[.ite (↑17=="put_unsafe_value") #[.asg 27 (.call 68 #[↑2,↑7%(↑16%⇑1)]),.ite (.and ((↑27%⇑0)=="v") (.op (.cmp .In) #[↑27%⇑1,↑9])) #[.expr (.bm .fV ↑9 #[↑27%⇑1])] #[],.bw ↑7 (↑16%⇑2) ↑27] #[.ite (↑17=="put_constant") #[.bw ↑7 (↑16%⇑2) (.call 75 #[↑16%⇑1])] #[.ite (↑17=="get_level") #[.bw ↑7 (↑16%⇑1) (.op .tup #["i",.const (.int i4)])] #[.ite (↑17=="mark") #[.bw ↑7 (↑16%⇑1) (.op .tup #["i",⇑5000+(.op (.f1 .len) #[↑5])])] #[.ite (↑17=="cut_to") #[.expr (.bm .append ↑5 #[.op .tup #["cutto",.call 66 #[.op .lst #[.call 69 #[↑2,↑7%(↑16%⇑1)]]]]])] #[.ite (↑17=="neck_cut") #[.expr (.bm .append ↑5 #[.op .tup #["cut"]])] #[.ite (↑17=="fail") #[.asg 19 (.const (.bool false))] #[.ite (↑17=="allocate") #[.ite (.or (.op (.cmp .GtE) #[↑14,⇑0]) (.op (.cmp .Gt) #[↑15,⇑0])) #[.ret (.op .tup #[↑5,↑6,"torn"])] #[],.asg 14 (↑16%⇑1)] #[.ite (↑17=="deallocate") #[.asg 14 (.const (.int i1))] #[.ite (.op (.eE [[99,97,108,108],[101,120,101,99,117,116,101],[98,117,105,108,116,105,110]]) #[↑17]) #[.asg 28 (.op .lst #[]),.forR 8 (.aV ↑0 1518042969209 #[↑16%⇑1]) yZ,.ite (↑17=="call") #[.ite (.op (.cmp .Gt) #[↑16%⇑2,↑14]) #[.ret (.op .tup #[↑5,↑6,"torn"])] #[],.asg 14 (↑16%⇑2)] #[],.asg 29 (.op .e5 #[]),.forIn 30 ↑7 ya,.ite (.op (.cmp .NotEq) #[↑17,"builtin"]) #[.forIn 11 (↑28+(.comp yg 30 ↑29)) Eg] #[],.asg 7 ↑29,.aug 6 .Add ↑28,.expr (.call 72 #[↑2,.ite (↑17=="builtin") "builtin" "call",↑16%⇑1,↑28,↑5,↑4]),.ite (↑17=="execute") #[.ret (.op .tup #[↑5,↑6,.ite (.and (↑15==(.op (.bin .Sub) #[.op (.f1 .len) #[↑1],⇑1])) (↑14==(.const (.int i1)))) "done" "torn"])] #[]] #[.ite (↑17=="proceed") #[.ret (.op .tup #[↑5,↑6,.ite (.and (↑15==(.op (.bin .Sub) #[.op (.f1 .len) #[↑1],⇑1])) (↑14==(.const (.int i1)))) "done" "torn"])] #[.ret (.op .tup #[↑5,↑6,"unknown"])]]]]]]]]]]]]]]]]]]]]],.ite (.not ↑19) #[.ret (.op .tup #[↑5,↑6,"failed"])] #[]]
noncomputable abbrev Ea:aK:=#[.asg 5 (.op .lst #[]),.asg 6 (.op (.f1 .list) #[↑3]),.asg 7 (.op .e5 #[]),.forR 8 (.op (.f1 .len) #[↑3]) Eb,.asg 9 (.op .e5 #[]),.asg 10 (.op .lst #[]),.forIn 11 ↑3 Ec,.forIn 11 ↑3 Ed,.asg 12 (.op .lst #[]),.asg 13 ⇑100000,.asg 14 (.const (.int i1)),.forR 15 (.op (.f1 .len) #[↑1]) ue,.ret (.op .tup #[↑5,↑6,"open"])]
theorem M1:LF 76 5 26 Ea:=lf [1595201252979,5963211877,1522288389732,5962296428,1582316088179,393034158994547,6096777332,6047100004,1582366286693,1565237670757,1552335922546,6247772781,6214218612,1595318301285,400675190697575,90484,23686771,6146846053,6113293172,23946612,6147106148,24079973,24409967,1578071516530,402925602104690,6130066533,1539468258916,1607952266597,1582182855795,6113551988,6231715700] (by kernel_rfl)
noncomputable abbrev PQ:IE:=.call 69 #[↑4,↑12]
noncomputable abbrev PT:IE:=.call 69 #[↑8,↑12]
noncomputable abbrev PD:aK:=#[.asg 4 (.op .e5 #[]),.fR [5,6,7] (.call 73 #[↑4,↑1,↑2,↑3]),.asg 8 (.op .e5 #[]),.fR [9,10,11] (.call 76 #[↑0,.call 46 #[↑0,↑1,.call 63 #[↑1]],↑8,↑2,↑3]),.ite (.or (.op (.cmp .NotEq) #[↑9,↑5]) (.op (.cmp .NotEq) #[↑11,↑7])) #[.ret (.const (.bool false))] #[],.ite (↑7=="failed") #[.ret (.const (.bool true))] #[],.ret ((.call 66 #[.comp PQ 12 ↑6])==(.call 66 #[.comp PT 12 ↑10]))]
theorem M3:LF 77 4 9 PD:=lf [1595201252979,399558432417132,5962296428,1582316088179,1522288389732,393034158994547,6096777332,6298759780,6046444644,1539468258916,6230992238,6230731108,6247772781] (by kernel_rfl)
noncomputable abbrev Eh:aK:=#[.ite (.op (.eE [[99,97,108,108],[98,117,105,108,116,105,110]]) #[↑3%⇑0]) #[.aug 2 .Add (.op (.f1 .list) #[↑3%⇑2])] #[.ite ((↑3%⇑0)=="unify") #[.aug 2 .Add (.op (.f1 .list) #[.op .gj #[↑3,⇑1]])] #[.ite ((.op (.f1 .len) #[↑3])==⇑2) #[.expr (.bm .append ↑2 #[.op .tup #["v",↑3%⇑1]])] #[]]]]
noncomputable abbrev Et:IE:=.call 65 #[↑5,↑4]
noncomputable abbrev Ei:aK:=#[.ite (.op (.eE [[99,97,108,108],[98,117,105,108,116,105,110]]) #[↑3%⇑0]) #[.expr (.bm .append ↑6 #[.op .tup #[↑3%⇑0,↑3%⇑1,.op (.f1 .tuple) #[.op .cut #[↑2,↑7,↑7+(.op (.f1 .len) #[↑3%⇑2])]]]]),.aug 7 .Add (.op (.f1 .len) #[↑3%⇑2])] #[.ite ((↑3%⇑0)=="unify") #[.expr (.bm .append ↑6 #[.op .tup #["unify",↑2%↑7,↑2%(↑7+⇑1)]]),.aug 7 .Add ⇑2] #[.ite ((.op (.f1 .len) #[↑3])==⇑2) #[.expr (.bm .append ↑6 #[.op .tup #[↑3%⇑0,(↑2%↑7)%⇑1]]),.aug 7 .Add ⇑1] #[.expr (.bm .append ↑6 #[↑3])]]]]
noncomputable abbrev PE:aK:=#[.asg 2 (.op (.f1 .list) #[↑0%⇑1]),.forIn 3 ↑1 Eh,.asg 4 (.op .e5 #[]),.asg 2 (.comp Et 5 ↑2),.asg 6 (.op .lst #[]),.asg 7 (.op (.f1 .len) #[↑0%⇑1]),.forIn 3 ↑1 Ei,.ret (.new 6 #[↑0%⇑0,.op (.f1 .tuple) #[.op .i6 #[↑2,.op (.f1 .len) #[↑0%⇑1]]],↑6,.op (.f1 .len) #[↑4]])]
theorem M5:LF 78 2 6 PE:=lf [6046441828,1543761914995,1582182855795,6030319980,1599361674341,6180401780,5979991653,90484] (by kernel_rfl)
noncomputable abbrev yc:aK:=#[.asg 4 (.call 64 #[↑0,⇑8]),.ite (.op (.cmp .Lt) #[↑4,⇑3]) #[.ret (.op .tup #["v",↑3%(.call 64 #[↑0,.op (.f1 .len) #[↑3]])])] #[],.ite (↑4==⇑3) #[.ret (.op .tup #["a",(.op .lst #[⇑0,↑1%⇑0])%(.call 64 #[↑0,⇑2])])] #[],.ite (.or (↑4==⇑4) (↑2==⇑0)) #[.ret (.op .tup #["i",(.op .lst #[⇑0,⇑1,.const (.int i1),.op (.bin .Pow) #[⇑10,⇑30]])%(.call 64 #[↑0,⇑4])])] #[],.asg 5 (.call 79 #[↑0,↑1,.op (.bin .Sub) #[↑2,⇑1],↑3]),.ite (↑4==⇑5) #[.ret (.op .tup #["s",↑1%⇑1,.op .tup #[↑5]])] #[],.ret (.op .tup #["s",.ite (↑4==⇑6) ⇑0 (↑1%⇑2),.op .tup #[↑5,.call 79 #[↑0,↑1,.op (.bin .Sub) #[↑2,⇑1],↑3]]])]
theorem Du:LF 79 4 2 yc:=lf [6181318508,1612482505828,1530710226024,1573592589683,6097038948,1539367400308] (by kernel_rfl)
noncomputable abbrev PU:IE:=.call 80 #[↑0,↑1,↑3]
noncomputable abbrev Ej:aK:=#[.ite (.or ((↑2%⇑0)=="v") ((.call 64 #[↑0,⇑8])==⇑0)) #[.ret (.call 79 #[↑0,↑1,⇑1,.op .lst #[⇑500,⇑501,⇑502]])] #[],.ite ((↑2%⇑0)=="s") #[.ret (.op .tup #["s",↑2%⇑1,.op (.f1 .tuple) #[.comp PU 3 (↑2%⇑2)]])] #[],.ret ↑2]
theorem Dv:LF 80 3 1 Ej:=lf [6181318508,1612482505828,6247772781,6180401780] (by kernel_rfl)
noncomputable abbrev Eu:IE:=.call 79 #[↑1,↑3,⇑2,.op .lst #[⇑0,⇑1,⇑2,⇑3,⇑4]]
noncomputable abbrev Ek:aK:=#[.expr (.call 67 #[↑8,↑7])]
noncomputable abbrev yd:aK:=#[.asg 13 (.call 64 #[↑1,⇑6]),.ite (.op (.cmp .Lt) #[↑13,⇑4]) #[.expr (.bm .append ↑11 #[.op .tup #["v",↑12]])] #[],.ite (.or (↑13==⇑3) (↑13==⇑4)) #[.expr (.bm .append ↑11 #[.op .tup #["s",↑3%⇑1,.op .tup #[.op .tup #["v",↑12]]]])] #[]]
noncomputable abbrev ye:aK:=#[.asg 11 (.op .lst #[]),.forIn 12 ↑7 yd,.expr (.bm .append ↑9 #[.op .tup #["call",.aV ↑2 6013939299 #["k",.op (.f1 .len) #[↑11]],.op (.f1 .tuple) #[↑11]]])]
noncomputable abbrev El:aK:=#[.asg 13 (.call 64 #[↑1,⇑4]),.ite (↑13==⇑0) #[.expr (.bm .append ↑14 #[.op .tup #["v",⇑500+(.call 64 #[↑1,⇑3])]])] #[.ite (↑13==⇑1) #[.expr (.bm .append ↑14 #[.call 79 #[↑1,↑3,⇑2,.op .lst #[⇑500,⇑501,⇑502]]])] #[.expr (.bm .append ↑14 #[.call 80 #[↑1,↑3,↑8]])]]]
noncomputable abbrev PV:IE:=.call 64 #[↑1,⇑4]
noncomputable abbrev rY:aK:=#[.asg 1 (.op .lst #[⇑0,⇑0,.op .i6 #[↑0+(.op .lst #[⇑0]),⇑40]]),.asg 2 (.new 0 #[]),.asg 3 (.op .lst #[.aV ↑2 5929987949 #["a"],.aV ↑2 6013939299 #["f",⇑1],.aV ↑2 6013939299 #["f",⇑2]]),.asg 4 (⇑1+(.call 64 #[↑1,⇑3])),.asg 6 (.op .tup #[.aV ↑2 6013939299 #["h",↑4],.op (.f1 .tuple) #[.f7 Eu 5 ↑4]]),.asg 7 (.op .lst #[]),.forIn 8 (↑6%⇑1) Ek,.asg 9 (.op .lst #[]),.forR 10 (⇑1+(.call 64 #[↑1,⇑2])) ye,.asg 14 (.op .lst #[]),.forIn 8 (↑6%⇑1) El,.asg 15 (.f7 PV 10 ⇑3),.ret (.call 77 #[↑2,.call 78 #[↑6,↑9],↑14,↑15])]
theorem M6:LF 81 1 15 rY:=lf [408345935179892,6181318508,1595201252979,1612482505828,1526583357044,1582366286693,6046441828,1573592589683,6247772781,1543761914995,6231975280,1518059873636,402925602104690,6097038948,5962296428,1582316088179] (by kernel_rfl)
end
set_option genSizeOf false
set_option genInjectivity false
theorem lz{a b:Nat}(h:Nat.ble a b=true):a≤b:=Bb h
noncomputable def aC:U.Tm→V
 | .v n=>.tup [.str [118],.int n]
 | .c k z=>.tup [.str (if k=true then[97] else[105]),.int z]
 | .s1 f x=>.tup [.str [115],.int f,.tup [aC x]]
 | .s2 f x y=>.tup [.str [115],.int f,.tup [aC x,aC y]]
noncomputable def vZ:U.Tm→List Nat
 | .v _=>[118]
 | .c k _=>if k=true then[97] else[105]
 |_=>[115]
noncomputable def bX(ns:List Nat):List Int:=ns.map fun(n:Nat)=>(n:Int)
noncomputable def cK(p:U.Place):V:=.tup [.str [p.1],.int p.2]
noncomputable def encC(k:Bool)(z:Int):V:=.tup [.int (if k=true then 4 else 5),.int z]
noncomputable def nz:U.ak→List Nat
 | .getVar _ _=>[103,101,116,95,118,97,114,105,97,98,108,101]
 | .il _ _=>[103,101,116,95,118,97,108,117,101]
 | .jR _ _ _=>[103,101,116,95,99,111,110,115,116,97,110,116]
 | .pP _=>[103,101,116,95,108,105,115,116]
 | .pQ _ _=>[103,101,116,95,115,116,114,117,99,116,117,114,101]
 | .gQ _=>[117,110,105,102,121,95,118,97,114,105,97,98,108,101]
 | .kN _=>[117,110,105,102,121,95,108,111,99,97,108,95,118,97,108,117,101]
 | .kO _=>[117,110,105,102,121,95,118,97,108,117,101]
 | .i5 _ _=>[117,110,105,102,121,95,99,111,110,115,116,97,110,116]
 | .iO _=>[117,110,105,102,121,95,118,111,105,100]
 | .putStr _ _=>[112,117,116,95,115,116,114,117,99,116,117,114,101]
 | .ja _=>[115,101,116,95,108,111,99,97,108,95,118,97,108,117,101]
 | .kE _=>[115,101,116,95,118,97,108,117,101]
 | .iK _ _=>[112,117,116,95,118,97,108,117,101]
 | .alloc _=>[97,108,108,111,99,97,116,101]
 | .hV=>[100,101,97,108,108,111,99,97,116,101]
 | .call _ _=>[99,97,108,108]
 | .exec _=>[101,120,101,99,117,116,101]
noncomputable def rE:U.ak→List V
 | .getVar p q=>[cK p,cK q]
 | .il p q=>[cK p,cK q]
 | .jR k z q=>[encC k z,cK q]
 | .pP q=>[cK q]
 | .pQ f q=>[.int f,cK q]
 | .gQ p=>[cK p]
 | .kN p=>[cK p]
 | .kO p=>[cK p]
 | .i5 k z=>[encC k z]
 | .iO n=>[.int n]
 | .putStr f q=>[.int f,cK q]
 | .ja p=>[cK p]
 | .kE p=>[cK p]
 | .iK p q=>[cK p,cK q]
 | .alloc n=>[.int n]
 | .hV=>[]
 | .call f n=>[.int f,.int n]
 | .exec f=>[.int f]
noncomputable def hY(i:U.ak):V:=.tup (.str (nz i)::rE i)
section
variable{W:Wd}{n:Nat}{H:AH}{t:U.Tm}{Q:V→AH→Prop}{u:V}
theorem cZ:d5 (vZ t) [118]=t.bN:=by
 cases t with
 |c k z=>cases k<;>rfl
 |_=>rfl
theorem eF:d5 (vZ t) [115]=U.bQ t:=by
 cases t with
 |c k z=>cases k<;>rfl
 |_=>rfl
theorem AY(h:U.bQ t=true):d5 (vZ t) [118]=false:=by cases t<;>first|exact(ax h).elim|exact rfl
theorem dZ(q:Q (.str (vZ t)) H):gc W (aC t) (.int 0) H Q:=by cases t<;>exact q
theorem vY(h:U.bQ t=true)(q:Q (.int (U.fnOf t:Nat)) H):gc W (aC t) (.int 1) H Q:=by cases t<;>first|exact(ax h).elim|exact q
theorem AX(h:U.bQ t=true)(q:Q (.tup ((U.bT t).map aC)) H):gc W (aC t) (.int 2) H Q:=by cases t<;>first|exact(ax h).elim|exact q
theorem iG{c a:Nat}{fl:List (Nat×V)}{i:Nat}{v:V}(hc:aB H i=some (.inst c fl))(h:fU c a=false)(g:eN fl a=some v)(q:Q v H):tD W a (.obj i) H Q:=by
 have e:atC H a (.obj i)=some v:=by
  show ob (aB H i) none _=_;rw[hc];show Bool.rec (motive:=fun _=>Option V) (eN fl a) none (fU c a)=_;rw[h];exact g
 unfold tD;rw[e];exact q
theorem iL{i:Nat}{l:List V}(hc:aB H i=some (.lst l)):at_ false H (.obj i) (fun _ c=>kB .append c)=true:=by
 show ob (aB H i) false _=true;rw[hc];rfl
theorem iF{i:Nat}{l:List V}{v:V}(hc:aB H i=some (.lst l))(z:l.length<aJ)(q:Q .none (aq H (.lst (l++[v])) i)):iW W .append (.obj i) Q [v] H:=by
 show ob (aB H i) _ _;rw[hc];exact⟨z,q⟩
theorem uJ{l:List Nat}{k:Nat}:(bX l).contains (k:Int)=decide (k∈l):=by
 induction l with
 |nil=>rfl
 |cons x l ih=>
  show List.contains ((x:Int)::bX l) (k:Int)=_;rw[BD,ih,show((k:Int) == (x:Int))=decide (k=x) from mi.mpr (by rw[dm,xN];exact Int.ofNat_inj),←Bool.decide_or]
  exact l5.mpr a8.symm
theorem xU{l:List Nat}{k:Nat}:te (bX l) (k:Int)=bX (U.add l k):=by
 unfold te U.add;rw[uJ];by_cases h:k∈l
 ·rw[a9 h,aG rfl,aG h]
 ·rw[a7 h,aD ax,aD h];unfold bX;rw[bt];rfl
theorem nR{k:Nat}:decide ((0:Int)<(k:Int))=decide (k≠0):=l5.mpr ⟨fun h e=>by subst e;exact Int.lt_irrefl _ h,fun h=>fu.mpr (tZ h)⟩
theorem mJ{a l:Nat}:decide ((a:Int)<(l:Int))=decide (a<l):=l5.mpr fu
end
section
variable{Q:K2}
theorem eO{α:Type}{enc:α→V}{x:Nat}{b:BT}{t:α}{ts:List α}{F:Fa}{H:AH}(h:∀K:BT,(∀{F H},cf x b (ts.map enc) F H Q→K F H Q)→b (dT F x (enc t)) H (f9 K Q)):cf x b ((t::ts).map enc) F H Q:=h _ id
theorem lQ{c:ET}{b:BT}{k:Nat}{F:Fa}{H:AH}(h:∀K:BT,(∀{F H},gH c b k F H Q→K F H Q)→c F H (ug b K F Q)):gH c b (k+1) F H Q:=h _ id
end
section
variable{α:Type}{l:List α}{x:α}{i j:Nat}
theorem iJ{y:α}(h:aB l i=some x):aB (app l [y]) i=some x:=by rw[aj] at h ⊢;rw[cJ,oX (dE.mp h).1];exact h
theorem cW:aB (app l [x]) (aH l)=some x:=by rw[aj,cJ,cT,mw (ai _),oo];rfl
theorem iz{y:α}:aq (app l [x]) y (aH l)=app l [y]:=by rw[c7,cJ,cJ,cT,BU (h:=ai _),oo];rfl
theorem dD{y:α}(h:aB l i=some x):aB (aq l y i) i=some y:=by rw[aj] at h ⊢;rw[c7,tS,aG rfl,aG (dE.mp h).1]
theorem gO{y:α}(h:aB l j=some x)(n:i≠j):aB (aq l y i) j=some x:=by rw[aj] at h ⊢;rw[c7,tS,aD n];exact h
end
structure Cx where
 pl:U.Pl
 ks:List Nat
 kvs:List (Atom×V)
 st:Nat
 ne:Bool
 es:Nat
 live:List V
 fn:V
 args:List V
 cnt:V
 goals:List V
 rN:List V
 R:List U.ak
noncomputable def kindS(pl:U.Pl)(k:Nat):List Nat:=if pl.void k=true then[118,111,105,100] else if pl.perm k=true then[112,101,114,109] else[116,101,109,112]
structure Inf(X:Cx)(G:AH)(k i:Nat)(fl:List (Nat×V)):Prop where
 key:aR X.kvs (.int (k:Int))=some (.obj (i+10))
 at_:aB G i=some (.inst 7 fl)
 kind:eN fl 6097038948=some (.str (kindS X.pl k))
 slot:X.pl.perm k=true→eN fl 6231453556=some (.int (X.pl.slot k:Nat))
 Ai:eN fl 410592219326053=some (.bool false)
structure Cx.Ok(X:Cx)(G:AH):Prop where
 inf:∀k∈X.ks,∃i fl,Inf X G k i fl
 ex:∀k∈X.ks,X.pl.void k=true→X.pl.perm k=false
 kl:X.ks.length<4000
 zR:X.R.length≤aJ
@[reducible] noncomputable def hM(X:Cx)(G:AH)(code:List U.ak)(c:U.Cs):AH:=.inst 5 [(399558432417132,.obj 7),(6181118318,.obj 4),(5963211877,.obj 1),(6230992238,.obj 2),(1565236879724,.obj 3),(7431401238237797656773434007450233,.int (c.nt:Nat))]::.lst (code.map hY)::.set (bX c.seen)::.set (bX c.loc)::
 .inst 8 [(1552335400819,.obj 5),(390775274630003,.obj 9),(6758814687394858888822,.bool X.ne),(25755653471308708453,.int X.es),(1720886839222231419348338,.obj 6)]::.dict X.kvs X.st::.lst X.live::.inst 6 [(100897158637842290,X.fn),(5929854835,.tup X.args),(1543761914995,.obj 8),(1526583357044,X.cnt)]::.lst X.goals::.lst X.rN::G
structure Ck(X:Cx)(c:U.Cs):Prop where
 sn:c.seen.Nodup
 sk:∀x∈c.seen,x∈X.ks
 ln:c.loc.Nodup
 lk:∀x∈c.loc,x∈X.ks
theorem B5{l:List Nat}{k:Nat}(h:l.Nodup):(U.add l k).Nodup:=by
 unfold U.add;split
 ·exact h
 ·rename_i n;exact eZ.mpr ⟨h,ba.mpr ⟨dM,dF⟩,fun a ha b hb e=>n ((a6.mp hb)▸e▸ha)⟩
theorem B6{l ks:List Nat}{k:Nat}(h:∀x∈l,x∈ks)(hk:k∈ks):∀x∈U.add l k,x∈ks:=by
 unfold U.add;split
 ·exact h
 ·exact fun x m=>(b6.mp m).elim (h x) fun m=>(a6.mp m)▸hk
structure St(X:Cx)(G:AH)(d:List U.ak)(c:U.Cs)(r:List U.ak):Prop where
 o:X.Ok G
 k:Ck X c
 e:d++r=X.R
section
variable{X:Cx}{G:AH}{d r:List U.ak}{c:U.Cs}{k:Nat}(s:St X G d c r)
theorem Cx.Ok.zl(o:X.Ok G){l:List Nat}(n:l.Nodup)(m:∀x∈l,x∈X.ks):(bX l).length<4000:=by unfold bX;rw[aN];exact bb (U.mQ n m) o.kl
include s
theorem St.zs:(bX c.seen).length<4000:=s.o.zl s.k.sn s.k.sk
theorem St.zl:(bX c.loc).length<4000:=s.o.zl s.k.ln s.k.lk
theorem St.lM(hk:k∈X.ks):St X G d (c.lM k) r:=⟨s.o,⟨B5 s.k.sn,B6 s.k.sk hk,s.k.ln,s.k.lk⟩,s.e⟩
theorem St.pZ(hk:k∈X.ks):St X G d (c.pZ k) r:=⟨s.o,⟨s.k.sn,s.k.sk,B5 s.k.ln,B6 s.k.lk hk⟩,s.e⟩
theorem St.iN:St X G d c.iN r:=⟨s.o,⟨s.k.sn,s.k.sk,s.k.ln,s.k.lk⟩,s.e⟩
theorem St.K0{f:Nat→Bool}:St X G d {c with loc:=c.loc.filter f} r:=⟨s.o,⟨s.k.sn,s.k.sk,BB _ s.k.ln,fun x m=>s.k.lk x (fz.mp m).1⟩,s.e⟩
end
section
variable{X:Cx}{G:AH}{d a b m r:List U.ak}{c:U.Cs}
theorem St.a2(s:St X G d c (a++b++r)):St X G d c (a++(b++r)):=⟨s.o,s.k,dX a b r▸s.e⟩
theorem St.Bu(s:St X G d c (a++(b++m)++r)):St X G d c (a++(b++(m++r))):=⟨s.o,s.k,dX b m r▸dX a (b++m) r▸s.e⟩
end
section
variable{l:List Nat}{k:Nat}
theorem in1(h:k∈l):(bX l).contains (k:Int)=true:=uJ.trans (a9 h)
theorem uY(h:k∉l):(bX l).contains (k:Int)=false:=uJ.trans (a7 h)
theorem TJ(h:k∉l):(!(bX l).contains (k:Int))=true:=aE not (uY h)
theorem zU(h:k∈l):(!(bX l).contains (k:Int))=false:=aE not (in1 h)
end
section
variable{W:Wd}(pr:bA W){X:Cx}{G:AH}{d r:List U.ak}{c:U.Cs}{n j:Nat}{Q:V→AH→Prop}
include pr
theorem Cz{b:Bool}{i:Int}{H:AH}(q:Q (encC b i) H):Fi W (n+1) 17 [aC (.c b i)] H Q:=by
 refine pr.fe MH rfl ?_;cases b<;>exact q
theorem TF(q:Q (cK (U.tP c.nt)) (hM X G d c.iN)):Fi W (n+1) 20 [.obj 0] (hM X G d c) Q:=by
 refine pr.fe MK rfl ?_;exact q
theorem eC{i:U.ak}(s:St X G d c (i::r))(q:∀{d},St X G d c r→Q .none (hM X G d c)):Fi W (n+1) 19 [.obj 0,hY i] (hM X G d c) Q:=by
 have q:=q (d:=d++[i]) ⟨s.o,s.k,(dX ..).trans s.e⟩;unfold hM at q;rw[bt] at q;refine pr.fe MJ rfl ?_;exact⟨by rw[aN];have z:=s.o.zR;rw[←s.e,a5] at z;exact bj (qy (Nat.zero_lt_succ _)) z,q⟩
variable(s:St X G d c r)(hj:j∈X.ks)
include s hj
theorem vj(q:Q (.bool (X.pl.void j)) (hM X G d c)):Fi W (n+1) 21 [.obj 0,.int j] (hM X G d c) Q:=by
 obtain⟨i,fl,h⟩:=s.o.inf j hj;refine pr.fe ML rfl ?_;refine bH h.key (iG h.at_ rfl h.kind ?_);rw[←show d5 (kindS X.pl j) [118,111,105,100]=X.pl.void j by
  unfold kindS;cases X.pl.void j<;>cases X.pl.perm j<;>rfl] at q
 exact q
theorem yq:d5 (kindS X.pl j) [112,101,114,109]=X.pl.perm j:=by
 have e:=s.o.ex j hj;unfold kindS;cases hv:X.pl.void j
 ·cases X.pl.perm j<;>rfl
 ·rw[e hv];rfl
theorem G2(q:Q (.bool (X.pl.perm j)) (hM X G d c)):Fi W (n+1) 22 [.obj 0,.int j] (hM X G d c) Q:=by
 obtain⟨i,fl,h⟩:=s.o.inf j hj;refine pr.fe MM rfl ?_;refine bH h.key (iG h.at_ rfl h.kind ?_);rw[←yq pr s hj] at q;exact q
theorem mV(q:Q (cK (U.place X.pl j)) (hM X G d c)):Fi W (n+1) 23 [.obj 0,.int j] (hM X G d c) Q:=by
 obtain⟨i,fl,h⟩:=s.o.inf j hj;refine pr.fe MN rfl ?_;refine bH h.key (iG h.at_ rfl h.kind ?_);unfold U.place at q;by_cases hp:X.pl.perm j=true
 ·rw[aG hp] at q;exact aa ((yq pr s hj).trans hp) (iG h.at_ rfl (h.slot hp) q)
 ·rw[aD hp] at q;exact aX ((yq pr s hj).trans (jA.mpr hp)) q
end
section
variable{W:Wd}(pr:bA W){X:Cx}{G:AH}{d r:List U.ak}{c:U.Cs}{n j:Nat}{Q:V→AH→Prop}
include pr
theorem Sn{w:U.Wr}(hw:U.jz X.pl j c=w)(s:St X G d c (w.1++r))(hj:j∈X.ks)(q:∀{d},St X G d w.2 r→Q .none (hM X G d w.2)):Fi W (n+2) 27 [.obj 0,.int j] (hM X G d c) Q:=by
 unfold U.jz at hw;refine pr.fe MS rfl ?_;by_cases h:j∈c.seen
 ·rw[aG h] at hw;refine aX (zU h) ?_;by_cases h2:j∈c.loc
  ·rw[aG h2] at hw;subst hw;exact aa (in1 h2) (mV pr s hj (eC pr (i:=.kN _) s q))
  ·rw[aD h2] at hw;subst hw;exact aX (uY h2) (mV pr s hj (eC pr (i:=.kO _) s q))
 ·rw[aD h] at hw;subst hw;refine aa (TJ h) ⟨s.zs,?_⟩;rw[xU];exact mV pr (s.lM hj) hj (eC pr (i:=.gQ _) (s.lM hj) q)
end
noncomputable def DK(q:U.Tm×U.Place):V:=.tup [aC q.1,cK q.2]
structure Sw(X:Cx)(G:AH)(d:List U.ak)(c:U.Cs)(r:List U.ak)(i:Nat)(ws:List (U.Tm×U.Place)):Prop where
 s:St X G d c r
 h:aB G i=some (.lst (ws.map DK))
section
variable{X:Cx}{G:AH}{d r:List U.ak}{c:U.Cs}{i:Nat}
theorem Cx.Ok.set(o:X.Ok G){l l':List V}(h:aB G i=some (.lst l)):X.Ok (aq G (.lst l') i):=⟨fun k m=>let ⟨j,fl,q⟩:=o.inf k m;⟨j,fl,q.key,gO q.at_ fun e=>(by have q:=q.at_;rw[←e,h] at q;cases q),q.kind,q.slot,q.Ai⟩,o.ex,o.kl,o.zR⟩
theorem Cx.Ok.app(o:X.Ok G){x:Cell}:X.Ok (app G [x]):=⟨fun k m=>let ⟨j,fl,q⟩:=o.inf k m;⟨j,fl,q.key,iJ q.at_,q.kind,q.slot,q.Ai⟩,o.ex,o.kl,o.zR⟩
end
section
variable{W:Wd}(pr:bA W){X:Cx}{n i:Nat}{G:AH}{d r:List U.ak}{c:U.Cs}
include pr
theorem xf{x w a b:Option V}{nv:Nat}{Q:K2}(s:St X G d c (U.gJ nv++r))(q:∀{d},St X G d c r→aQ W (n+1) (dp 2 pT) [some (.obj 0),x,w,some (.int (0:Nat)),a,b] (hM X G d c) Q):aQ W (n+1) (dp 1 pT) [some (.obj 0),x,w,some (.int nv),a,b] (hM X G d c) Q:=by
 unfold U.gJ at s;refine cM 1 ?_;by_cases h:nv=0
 ·subst h;exact bJ (q s)
 ·rw[aD h] at s;exact aa (nR.trans (a9 h)) (eC pr (i:=.iO nv) s fun s=>bJ (q s))
theorem Jn{t:U.Tm}{x w b:Option V}{nv:Nat}{Q:K2}{u:U.Wr}(hu:U.iH X.pl t c=u)(hs:U.bQ t=false)(hv:U.jv X.pl t=false)(v:∀y,t.has y→y∈X.ks)(s:St X G d c (u.1++r))(q:∀{d},St X G d u.2 r→Q .aL [some (.obj 0),x,w,some (.int nv),some (aC t),b] (hM X G d u.2)):aQ W (n+2) (dp 2 pT) [some (.obj 0),x,w,some (.int nv),some (aC t),b] (hM X G d c) Q:=by
 cases t with
 |s1=>cases hs
 |s2=>cases hs
 |c b' y=>subst hu;exact aX (cZ (t:=.c b' y)) (aX (eF (t:=.c b' y)) (Cz pr (eC pr (i:=.i5 b' y) s fun s2=>q s2)))
 |v j=>exact Sn pr hu s (v j rfl) fun s2=>q s2
theorem SF{Q:K2}:∀{ts nv w G d c ws} {x a b:Option V},U.bo X.pl ts nv c=w→Sw X G d c (w.1++r) i ws→(∀t∈ts,∀y,t.has y→y∈X.ks)→ws.length+ts.length≤aJ→(∀{G d a b} {nv:Nat},Sw X G d w.2.1 (U.gJ nv++r) i (ws++w.2.2)→Q .aL [some (.obj 0),x,some (.obj (i+10)),some (.int nv),a,b] (hM X G d w.2.1))→
  cf 4 (aQ W (n+2) pT) (ts.map aC) [some (.obj 0),x,some (.obj (i+10)),some (.int nv),a,b] (hM X G d c) Q:=by
 intro ts
 induction ts with
 |nil=>exact fun{nv w G d c ws} _ _ _ hw s v z q=>by subst hw;exact q ((eY ws).symm▸s)
 |cons t ts ih=>
  intro nv w G d c ws x a b hw s v z q;have v':=fun t h=>v t (BR _ h)
  cases hs:U.bQ t with
  |true=>
   rw[U.r8 hs] at hw;subst hw;refine eO fun K k=>cM 1 (dZ (aX (AY hs) (bJ (xf pr s.s.a2 fun s1=>?_))));refine dZ (aX (AY hs) (dZ (aa (eF.trans hs) (TF pr (eC pr (i:=.gQ (U.tP c.nt)) s1.iN fun s2=>?_)))));refine aa (iL s.h) (iF s.h (by rw[aN];exact bj (qy (Nat.zero_lt_succ _)) z) (k ?_))
   exact ih (ws:=ws++[(t,U.tP c.nt)]) rfl ⟨⟨s2.o.set s.h,s2.k,s2.e⟩,by rw[bt];exact dD s.h⟩ v' (by rw[a5,hE];exact z) fun s=>q (by rw[dX] at s;exact s)
  |false=>
   have z':ws.length+ts.length≤aJ:=fK z
   cases hv:U.jv X.pl t with
   |true=>
    rw[U.r7 hs hv] at hw
    cases t with
    |v j=>exact eO fun K k=>vj pr s.s (v _ (.head _) j rfl) (aa hv (k (ih (nv:=nv+1) hw s v' z' q)))
    |_=>cases hv
   |false=>
    rw[U.r6 hs hv] at hw;subst hw;refine eO fun K k=>cM 1 ?_;have go:∀{d},St X G d c ((U.iH X.pl t c).1++((U.bo X.pl ts 0 (U.iH X.pl t c).2).1++r))→aQ W (n+2) (dp 2 pT) [some (.obj 0),x,some (.obj (i+10)),some (.int (0:Nat)),some (aC t),b] (hM X G d c) (f9 K Q):=fun s1=>Jn pr rfl hs hv (v _ (.head _)) s1 fun s2=>k (ih rfl ⟨s2,s.h⟩ v' z' q)
    cases t with
    |v j=>exact vj pr s.s (v _ (.head _) j rfl) (aX hv (bJ (xf pr s.s.Bu fun s1=>go s1)))
    |c b' y=>exact aX (cZ (t:=.c b' y)) (bJ (xf pr s.s.Bu fun s1=>go s1))
    |s1=>cases hs
    |s2=>cases hs
theorem SD{w ts ws}(hw:U.bo X.pl ts 0 c=w)(s:Sw X G d c (w.1++r) i ws)(v:∀t∈ts,∀y,t.has y→y∈X.ks)(z:ws.length+ts.length≤aJ){Q:K1}(q:∀{G d},Sw X G d w.2.1 r i (ws++w.2.2)→Q .none (hM X G d w.2.1)):Fi W (n+3) 26 [.obj 0,.tup (ts.map aC),.obj (i+10)] (hM X G d c) Q:=by
 refine pr.fe MR rfl ?_;refine SF pr (nv:=0) hw s v z fun{G d a b nv} s=>?_;have s1:=s.s;unfold U.gJ at s1;by_cases n0:nv=0
 ·rw[aG n0] at s1;exact aX (nR.trans (a7 fun z=>z n0)) (q ⟨s1,s.h⟩)
 ·rw[aD n0] at s1;exact aa (nR.trans (a9 n0)) (eC pr (i:=.iO nv) s1 fun s2=>q ⟨s2,s.h⟩)
end
theorem DE{α:Type}{l r l':List α}{a:Nat}{x:α}(h:l.drop a=x::r):aB l a=some x∧a<l.length∧(l++l').drop (a+1)=r++l':=by
 have hl:a<l.length:=Bc fun q=>by rw[BF q] at h;cases h
 rw[List.drop_eq_getElem_cons hl] at h;cases h;exact⟨by rw[aj,bh hl],hl,List.drop_append_of_le_length hl⟩
theorem budget{a s t x r w b m:Nat}(h:w+2*(s+r)≤m)(h1:t+1=s)(h2:a≤2)(h3:x≤t)(h4:b≤a):w+a≤m∧w+b+2*(r+x)≤m:=⟨by omega,by omega⟩
structure Wq(X:Cx)(f w:Nat)(pend:List (U.Tm×U.Place)):Prop where
 s:∀q∈pend,U.bQ q.1=true
 v:∀q∈pend,∀x,q.1.has x→x∈X.ks
 z:w+2*U.fE pend≤aJ
 f:U.fE pend≤f
theorem Wq.next{X:Cx}{f w:Nat}{t:U.Tm}{p:U.Place}{r:List (U.Tm×U.Place)}(q:Wq X (f+1) w ((t,p)::r)){c:U.Cs}:w+(U.bT t).length≤aJ∧Wq X f (w+(U.bo X.pl (U.bT t) 0 c).2.2.length) (r++(U.bo X.pl (U.bT t) 0 c).2.2):=by
 obtain⟨y1,y2,y3⟩:=U.vW (q.s _ (.head _));have wt:=U.As (pl:=X.pl) (ts:=U.bT t) (n:=0) (c:=c);obtain⟨b1,b2⟩:=budget (show w+2*(t.aU+U.fE r)≤aJ from q.z) y1 y2 wt.sz wt.len
 exact⟨b1,fun x m=>(b6.mp m).elim (fun m=>q.s x (.tail _ m)) (wt.s x),fun x m y h=>(b6.mp m).elim (fun m=>q.v x (.tail _ m) y h) fun m=>q.v _ (.head _) y (y3 _ (wt.mem x m) y h),by rw[U.sq];exact b2,by rw[U.sq];exact gY (aA (show U.fE r+U.fE (U.bo X.pl (U.bT t) 0 c).2.2+1≤t.aU+U.fE r by rw[bR t.aU,bP,←y1];exact cq (cI wt.sz) _) q.f)⟩
section
variable{W:Wd}{H:AH}{i j:Nat}{l:List V}{v:V}{Q:K1}
theorem ff(hc:aB H i=some (.lst l))(q:Q (.int (l.length:Nat)) H):oS W .len (.obj i) H Q:=by
 show ob (ob (aB H i) none _) _ _;rw[hc];exact q
theorem eV(hc:aB H i=some (.lst l))(h:aB l j=some v)(q:Q v H):gc W (.obj i) (.int j) H Q:=by
 show ob (aB H i) _ _;rw[hc];exact bH h q
theorem n7{α β:Type}{f:α→β}{l:List α}{x:α}(h:aB l j=some x):aB (l.map f) j=some (f x):=by rw[aj] at h ⊢;rw[fI,h];rfl
end
section
variable{W:Wd}(pr:bA W){X:Cx}{n i:Nat}{r:List U.ak}
include pr
theorem SJ{Q:K2}:∀{f w pend G d c at_ ws} {x y a b:Option V},U.jT X.pl f pend c=w→Sw X G d c (w.1++r) i ws→ws.drop at_=pend→Wq X f ws.length pend→(∀{F G d},St X G d w.2 r→Q .aL F (hM X G d w.2))→gH (bC W (n+3) Em) (aQ W (n+3) yU) (f+1) [some (.obj 0),x,y,some (.obj (i+10)),some (.int at_),a,b] (hM X G d c) Q:=by
 intro f
 induction f with
 |zero=>
  intro w pend G d c at_ ws x y a b hw s dr wq q
  cases pend with
  |nil=>
   subst hw;refine ff s.h ?_;exact aX (by rw[aN,mJ];exact a7 (fL.mpr (BE.mp dr))) (q s.s)
  |cons t=>exact absurd (aA (U.Tm.mZ t.1) (aA (aT _ _) wq.f)) (iV 0)
 |succ f ih=>
  intro w pend G d c at_ ws x y a b hw s dr wq q
  cases pend with
  |nil=>
   subst hw;refine ff s.h ?_;exact aX (by rw[aN,mJ];exact a7 (fL.mpr (BE.mp dr))) (q s.s)
  |cons tr rs=>
   obtain⟨t,rg⟩:=tr;subst hw;have hs:U.bQ t=true:=wq.s _ (.head _);obtain⟨d1,d2,d3⟩:=DE (l':=(U.bo X.pl (U.bT t) 0 c).2.2) dr;obtain⟨b1,b2⟩:=wq.next (c:=c);refine lQ fun K kk=>?_;refine ff s.h (aa (by rw[aN,mJ];exact a9 d2) (cM 3 (eV s.h (n7 d1) (vY hs ?_))))
   have e0:decide (((U.fnOf t:Nat):Int)=0)=decide (U.fnOf t=0):=l5.mpr Int.natCast_eq_zero;have go:∀{d},St X G d c (((U.bo X.pl (U.bT t) 0 c).1++(U.jT X.pl f (rs++(U.bo X.pl (U.bT t) 0 c).2.2) (U.bo X.pl (U.bT t) 0 c).2.1).1)++r)→aQ W (n+3) (dp 3 yU) [some (.obj 0),x,y,some (.obj (i+10)),some (.int ((at_+1:Nat):Int)),some (aC t),some (cK rg)] (hM X G d c) (f9 K Q):=fun s'=>
    AX hs (SD pr rfl ⟨s'.a2,s.h⟩ (fun u m x h=>wq.v _ (.head _) x ((U.vW hs).2.2 u m x h)) b1 fun s2=>kk (ih rfl s2 d3 (by rw[a5];exact b2) q))
   have s1:=s.s;unfold U.jT U.k8 at s1;by_cases h0:U.fnOf t=0
   ·rw[aG h0] at s1;exact aa (e0.trans (a9 h0)) (eC pr (i:=.pP rg) s1 fun s=>bJ (go s))
   ·rw[aD h0] at s1;exact aX (e0.trans (a7 h0)) (vY hs (eC pr (i:=.pQ _ rg) s1 fun s=>bJ (go s)))
variable{G:AH}{d:List U.ak}{c:U.Cs}{t:U.Tm}{p:U.Place}{Q:K1}
theorem SI{w:U.Wr}(hw:U.ng X.pl t p c=w)(s:St X G d c (w.1++r))(hs:U.bQ t=true)(v:∀x,t.has x→x∈X.ks)(z:1+2*t.aU≤aJ)(q:∀{G d},St X G d w.2 r→Q .none (hM X G d w.2)):Fi W (n+4) 25 [.obj 0,aC t,cK p] (hM X G d c) Q:=by
 refine pr.fe MP rfl ?_;refine dB (lz rfl) (Ex.mk (v:=t.aU+1) ?_);exact SJ pr (G:=app G [.lst ([(t,p)].map DK)]) (i:=aH G) (ws:=[(t,p)]) (at_:=0) (pend:=[(t,p)]) hw ⟨⟨s.o.app,s.k,s.e⟩,cW⟩ rfl ⟨fun q m=>(a6.mp m)▸hs,fun q m=>(a6.mp m)▸v,z,ai _⟩ fun s=>q s
theorem Nb{w:U.Wr}(hw:U.iq X.pl t p c=w)(s:St X G d c (w.1++r))(v:∀x,t.has x→x∈X.ks)(z:1+2*t.aU≤aJ)(q:∀{G d},St X G d w.2 r→Q .none (hM X G d w.2)):Fi W (n+5) 24 [.obj 0,aC t,cK p] (hM X G d c) Q:=by
 refine pr.fe MO rfl ?_
 cases hs:U.bQ t with
 |true=>exact dZ (aX (AY hs) (dZ (aa (eF.trans hs) (SI pr (by cases t<;>first|exact(ax hs).elim|exact hw) s hs v z fun s=>q s))))
 |false=>
  cases t with
  |s1=>cases hs
  |s2=>cases hs
  |c b y=>
   subst hw;exact aX (cZ (t:=.c b y)) (aX (eF (t:=.c b y)) (Cz pr (eC pr (i:=.jR b y p) s fun s=>q s)))
  |v j=>
   have hj:=v j rfl;unfold U.iq at hw
   dsimp only at hw
   refine vj pr s hj ?_;by_cases hv:X.pl.void j=true
   ·rw[aG hv] at hw;subst hw;exact aa hv (q s)
   ·rw[aD hv] at hw;refine aX (jA.mpr hv) ?_;by_cases h:j∈c.seen
    ·rw[aG h] at hw;subst hw;exact aa (in1 h) (mV pr s hj (eC pr (i:=.il _ p) s fun s=>q s))
    ·rw[aD h] at hw;subst hw;refine aX (uY h) ⟨s.zs,⟨s.zl,?_⟩⟩;rw[xU,xU];exact mV pr ((s.lM hj).pZ hj) hj (eC pr (i:=.getVar _ p) ((s.lM hj).pZ hj) fun s=>q s)
end
section
variable{W:Wd}{H:AH}{i:Nat}{l:List V}{v:V}{Q:K1}
theorem Qh(hc:aB H i=some (.lst l))(h:lA l=some v)(q:Q v H):gc W (.obj i) (.int (-1)) H Q:=by
 show ob (aB H i) _ _;rw[hc];exact bH h q
theorem cF(hc:aB H i=some (.lst l)):It .lst (.obj i) l H:=.lst (.cell (aj▸hc))
end
theorem LH{l:List Nat}{j:Nat}:(bX l).filter (· != (j:Int))=bX (l.filter (· != j)):=by
 unfold bX;rw[List.filter_map];congr 1
 exact List.filter_congr fun x _=>mi.mpr (by rw[Function.comp,lu,lu];exact⟨fun h e=>h (e▸rfl),fun h e=>h (dg e)⟩)
section
variable{W:Wd}(pr:bA W){X:Cx}{n i j:Nat}{r:List U.ak}{G:AH}{d:List U.ak}{c:U.Cs}{p:U.Place}{Q:K1}
include pr
theorem V7{w:U.Wr}(hw:U.iy X.pl j c=w)(s:St X G d c (w.1++r))(hj:j∈X.ks)(h:j∈c.seen)(q:∀{d},St X G d w.2 r→Q .none (hM X G d w.2)):Fi W (n+2) 31 [.obj 0,.int j] (hM X G d c) Q:=by
 unfold U.iy at hw;refine pr.fe MW rfl ?_;refine aX (zU h) ?_;by_cases h2:j∈c.loc
 ·rw[aG h2] at hw;refine aa (in1 h2) (mV pr s hj ?_);by_cases hp:X.pl.perm j=true
  ·rw[aG hp] at hw;subst hw;exact eC pr (i:=.ja _) s fun s=>G2 pr s hj (aX (aE not hp) (q s))
  ·rw[aD hp] at hw;subst hw;refine eC pr (i:=.ja _) (r:=r) ⟨s.o,s.k,s.e⟩ fun s=>G2 pr s hj (aa (aE not (jA.mpr hp)) ?_);have z:=q s.K0;unfold hM at z;rw[←LH] at z;exact z
 ·rw[aD h2] at hw;subst hw;exact aX (uY h2) (mV pr s hj (eC pr (i:=.kE _) s q))
theorem Vb{w:U.Wr}(hw:U.iy X.pl j c=w)(s:St X G d c (w.1++r))(hj:j∈X.ks)(h:j∈c.seen)(hv:X.pl.void j=false)(hi:aB G i=some (.lst [aC (.v j)]))(q:∀{d},St X G d w.2 r→Q .none (hM X G d w.2)):Fi W (n+3) 30 [.obj 0,.obj (i+10)] (hM X G d c) Q:=by
 refine pr.fe MV rfl ?_;refine⟨cF hi,cF hi,vj pr s hj (aX hv (V7 pr hw s hj h fun s=>⟨cF hi,q s⟩))⟩
theorem UG{H:AH}(q:Q (.obj (aH H)) (app H [.lst [aC (.v j)]])):Fi W (n+1) 29 [.obj 0,.tup [aC (.v j)],.none] H Q:=by
 refine pr.fe MU rfl ?_;refine dB (lz rfl) (Ex.mk (v:=2) ?_);refine aa (iL cW) (iF cW (lz rfl) ?_);rw[iz];exact q
theorem J0{w:U.Wr}(hw:U.iy X.pl j c=w)(s:St X G d c (.putStr 32 p::w.1++r))(hj:j∈X.ks)(h:j∈c.seen)(hv:X.pl.void j=false)(q:∀{G d},St X G d w.2 r→Q .none (hM X G d w.2)):Fi W (n+4) 28 [.obj 0,aC (.s1 32 (.v j)),cK p] (hM X G d c) Q:=by
 refine pr.fe MT rfl ?_;refine dB (lz rfl) (Ex.mk (v:=1) (Qh cW rfl ?_));refine ff cW (Ex.mk (v:=2) (eV (j:=0) cW rfl (UG pr ?_)));refine eC pr (G:=app (app G [.lst [aC (.s1 32 (.v j))]]) [.lst [aC (.v j)]]) (i:=.putStr 32 p) ⟨s.o.app.app,s.k,s.e⟩ fun s=>?_;exact Vb pr (i:=aH (app G [.lst [aC (.s1 32 (.v j))]])) hw s hj h hv cW fun s=>q s
end
structure Gv(X:Cx)(t:U.Tm):Prop where
 e:t=.v (U.b5 t)∨t=.s1 32 (.v (U.b5 t))
 m:U.b5 t∈X.ks
 v:X.pl.void (U.b5 t)=false
theorem Hl{pl:U.Pl}{j:Nat}{c:U.Cs}:(U.iy pl j c).2.seen=c.seen:=by
 unfold U.iy;split
 ·split<;>rfl
 ·rfl
section
variable{W:Wd}(pr:bA W){X:Cx}{n i j:Nat}{r:List U.ak}{G:AH}{d:List U.ak}{c:U.Cs}{p:U.Place}{Q:K1}{g:Int}
include pr
theorem RZ(h:j∈X.ks)(sn:j∈c.seen)(hv:X.pl.void j=false)(s:St X G d c (.iK (U.place X.pl j) p::r))(q:∀{d},St X G d c r→Q .none (hM X G d c)):Fi W (n+2) 42 [.obj 0,.int j,cK p,.int g] (hM X G d c) Q:=by
 obtain⟨i,fl,f⟩:=s.o.inf j h;refine pr.fe MY rfl ?_;refine bH f.key (iG f.at_ rfl f.kind ?_);refine aX (by unfold kindS;rw[aD (by rw[hv];exact ax)];cases X.pl.perm j<;>rfl) (aX (zU sn) (iG f.at_ rfl f.Ai ?_))
 exact mV pr s h (eC pr (i:=.iK _ p) s q)
theorem RY{Q:K2}:∀{ts nn w G d c} {x a b:Option V},U.gp X.pl ts (nn+1) c=w→St X G d c (w.1++r)→(∀t∈ts,Gv X t∧U.b5 t∈c.seen)→(∀{F G d},St X G d w.2 r→w.2.seen=c.seen→Q .aL F (hM X G d w.2))→cf 4 (aQ W (n+5) EM) (ts.map aC) [some (.obj 0),x,some (.int g),some (.int nn),a,b] (hM X G d c) Q:=by
 intro ts
 induction ts with
 |nil=>exact fun hw s v q=>by subst hw;exact q s rfl
 |cons t ts ih=>
  intro nn w G d c x a b hw s v q;obtain⟨⟨e,m,hv⟩,sn⟩:=v t (.head _);have v':=fun t h=>v t (BR _ h);generalize U.b5 t=j at e m hv sn;subst hw;rcases e with rfl|rfl
  ·exact eO fun K k=>RZ pr (p:=U.aP (nn+1)) m sn hv s fun s=>k (ih (nn:=nn+1) rfl s v' q)
  ·exact eO fun K k=>J0 pr (p:=U.aP (nn+1)) rfl s.a2 m sn hv fun s=>k (ih (nn:=nn+1) rfl s (fun t m=>by rw[Hl];exact v' t m) fun s e=>q s (e.trans Hl))
theorem RX{w:U.Wr}{ts:List U.Tm}(hw:U.gp X.pl ts 1 c=w)(s:St X G d c (w.1++r))(v:∀t∈ts,Gv X t∧U.b5 t∈c.seen)(q:∀{G d},St X G d w.2 r→w.2.seen=c.seen→Q .none (hM X G d w.2)):Fi W (n+6) 41 [.obj 0,.tup (ts.map aC),.int g] (hM X G d c) Q:=by
 refine pr.fe MX rfl ?_;exact RY pr (nn:=0) hw s v fun s e=>q s e
theorem xx{w:U.Wr}{ts:List U.Tm}{f i:Nat}(hi:aB X.goals i=some (.tup [.str [99,97,108,108],.int f,.tup (ts.map aC)]))(hw:U.gp X.pl ts 1 c=w)(s:St X G d c (w.1++r))(v:∀t∈ts,Gv X t∧U.b5 t∈c.seen)(q:∀{G d},St X G d w.2 r→w.2.seen=c.seen→Q .none (hM X G d w.2)):Fi W (n+7) 44 [.obj 0,.int i] (hM X G d c) Q:=by
 refine pr.fe MZ rfl ?_;exact bH hi (RX pr hw s v fun s e=>q s e)
theorem Nd{Q:K2}:∀{ts nn w G d c} {x y z u v:Option V},U.gL X.pl ts (nn+1) c=w→St X G d c (w.1++r)→(∀t∈ts,(∀x,t.has x→x∈X.ks)∧1+2*t.aU≤aJ)→(∀{G d nn b},St X G d w.2 r→Q .aL [some (.obj 0),x,y,some (.int (nn:Nat)),b,u,v] (hM X G d w.2))→cf 4 (aQ W (n+6) EN) (ts.map aC) [some (.obj 0),x,y,some (.int nn),z,u,v] (hM X G d c) Q:=by
 intro ts
 induction ts with
 |nil=>exact fun hw s v q=>by subst hw;exact q s
 |cons t ts ih=>
  intro nn w G d c x y z u v hw s h q;subst hw;obtain⟨h1,h2⟩:=h t (.head _);exact eO fun K k=>Nb pr (p:=U.aP (nn+1)) rfl s.a2 h1 h2 fun s=>k (ih (nn:=nn+1) rfl s (fun t m=>h t (.tail _ m)) q)
end
noncomputable def bE(g:Nat×List U.Tm):V:=.tup [.str [99,97,108,108],.int g.1,.tup (g.2.map aC)]
section
variable{W:Wd}(pr:bA W){X:Cx}{n i j:Nat}{r:List U.ak}{G:AH}{d:List U.ak}{c:U.Cs}{Q:K1}{e:Bool}
include pr
theorem IA{f i:Nat}{ts:List U.Tm}{x y z:Option V}{l:Int}(hl:l=i)(hi:aB X.goals i=some (bE (f,ts)))(s:St X G d c ((if X.ne=true then[.hV] else[])++[.exec f]))(q:∀{d},St X G d c []→Q (.obj 1) (hM X G d c)):aQ W (n+7) (dp 9 rX) [some (.obj 0),some (.obj 4),some (.obj 8),x,y,some (.int l),z] (hM X G d c) (gM Q):=by
 subst hl;have fin:∀{d},St X G d c [.exec f]→aQ W (n+7) (dp 1 (dp 9 rX)) [some (.obj 0),some (.obj 4),some (.obj 8),x,y,some (.int i),z] (hM X G d c) (gM Q):=fun s=>bH hi (bH hi (eC pr (i:=.exec f) s q));refine cM 1 ?_;by_cases h:X.ne=true
 ·rw[aG h] at s;exact aa h (eC pr (i:=.hV) s fun s=>bJ (fin s))
 ·rw[aD h] at s;exact aX (jA.mpr h) (bJ (fin s))
theorem NK{la:Nat}{goals:List (Nat×List U.Tm)}{x y:Option V}(hg:X.goals=goals.map bE)(hla:1<goals.length→aB X.live 0=some (.int la))(h1:goals≠[])(h2:goals.length≤2)(v:∀g∈goals,∀t∈g.2,Gv X t∧U.b5 t∈c.seen)(s:St X G d c (U.jS X.pl la X.ne goals c))(q:∀{G d c},St X G d c []→Q (.obj 1) (hM X G d c)):aQ W (n+7) (dp 5 rX) [some (.obj 0),some (.obj 4),some (.obj 8),x,y,none,none] (hM X G d c) (gM Q):=by
 refine cM 4 ?_
 match goals,h1,h2 with
 | [],h1,_=>exact absurd rfl h1
 | [(f,ts)],_,_=>
  have n0:aB X.goals 0=some (bE (f,ts)):=by rw[hg];rfl
  have l0:(X.goals.length:Int)-1=(0:Nat):=by rw[hg];rfl
  refine Ex.mk (v:=1) (aX (by rw[l0];rfl) (aa (by rw[l0];rfl) ?_))
  rw[show V.int ((X.goals.length:Int)-1)=.int (0:Nat) by rw[l0]]
  exact xx pr n0 rfl s (v _ (.head _)) fun s e=>bJ (IA pr (i:=0) rfl n0 s q)
 | [(f,ts),(f',us)],_,_=>
  have n0:aB X.goals 0=some (bE (f,ts)):=by rw[hg];rfl
  have n1:aB X.goals 1=some (bE (f',us)):=by rw[hg];rfl
  have l0:(X.goals.length:Int)-1=(1:Nat):=by rw[hg];rfl
  refine Ex.mk (v:=2) (aa (by rw[l0];rfl) ?_)
  refine xx pr (i:=0) n0 rfl s (v _ (.head _)) fun s e=>?_;refine bH n0 (bH n0 (bH (hla (dY 1)) (eC pr (i:=.call f la) s fun s=>?_)));refine aX (by rw[l0];rfl) (aa (by rw[l0];rfl) ?_)
  rw[show V.int ((X.goals.length:Int)-1)=.int (1:Nat) by rw[l0]]
  exact xx pr n1 rfl s (fun t m=>e▸v _ (.tail _ (.head _)) t m) fun s e=>bJ (IA pr (i:=1) rfl n1 s q)
theorem KY{la N:Nat}{args:List U.Tm}{goals:List (Nat×List U.Tm)}(hR:X.R=U.gf X.pl N la X.ne X.es args goals)(ha:X.args=args.map aC)(hg:X.goals=goals.map bE)(hla:1<goals.length→aB X.live 0=some (.int la))(h1:goals≠[])(h2:goals.length≤2)(o:X.Ok G)(va:∀t∈args,(∀x,t.has x→x∈X.ks)∧1+2*t.aU≤aJ)(v:∀g∈goals,∀t∈g.2,Gv X t∧∃u∈args,u.has (U.b5 t))(q:∀{G c},X.Ok G→Q (.obj 1) (hM X G X.R c)):Fi W (n+8) 45 [.obj 0] (hM X G [] ⟨[],[],N⟩) Q:=by
 refine pr.fe Ma rfl ?_;have s:St X G [] ⟨[],[],N⟩ (U.gf X.pl N la X.ne X.es args goals):=⟨o,⟨dF,(fun _ m=>nomatch m),dF,fun _ m=>nomatch m⟩,hR.symm⟩;have fin:∀{d a b},St X G d ⟨[],[],N⟩ ((U.gL X.pl args 1 ⟨[],[],N⟩).1++U.jS X.pl la X.ne goals (U.gL X.pl args 1 ⟨[],[],N⟩).2)→aQ W (n+7) (dp 3 rX) [some (.obj 0),some (.obj 4),some (.obj 8),a,b,none,none] (hM X G d ⟨[],[],N⟩) (gM Q):=fun s=>by
  refine cM 2 ?_;show cf 4 _ X.args _ _ _;rw[ha];exact Nd pr (nn:=0) rfl s va fun s=>bJ (NK pr hg hla h1 h2 (fun g m t mt=>have z:=v g m t mt;⟨z.1,U.yI.1 (.inr ⟨z.1.v,z.2⟩)⟩) s fun s=>(eY _).symm.trans s.e▸q s.o)
 refine cM 3 ?_;unfold U.gf at s;by_cases h:X.ne=true
 ·rw[aG h] at s;exact aa h (eC pr (i:=.alloc X.es) s fun s=>bJ (fin s))
 ·rw[aD h] at s;exact aX (jA.mpr h) (bJ (fin s))
end
section
variable{W:Wd}{H:AH}{a st:Nat}{kvs:List (Atom×V)}{k:Int}{v:V}{l:List V}{Q:K1}
theorem FN(hc:aB H a=some (.dict kvs st))(q:Q (.bool (aR kvs (.int k)).isSome) H):gU W .In (.int k) (.obj a) H Q:=by
 show ob (ob (aB H a) none _) _ _;rw[hc];exact q
theorem FT(hc:aB H a=some (.dict kvs st))(q:Q (.bool (!(aR kvs (.int k)).isSome)) H):gU W .NotIn (.int k) (.obj a) H Q:=by
 show ob (ob (ob (aB H a) none _) none _) _ _;rw[hc];exact q
theorem uk(hc:aB H a=some (.dict kvs st))(h:aR kvs (.int k)=some v)(q:Q v H):gc W (.obj a) (.int k) H Q:=by
 show ob (aB H a) _ _;rw[hc];exact bH h q
theorem rt{F:Fa}{Q:K2}(hc:aB H a=some (.dict kvs st))(z:kvs.length≤aJ)(q:Q .aL F (aq H (.dict (bc kvs (.int k) v) (st+1)) a)):nF W (.obj a) (.int k) v F H Q:=by
 show ob (aB H a) _ _;rw[hc];exact⟨z,q⟩
theorem y0{P:Bool→Prop}(hc:aB H a=some (.lst l))(q:P (!e6 l)):jN (.obj a) H P:=by
 show ob (aB H a) _ _;rw[hc];exact q
theorem Qp(hc:aB H a=some (.lst l))(h:lA l=some v)(q:Q v (aq H (.lst l.dropLast) a)):iW W .pop (.obj a) Q [] H:=by
 show ob (aB H a) _ _;rw[hc];exact bH h q
theorem FU{l:List Int}(hc:aB H a=some (.lst (l.map V.int)))(q:Q (.bool (!l.any (· == k))) H):gU W .NotIn (.int k) (.obj a) H Q:=by
 show ob (ob (ob (aB H a) none _) none _) _ _;rw[hc];exact⟨nD.ints (.cell (aj▸hc)),q⟩
end
section
variable{α:Type}{l:List α}{x y z:α}{i:Nat}
theorem kG(h:aB l i=some x):aq l x i=l:=by
 rw[aj] at h;rw[c7];apply BH
 intro j;rw[tS];split
 ·rename_i e;subst e;rw[aG (dE.mp h).1,h]
 ·rfl
theorem gv:aq (aq l x i) y i=aq l y i:=by rw[c7,c7,c7,List.set_set]
end
noncomputable def dH(b:U.Bd):List (Atom×V):=b.map fun p=>(.int (p.1:Int),aC p.2)
theorem LD{b:U.Bd}{n:Nat}:aR (dH b) (.int (n:Int))=(b.at n).map aC:=by
 unfold dH aR U.Bd.at
 induction b with
 |nil=>rfl
 |cons p b ih=>
  rw[cO,tQ,tQ];by_cases e:p.1=n
  ·rw[a9 (aE (fun k:Nat=>Atom.int k) e:Atom.int (p.1:Int)=Atom.int (n:Int)),a9 e];rfl
  ·rw[a7 (fun q=>e (dg (Atom.int.inj q)):¬Atom.int (p.1:Int)=Atom.int (n:Int)),a7 e];exact ih
section
variable{W:Wd}{n:Nat}{H:AH}{a st:Nat}{b:U.Bd}{t u:U.Tm}{Q:K1}(pr:bA W)(hb:aB H a=some (.dict (dH b) st))
theorem bk{k:Nat}{o:Option U.Tm}(h:b.at k=o):aR (dH b) (.int (k:Int))=o.map aC:=LD.trans (aE _ h)
include hb
theorem Xg{Q:K2}(hw:U.Walk b t u)(q:Q .aL [some (.obj a),some (aC u)] H):Ex fun k=>gH (bC W n Eo) (aQ W n EW) k [some (.obj a),some (aC t)] H Q:=by
 induction hw with
 |@stop t h=>
  refine Ex.mk (v:=1) (dZ ?_)
  cases hv:t.bN with
  |false=>exact aX (cZ.trans hv) q
  |true=>
   cases t with
   |v k=>exact FN hb (aX (by rw[bk (h k rfl)];rfl) q)
   |c=>cases hv
   |s1=>cases hv
   |s2=>cases hv
 |@step k t u h _ ih=>
  obtain⟨e⟩:=ih q;rename_i m;exact Ex.mk (v:=m+1) (lQ fun K kk=>FN hb (aa (by rw[bk h];rfl) (uk hb (bk h) (kk e))))
include pr
theorem gy(hw:U.Walk b t u)(q:Q (aC u) H):Fi W (n+1) 68 [.obj a,aC t] H Q:=by
 refine pr.fe Mp rfl ?_;exact Xg hb hw q
theorem Io{S:U.Sb}(M:U.ah b S){d:Nat}:∀{t:U.Tm} {Q:K1},(t.app S).dep≤d→Q (aC (t.app S)) H→Fi W (d+2) 69 [.obj a,aC t] H Q:=by
 induction d with
 |zero=>
  intro t Q hd q;obtain⟨u,hw⟩:=M.walks t;rw[hw.sat M.sol] at hd q;refine pr.fe Dt rfl (gy pr hb hw ?_)
  cases u with
  |v n=>
   rw[show U.Tm.app S (.v n)=.v n from M.id n (hw.free n rfl)] at q
   exact q
  |c k z=>exact aX (eF (t:=.c k z)) q
  |s1=>exact absurd hd (iV _)
  |s2=>exact absurd hd (iV _)
 |succ d ih=>
  intro t Q hd q;obtain⟨u,hw⟩:=M.walks t;rw[hw.sat M.sol] at hd q;refine pr.fe Dt rfl (gy pr hb hw ?_)
  cases u with
  |v n=>
   rw[show U.Tm.app S (.v n)=.v n from M.id n (hw.free n rfl)] at q
   exact q
  |c k z=>exact aX (eF (t:=.c k z)) q
  |s1 f x=>exact⟨lz rfl,ih (gY hd) ⟨.val,q⟩⟩
  |s2 f x y=>
   have hd:max (x.app S).dep (y.app S).dep+1≤d+1:=hd;have hd:=gY hd;exact⟨lz rfl,ih (aA (iS _ _) hd) (ih (aA (iT _ _) hd) ⟨.val,q⟩)⟩
end
noncomputable def aZ(ns:List Nat):List V:=(bX ns).map V.int
theorem DI{ns:List Nat}{k:Nat}:((bX ns).any (· == (k:Int)))=decide (k∈ns):=by rw[←uJ,List.contains_eq_any_beq];congr 1;funext x;exact mi.mpr (by rw[dm,dm];exact eq_comm)
theorem pW:∀{t:U.Tm} {tb:List Nat},tb.length≤(U.bL tb t).2.length
 | .v n,tb=>by
  rw[U.iv];split
  ·exact ai _
  ·rw[a5];exact aT _ _
 | .c _ _,_=>ai _
 | .s1 _ x,tb=>pW (t:=x)
 | .s2 _ x y,tb=>aA (pW (t:=x)) (pW (t:=y))
theorem ry:∀{ts:List U.Tm} {tb:List Nat},tb.length≤(U.bB tb ts).2.length
 | [],_=>ai _
 |_::_,_=>aA pW ry
section
variable{K X:Type}[DecidableEq K]{l:List (K×X)}{k j:K}{v w:X}
theorem iD:aR ((k,v)::l) k=some v:=by unfold aR;rw[tQ,a9 rfl];rfl
theorem gA(h:j≠k):aR ((j,v)::l) k=aR l k:=by unfold aR;rw[tQ,a7 h]
theorem ro(h:aR l k=none):bc l k v=l++[(k,v)]:=by
 unfold bc;refine aD fun q=>?_;obtain⟨p,hp,e⟩:=tN.mp q;exact absurd e (BI.mp (Bk.mp h) p hp)
end
noncomputable def c5{α K:Type}(key:α→K):Nat→List α→List (K×V)
 |_,[]=>[]
 |i,n::r=>(key n,.int (i:Int))::c5 key (i+1) r
section
variable{α K:Type}[DecidableEq α][DecidableEq K]{key:α→K}{n:α}{tb:List α}{i:Nat}(inj:∀a b,key a=key b→a=b)
theorem nO:∀{tb:List α} {i:Nat},(c5 key i tb).length=tb.length
 | [],_=>rfl
 |_::_,_=>aE (·+1) nO
theorem DG:∀{tb:List α} {i:Nat},c5 key i (tb++[n])=c5 key i tb++[(key n,.int ((i+tb.length:Nat):Int))]
 | [],_=>rfl
 |m::tb,i=>by show _::c5 key (i+1) (tb++[n])=_::(c5 key (i+1) tb++_);rw[DG,dK,ta]
include inj
theorem rQ:∀{tb:List α} {i:Nat},n∉tb→aR (c5 key i tb) (key n)=none
 | [],_,_=>rfl
 |m::tb,i,h=>(gA fun e=>h (by rw[inj _ _ e];exact .head _)).trans (rQ fun q=>h (.tail _ q))
theorem pI:∀{tb:List α} {i:Nat},n∈tb→aR (c5 key i tb) (key n)=some (.int ((i+tb.idxOf n:Nat):Int))
 |m::tb,i,h=>by
  by_cases e:m=n
  ·subst e;rw[BN];exact iD
  ·rw[List.idxOf_cons,show(m == n)=false from rJ.mpr e,cond_false]
   exact(gA fun q=>e (inj _ _ q)).trans ((pI ((a8.mp h).resolve_left (jJ e))).trans (by rw[ta]))
theorem xS(h:n∉tb):bc (c5 key 0 tb) (key n) (.int (tb.length:Int))=c5 key 0 (tb++[n]):=by rw[ro (rQ inj h),DG,cP]
end
noncomputable def iC(n:Nat):Atom:=.int (n:Int)
theorem k9(a b:Nat)(h:iC a=iC b):a=b:=dg (Atom.int.inj h)
theorem D5{tb:List Nat}{n:Nat}(h:n∉tb):(tb++[n]).idxOf n=tb.length:=by rw[BL,aD h,BN,cP]
section
variable{W:Wd}{n a:Nat}{Q:K1}(pr:bA W)
theorem Qj{H:AH}{st:Nat}{kvs:List (Atom×V)}(hc:aB H a=some (.dict kvs st))(z:kvs.length≤aJ)(q:Q (.int (kvs.length:Nat)) H):oS W .len (.obj a) H Q:=by
 show ob (ob (aB H a) none _) _ _;rw[hc];exact iM (ow.dict (aj▸hc) z) q
include pr
theorem zN{d:Nat}:∀{t:U.Tm} {H:AH} {tb:List Nat} {Q:K1},t.dep≤d→aB H a=some (.lst (aZ tb))→(U.bL tb t).2.length<aJ→Q (.obj a) (aq H (.lst (aZ (U.bL tb t).2)) a)→Fi W (d+1) 67 [aC t,.obj a] H Q:=by
 have leaf:∀{d t H tb} {Q:K1},U.bQ t=false→aB H a=some (.lst (aZ tb))→(U.bL tb t).2.length<aJ→Q (.obj a) (aq H (.lst (aZ (U.bL tb t).2)) a)→Fi W (d+1) 67 [aC t,.obj a] H Q:=fun{d t H tb Q} hs h z q=>by
  refine pr.fe xr rfl ?_
  cases t with
  |s1=>cases hs
  |s2=>cases hs
  |c b y=>exact aX (cZ (t:=.c b y)) (aX (eF (t:=.c b y)) (kG h▸q))
  |v k=>
   refine FU h ?_;rw[U.iv] at q z;by_cases m:k∈tb
   ·rw[aG m,kG h] at q;exact aX (by rw[DI,a9 m];rfl) q
   ·rw[aD m] at q z;refine aa (by rw[DI,a7 m];rfl) (aa (iL h) (iF h ?_ ?_))
    ·rw[aZ,bX,aN,aN];rw[a5] at z;exact Be z
    ·rw[show aZ (tb++[k])=aZ tb++[.int k] by unfold aZ bX;rw[bt,bt];rfl] at q
     exact q
 induction d with
 |zero=>
  intro t H tb Q hd h z q;exact leaf (by cases t<;>first|rfl|exact absurd hd (iV _)) h z q
 |succ d ih=>
  intro t H tb Q hd h z q
  cases t with
  |v=>exact leaf rfl h z q
  |c=>exact leaf rfl h z q
  |s1 f x=>
   refine pr.fe xr rfl ?_;exact ih (gY hd) h z q
  |s2 f x y=>
   have hd:max x.dep y.dep+1≤d+1:=hd;have hd:=gY hd;refine pr.fe xr rfl ?_;exact ih (aA (iS _ _) hd) h (bb pW z) (ih (aA (iT _ _) hd) (dD h) z (gv.symm▸q))
theorem Fq{d:Nat}:∀{t:U.Tm} {H:AH} {tb:List Nat} {st:Nat} {Q:K1},t.dep≤d→aB H a=some (.dict (c5 iC 0 tb) st)→(U.bL tb t).2.length≤aJ→(∀{st'},Q (aC (U.bL tb t).1) (aq H (.dict (c5 iC 0 (U.bL tb t).2) st') a))→Fi W (d+1) 65 [aC t,.obj a] H Q:=by
 have leaf:∀{d t H tb st} {Q:K1},U.bQ t=false→aB H a=some (.dict (c5 iC 0 tb) st)→(U.bL tb t).2.length≤aJ→(∀{st'},Q (aC (U.bL tb t).1) (aq H (.dict (c5 iC 0 (U.bL tb t).2) st') a))→Fi W (d+1) 65 [aC t,.obj a] H Q:=fun{d t H tb st Q} hs h z q=>by
  refine pr.fe xq rfl ?_
  cases t with
  |s1=>cases hs
  |s2=>cases hs
  |c b y=>exact aX (cZ (t:=.c b y)) (aX (eF (t:=.c b y)) (kG h▸q))
  |v k=>
   refine FT h ?_;rw[U.iv] at q z;by_cases m:k∈tb
   ·rw[aG m] at q;have q:=q (st':=st);rw[kG h] at q;exact aX (by rw[show Atom.int k=iC k from rfl,pI k9 m];rfl) (uk h (pI k9 m) (by rw[cP];exact q))
   ·rw[aD m] at q z;have zl:(c5 iC 0 tb).length≤aJ:=by rw[nO];exact aA (aT _ _) (a5▸z)
    refine aa (by rw[show Atom.int k=iC k from rfl,rQ k9 m];rfl) (Qj h zl (rt h zl ?_))
    rw[nO,show Atom.int k=iC k from rfl,xS k9 m]
    refine uk (dD h) (pI k9 (jl _ (.head _))) ?_;rw[cP,D5 m];exact q
 induction d with
 |zero=>
  intro t H tb st Q hd h z q;exact leaf (by cases t<;>first|rfl|exact absurd hd (iV _)) h z q
 |succ d ih=>
  intro t H tb st Q hd h z q
  cases t with
  |v=>exact leaf rfl h z q
  |c=>exact leaf rfl h z q
  |s1 f x=>
   refine pr.fe xq rfl ⟨lz rfl,?_⟩;exact ih (gY hd) h z ⟨.val,q⟩
  |s2 f x y=>
   have hd:max x.dep y.dep+1≤d+1:=hd;have hd:=gY hd;refine pr.fe xq rfl ⟨lz rfl,?_⟩;exact ih (aA (iS _ _) hd) h (aA pW z) (ih (aA (iT _ _) hd) (dD h) z ⟨.val,gv.symm▸q⟩)
theorem RO{d:Nat}{x:Option V}:∀{ts:List U.Tm} {H:AH} {tb:List Nat} {st:Nat} {y:Option V} {Q:fw},(∀t∈ts,t.dep≤d)→aB H a=some (.dict (c5 iC 0 tb) st)→(U.bB tb ts).2.length≤aJ→(∀{c},Q ((U.bB tb ts).1.map aC) (aq H c a))→oQ (bC W (d+1) Es) 2 [x,some (.obj a),y] (ts.map aC) H Q:=by
 intro ts
 induction ts with
 |nil=>
  intro H tb st y Q hd h z q;rw[←kG h];exact q
 |cons t ts ih=>exact fun hd h z q=>Fq pr (hd t (.head _)) h (aA ry z) (ih (fun t m=>hd t (.tail _ m)) (dD h) z (fun{c}=>by rw[gv];exact q))
theorem y8{d:Nat}{ts:List U.Tm}{H:AH}{Q:K1}(hd:∀t∈ts,t.dep≤d)(hl:ts.length≤aJ)(hs:(U.bG ts).length≤aJ)(q:∀{c},Q (.lst ((U.iw ts).map aC)) (app H [c])):Fi W (d+2) 66 [.lst (ts.map aC)] H Q:=by
 refine pr.fe Mn rfl ?_;refine jx ⟨by rw[aN];exact hl,?_⟩
 refine RO pr (tb:=[]) hd cW hs fun{c}=>⟨.val,?_⟩;rw[iz];exact q
end
section
variable{W:Wd}{H:AH}{w:Nat}{x:V}{l r:List V}{Q:K1}
theorem rq(hc:aB H w=some (.lst l.reverse))(q:Q (.bool (!e6 l)) H):tc W (.obj w) H Q:=by
 show ob (ob (aB H w) none _) _ _;rw[hc];show Q (.bool (!e6 l.reverse)) H;rw[pv,List.isEmpty_reverse,←pv];exact q
theorem z9(hc:aB H w=some (.lst l)):at_ false H (.obj w) (fun _ c=>kB .pop c)=true:=by
 show ob (aB H w) false _=true;rw[hc];rfl
theorem yy(hc:aB H w=some (.lst (x::l).reverse))(q:Q x (aq H (.lst l.reverse) w)):iW W .pop (.obj w) Q [] H:=Qp hc (by rw[um,kZ,List.getLast?_append];rfl) (by rw[kZ,List.dropLast_concat];exact q)
theorem yu(hc:aB H w=some (.lst l))(z:l.length+r.length≤aJ)(q:Q (.obj w) (aq H (.lst (l++r)) w)):qV .Add (.obj w) H (.lst r) Q:=by
 show ob (aB H w) _ _;rw[hc];exact⟨z,q⟩
variable{u:U.Tm}{k:Nat}
theorem Qb(q:Q (.bool (decide (u=.v k))) H):gU W .Eq (aC u) (.tup [.str [118],.int k]) H Q:=by
 have e:∀{s i t},aC u=.tup (.str s::.int i::t)→decide (u=.v k)=gI s [118] i k t []→gU W .Eq (aC u) (.tup [.str [118],.int k]) H Q:=fun e1 e2=>by
  rw[e2] at q;rw[e1];exact lJ (lj.flat (.inr rfl)) q
 cases u with
 |v m=>exact e rfl (by unfold gI;simp [Int.natCast_inj])
 |c d z=>exact e rfl (by unfold gI;rw[a7 (fun q=>U.Tm.noConfusion q)];cases d<;>rfl)
 |s1 f x=>exact e rfl (by unfold gI;rw[a7 (fun q=>U.Tm.noConfusion q)];rfl)
 |s2 f x y=>exact e rfl (by unfold gI;rw[a7 (fun q=>U.Tm.noConfusion q)];rfl)
theorem Qc(q:Q (.bool (decide (u=.v k))) H):gU W .Eq (.tup [.str [118],.int k]) (aC u) H Q:=by
 have e:∀{s i t},aC u=.tup (.str s::.int i::t)→decide (u=.v k)=gI [118] s k i [] t→gU W .Eq (.tup [.str [118],.int k]) (aC u) H Q:=fun e1 e2=>by
  rw[e2] at q;rw[e1];exact lJ (lj.flat (.inl rfl)) q
 cases u with
 |v m=>exact e rfl (by unfold gI;simp [Int.natCast_inj,eq_comm])
 |c d z=>exact e rfl (by unfold gI;rw[a7 (fun q=>U.Tm.noConfusion q)];cases d<;>rfl)
 |s1 f x=>exact e rfl (by unfold gI;rw[a7 (fun q=>U.Tm.noConfusion q)];rfl)
 |s2 f x y=>exact e rfl (by unfold gI;rw[a7 (fun q=>U.Tm.noConfusion q)];rfl)
theorem Qo{c c':Bool}{z z':Int}(q:Q (.bool (!decide (c=c'∧z=z'))) H):gU W .NotEq (aC (.c c z)) (aC (.c c' z')) H Q:=by
 refine lJ (jK.flat (.inl rfl)) ?_;rw[show gI (if c=true then[97] else[105]) (if c'=true then[97] else[105]) z z' [] []=decide (c=c'∧z=z') by
  unfold gI;by_cases e:z=z'
  ·subst e;rw[a9 rfl];cases c<;>cases c'<;>simp
  ·rw[a7 e,Bool.false_and,Bool.and_false,Bool.false_and];exact(a7 fun q=>e q.2).symm]
 exact q
end
noncomputable def Tl(D:Nat):Nat→List Nat→Prop
 |m,[]=>m≤D+1
 |m,u::l=>u≤m∧Tl D (m+1) l
noncomputable def Sk(D:Nat):List Nat→Prop
 | []=>True
 |t::l=>∃m,t≤m∧Tl D m l
theorem Tl.len{D:Nat}:∀{l:List Nat} {m:Nat},Tl D m l→m+l.length≤D+1
 | [],_,h=>h
 |_::l,m,h=>by have:=Tl.len h.2;rw[dK];omega
theorem Sk.len{D:Nat}:∀{l:List Nat},Sk D l→l.length≤D+2
 | [],_=>bW _
 |t::l,⟨m,_,h⟩=>cI (aA (b9 _ _) (Tl.len h))
section
variable{D t x y:Nat}{l:List Nat}
theorem Sk.start(D:Nat):Sk D [D]:=⟨D,ai _,cB _⟩
theorem Sk.pop(h:Sk D (t::l)):Sk D l:=match l,h with
 | [],_=>bx
 |_::_,⟨m,_,h⟩=>⟨m+1,eI h.1,h.2⟩
theorem Sk.one(h:Sk D (t::l))(e:x≤t):Sk D (x::l):=let ⟨m,a,b⟩:=h;⟨m,aA e a,b⟩
theorem Sk.two(h:Sk D (t::l))(ex:x<t)(ey:y<t):Sk D (y::x::l):=by
 obtain⟨m,a,b⟩:=h
 cases m with
 |zero=>exact absurd (bj ex a) (q5 _)
 |succ m=>exact⟨m,oh (bj ey a),oh (bj ex a),b⟩
end
noncomputable abbrev Qz(t:U.Tm):Prop:=U.af 150000 t
theorem F6{b:U.Bd}(h:U.BQ Qz b):U.BQ (U.Lt (List.range 150001) 100) b:=fun p hp=>⟨⟨fun n q=>m7.mpr (jI ((h p hp).1.lo n q)),(h p hp).1.dp⟩,⟨fun n q=>m7.mpr (jI ((h p hp).2.lo n q)),(h p hp).2.dp⟩⟩
section
variable{b:U.Bd}{S:U.Sb}{t:U.Tm}(M:U.ah b S)(h:U.BQ Qz b)
include M h
theorem z4:b.length≤150001:=by
 have:=U.mQ (r:=List.range 150001) M.nd fun x hx=>by
  obtain⟨p,hp,rfl⟩:=cg.mp hx;exact(F6 h p hp).1.1 p.1 rfl
 rw[aN,jH] at this;exact this
theorem HM(ht:Qz t):(t.app S).dep+2≤aJ:=by
 have h2:=U.zA M (F6 h) t;rw[jH] at h2;exact aA (bp h2 2) (aA (bp (bp ht.dp _) 2) (lz rfl))
end
theorem or3:∀a b c:Bool,((a||b)||c)=(b||(a||c)):=by decide
theorem H7{a s f:Nat}(h:a+s≤f+1)(p:1≤a):s≤f:=gY (aA (Nat.succ_le_of_lt (Nat.lt_add_of_pos_left p)) h)
theorem H8{x s f:Nat}(h:x+1+s≤f+1):x+s≤f:=gY (Nat.succ_add x s▸h)
theorem WB{x y s f:Nat}(h:x+y+1+s≤f+1):y+(x+s)≤f:=by rw[←bP,bR y x];exact H8 h
noncomputable def H9(S:U.Sb)(l:List U.Tm):Nat:=(l.map fun t=>(t.app S).aU).sum
noncomputable def uI(S:U.Sb)(l:List U.Tm):List Nat:=l.map fun t=>(t.app S).dep
noncomputable def rC(S:U.Sb)(k:Nat)(l:List U.Tm):Bool:=l.any fun t=>(t.app S).hasB k
section
variable{W:Wd}(pr:bA W){n a st k:Nat}{b:U.Bd}{S:U.Sb}{H:AH}(M:U.ah b S)(hb:aB H a=some (.dict (dH b) st))(hk:b.at k=none){D:Nat}(hD:D+2≤aJ)
include pr M hb hk hD
theorem Xl{Q:K2}:∀{f:Nat} {todo:List U.Tm} {x y:Option V},H9 S todo≤f→Sk D (uI S todo)→(rC S k todo=true→∀{F c},Q (.ret (.bool true)) F (app H [c]))→(rC S k todo=false→∀{F c},Q .aL F (app H [c]))→
  gH (bC W (n+1) Ep) (aQ W (n+1) EX) (f+1) [some (.obj a),some (.int k),x,some (.obj (aH H)),y] (app H [.lst (todo.map aC).reverse]) Q:=by
 intro f
 induction f with
 |zero=>
  intro todo x y z d q1 q0
  cases todo with
  |nil=>exact rq (l:=[]) cW (q0 rfl)
  |cons t l=>exact absurd (aA (aA (U.Tm.mZ (t.app S)) (aT _ _)) z) (iV 0)
 |succ f ih=>
  intro todo x y z d q1 q0
  cases todo with
  |nil=>exact rq (l:=[]) cW (q0 rfl)
  |cons t l=>
   obtain⟨u,hw⟩:=M.walks t;have eu:t.app S=u.app S:=hw.sat M.sol;have z:(t.app S).aU+H9 S l≤f+1:=z;have d:Sk D ((t.app S).dep::uI S l):=d;have ea:rC S k (t::l)=((u.app S).hasB k||rC S k l):=eu▸rfl;rw[ea] at q1 q0;rw[eu] at z d;refine lQ fun K kk=>rq (l:=aC t::l.map aC) cW (aa (z9 cW) (yy (l:=l.map aC) cW ?_));rw[iz];refine gy pr (iJ hb) hw (Qb ?_);have len:∀{r:List U.Tm} {m:Nat},Sk D (uI S r)→r.length=(l.map aC).reverse.length+m→(l.map aC).reverse.length+m≤aJ:=fun s e=>by
    rw[←e]
    have:=s.len
    rw[uI,aN] at this;exact aA this hD
   cases u with
   |v m=>
    have e:(U.Tm.v m).app S=.v m:=M.id m (hw.free m rfl);rw[e] at q1 q0;by_cases hm:m=k
    ·subst hm;exact aa (a9 rfl) (q1 (by show(m == m||_)=true;rw[ig];rfl))
    ·rw[show(U.Tm.v m).hasB k=false from rJ.mpr hm] at q1 q0
     exact aX (a7 fun q=>hm (U.Tm.v.inj q)) (kk (ih (H7 z (U.Tm.mZ _)) d.pop q1 q0))
   |c b' y'=>exact aX (eF (t:=.c b' y')) (kk (ih (H7 z (U.Tm.mZ _)) d.pop q1 q0))
   |s1 g x=>
    have d:=d.one (x:=(x.app S).dep) (cB _);refine(iM (lp.tup .val) (yu cW (len (r:=x::l) (m:=1) d (by rw[jk,aN];rfl)) ?_))
    rw[iz,show(l.map aC).reverse++[aC x]=((x::l).map aC).reverse from(kZ ..).symm]
    exact kk (ih (todo:=x::l) (H8 z) d q1 q0)
   |s2 g x y=>
    have d:=d.two (x:=(x.app S).dep) (y:=(y.app S).dep) (jI (iS _ _)) (jI (iT _ _));refine(iM (lp.tup .val) (yu cW (len (r:=y::x::l) (m:=2) d (by rw[jk,aN];rfl)) ?_))
    rw[iz,show(l.map aC).reverse++[aC x,aC y]=((y::x::l).map aC).reverse by rw[cO,cO,kZ,kZ,dX];rfl]
    rw[show((U.Tm.s2 g x y).app S).hasB k=((x.app S).hasB k||(y.app S).hasB k) from rfl,or3] at q1 q0
    exact kk (ih (todo:=y::x::l) (WB z) d q1 q0)
omit hD in
theorem Xk(hq:U.BQ Qz b){t:U.Tm}(ht:Qz t){Q:K1}(q:∀{c},Q (.bool ((t.app S).hasB k)) (app H [c])):Fi W (n+2) 70 [.obj a,.int k,aC t] H Q:=by
 have e:rC S k [t]=(t.app S).hasB k:=Bool.or_false _;refine pr.fe Mr rfl ?_;refine dB (lz rfl) (Ex.mk (Xl pr M hb hk (HM M hq ht) (todo:=[t]) (f:=(t.app S).aU) (ai _) (Sk.start _) (fun h=>?_) fun h=>?_))
 ·rw[←e,h] at q;exact q
 ·rw[←e,h] at q;exact q
end
noncomputable def ik(p:U.Tm×U.Tm):V:=.tup [aC p.1,aC p.2]
noncomputable def mH(H:AH)(a:Nat)(b:U.Bd)(st:Nat)(l:List (U.Tm×U.Tm))(g:AH):AH:=aq (app H (.lst (l.map ik).reverse::g)) (.dict (dH b) st) a
section
variable{H g:AH}{a st:Nat}{b:U.Bd}{l:List (U.Tm×U.Tm)}(ha:a<H.length)
include ha
theorem uv:aB (mH H a b st l g) a=some (.dict (dH b) st):=by unfold mH;rw[aj,c7,cJ,List.getElem?_set_self (by rw[a5];exact bj ha (aT _ _))]
theorem zB:aB (mH H a b st l g) (aH H)=some (.lst (l.map ik).reverse):=by unfold mH;rw[aj,c7,cJ,cT,List.getElem?_set_ne (eB ha),mw (ai _),oo];rfl
theorem F7{l':List (U.Tm×U.Tm)}:aq (mH H a b st l g) (.lst (l'.map ik).reverse) (aH H)=mH H a b st l' g:=by unfold mH;rw[c7,c7,c7,cJ,cJ,cT,List.set_comm _ _ (eB ha),BU (h:=ai _),oo];rfl
theorem R5{c:Cell}:app (mH H a b st l g) [c]=mH H a b st l (g++[c]):=by unfold mH;rw[c7,c7,cJ,cJ,cJ,show H++.lst (l.map ik).reverse::(g++[c])=(H++.lst (l.map ik).reverse::g)++[c] by rw[dX];rfl];exact(List.set_append_left _ _ (by rw[a5];exact bj ha (aT _ _))).symm
omit ha in
theorem R6{b':U.Bd}{st':Nat}:aq (mH H a b st l g) (.dict (dH b') st') a=mH H a b' st' l g:=gv
end
inductive Act where
 |skip|fail
 |bind (x:Nat) (r:U.Tm)
 |push (l:List (U.Tm×U.Tm))
noncomputable def act:U.Tm→U.Tm→Act
 | .v x,r=>if r=.v x then .skip else .bind x r
 |r,.v x=>.bind x r
 | .c k z,.c k' z'=>if k=k'∧z=z' then .skip else .fail
 | .s1 f x,.s1 g y=>if f=g then .push [(x,y)] else .fail
 | .s2 f x x2,.s2 g y y2=>if f=g then .push [(x2,y2),(x,y)] else .fail
 |_,_=>.fail
noncomputable def MQ(H:AH)(a:Nat)(b:U.Bd)(S:U.Sb)(st:Nat)(l:List (U.Tm×U.Tm))(g:AH)(K:BT)(Q:K2):Act→Prop
 | .skip=>∀{x y z},K [some (.obj a),x,y,some (.obj (aH H)),z] (mH H a b st l g) Q
 | .fail=>∀{F},Q (.ret (.bool false)) F (mH H a b st l g)
 | .bind x r=>b.at x=none∧Qz r∧((r.app S).hasB x=true→∀{F g},Q (.ret (.bool false)) F (mH H a b st l g))∧((r.app S).hasB x=false→∀{y z v g},K [some (.obj a),y,z,some (.obj (aH H)),v] (mH H a (b++[(x,r)]) (st+1) l g) Q)
 | .push ps=>(ps++l).length≤aJ∧∀{x y z},K [some (.obj a),x,y,some (.obj (aH H)),z] (mH H a b st (ps++l) g) Q
theorem xR{b:U.Bd}{x:Nat}{r:U.Tm}(h:b.at x=none):bc (dH b) (.int (x:Int)) (aC r)=dH (b++[(x,r)]):=by
 rw[ro (bk h)];unfold dH;rw[bt];rfl
section
variable{W:Wd}(pr:bA W){n a st:Nat}{b:U.Bd}{S:U.Sb}{H g:AH}{l:List (U.Tm×U.Tm)}{p q u v:U.Tm}{K:BT}{Q:K2}{x' y' z':Option V}(ha:a<H.length)(M:U.ah b S)(hq:U.BQ Qz b)
include pr ha M hq
theorem Aj{x:Nat}{r:U.Tm}(m:MQ H a b S st l g K Q (if r=.v x then .skip else .bind x r)):aQ W (n+2) (dp 4 pU) [some (.obj a),some (aC (.v x)),some (aC r),some (.obj (aH H)),z'] (mH H a b st l g) (f9 K Q):=by
 refine Qc ?_;by_cases e:r=.v x
 ·rw[aG e] at m;exact aa (a9 e) m
 ·rw[aD e] at m;obtain⟨m1,m2,m3,m4⟩:=m;refine aX (a7 e) (Xk pr M (uv ha) m1 hq m2 fun{c}=>?_);rw[R5 ha];by_cases o:(r.app S).hasB x=true
  ·exact aa o (m3 o)
  ·refine aX (jA.mpr o) (rt (uv ha) (by rw[dH,aN];exact aA (z4 M hq) (lz rfl)) ?_)
   rw[xR m1,R6];exact m4 (jA.mpr o)
theorem SM(w1:U.Walk b p u)(w2:U.Walk b q v)(t1:u.WT)(t2:v.WT)(m:MQ H a b S st l g K Q (act u v)):bC W (n+2) rZ [some (.obj a),x',y',some (.obj (aH H)),z'] (mH H a b st ((p,q)::l) g) (ug (aQ W (n+2) pU) K [some (.obj a),x',y',some (.obj (aH H)),z'] Q):=by
 have hw:=zB (st:=st) (b:=b) (l:=(p,q)::l) (g:=g) ha;refine rq (l:=ik (p,q)::l.map ik) hw (cM 4 (aa (z9 hw) (yy (x:=ik (p,q)) (l:=l.map ik) hw ?_)));rw[F7 ha];refine gy pr (uv ha) w1 (gy pr (uv ha) w2 (dZ ?_));have push:∀{ps:List (U.Tm×U.Tm)} {F:Fa} {r:List V} {Q':K1},(ps++l).length≤aJ→r.length=ps.length→(l.map ik).reverse++r=((ps++l).map ik).reverse→Q' (.obj (aH H)) (mH H a b st (ps++l) g)→qV .Add (.obj (aH H)) (mH H a b st l g) (.lst r) Q':=fun{ps F r Q'} z e1 e2 q'=>by
  refine yu (zB ha) (by rw[e1,jk,aN,bR,←a5];exact z) ?_
  rw[e2,F7 ha];exact q'
 cases hu:u.bN with
 |true=>
  cases u with
  |v x=>exact cY (fun _=>bJ (Aj pr ha M hq m)) fun _=>bJ (Aj pr ha M hq m)
  |c=>cases hu
  |s1=>cases hu
  |s2=>cases hu
 |false=>
  cases hv:v.bN with
  |true=>
   cases v with
   |v x=>
    have e:act u (.v x)=.bind x u:=by cases u<;>first|rfl|cases hu
    rw[e] at m;refine dZ (aa (aE not (cZ.trans hu)) (bJ (Aj pr ha M hq ?_)));rw[aD fun e=>by rw[e] at hu;cases hu]
    exact m
   |c=>cases hv
   |s1=>cases hv
   |s2=>cases hv
  |false=>
   refine aX (cZ.trans hv) (bJ (dZ (aX (cZ.trans hu) ?_)))
   cases u with
   |v=>cases hu
   |c k z=>
    refine aX (eF (t:=.c k z)) (aX (eF (t:=.c k z)) ?_)
    cases v with
    |v=>cases hv
    |s1=>exact m
    |s2=>exact m
    |c k' z'=>
     refine aX (eF (t:=.c k' z')) (Qo ?_);have m:MQ H a b S st l g K Q (if k=k'∧z=z' then .skip else .fail):=m
     by_cases e:k=k'∧z=z'
     ·rw[aG e] at m;exact aX (aE not (a9 e)) m
     ·rw[aD e] at m;exact aa (aE not (a7 e)) m
   |s1 f x=>
    cases v with
    |v=>cases hv
    |c k z=>exact aX (eF (t:=.c k z)) m
    |s2 g' y y2=>exact aX (a7 fun e=>by have h1:f=32:=t1.1;have h2:g'=0∨g'=33:=t2.1;have:=dg e;omega) m
    |s1 g' y=>
     have m:MQ H a b S st l g K Q (if f=g' then .push [(x,y)] else .fail):=m
     by_cases e:f=g'
     ·rw[aG e] at m;exact aa (a9 (aE _ e)) ⟨lz rfl,⟨.val,push (F:=[]) m.1 rfl (by rw[wB,cO,kZ];rfl) m.2⟩⟩
     ·rw[aD e] at m;exact aX (a7 fun z=>e (dg z)) m
   |s2 f x x2=>
    cases v with
    |v=>cases hv
    |c k z=>exact aX (eF (t:=.c k z)) m
    |s1 g' y=>exact aX (a7 fun e=>by have h1:f=0∨f=33:=t1.1;have h2:g'=32:=t2.1;have:=dg e;omega) m
    |s2 g' y y2=>
     have m:MQ H a b S st l g K Q (if f=g' then .push [(x2,y2),(x,y)] else .fail):=m
     by_cases e:f=g'
     ·rw[aG e] at m;exact aa (a9 (aE _ e)) ⟨lz rfl,⟨.val,push (F:=[]) m.1 rfl (by rw[wB,wB,cO,cO,kZ,kZ,dX];rfl) m.2⟩⟩
     ·rw[aD e] at m;exact aX (a7 fun z=>e (dg z)) m
end
noncomputable def qC(S:U.Sb)(l:List (U.Tm×U.Tm)):Nat:=(l.map fun p=>(p.1.app S).aU+(p.2.app S).aU).sum
noncomputable def pF(σ:U.Sb)(l:List (U.Tm×U.Tm)):List Nat:=l.map fun p=>(p.1.app σ).dep
noncomputable def rS(b:U.Bd)(L:List Nat):Nat:=L.countP fun x=>(b.at x).isNone
theorem L7{b:U.Bd}{L:List Nat}{x:Nat}{r:U.Tm}(hx:b.at x=none)(hL:x∈L):rS (b++[(x,r)]) L<rS b L:=by
 refine U.C4 (x:=x) (fun y h=>?_) hL ?_ ?_
 ·rw[U.lq hx] at h;by_cases e:y=x
  ·rw[aG e] at h;exact(ax h).elim
  ·rw[aD e] at h;exact h
 ·rw[hx];rfl
 ·rw[U.lq hx,aG rfl];rfl
theorem XS{b:U.Bd}{x:Nat}{S:U.Sb}{r:U.Tm}(M:U.ah b S)(hx:b.at x=none)(hr:∀m,r=.v m→b.at m=none)(h:(r.app S).hasB x=true)(e:r≠.v x)(σ:U.Sb)(hσ:U.Sat b σ):σ x≠r.app σ:=fun q=>by
 rw[←M.zI hσ r] at q;refine U.Th (U.D1.mp h) (fun q2=>e ?_) q
 cases r with
 |v m=>rw[U.ti,M.id m (hr m rfl)] at q2;exact q2
 |c=>cases q2
 |s1=>cases q2
 |s2=>cases q2
theorem WC{x y:Nat}:x+y+0<x+1+(y+1):=by omega
theorem WD{x y x2 y2:Nat}:x2+y2+(x+y+0)<x+x2+1+(y+y2+1):=by omega
section
variable{b₀ b:U.Bd}{S₀ S:U.Sb}{s t p q u v:U.Tm}{l:List (U.Tm×U.Tm)}
noncomputable def Nx(b₀:U.Bd)(S₀:U.Sb)(s t:U.Tm)(b:U.Bd)(S:U.Sb)(p q:U.Tm)(l:List (U.Tm×U.Tm)):Act→Prop
 | .skip=>U.dN b₀ S₀ s t b S l
 | .fail=>U.eg b₀ s t
 | .bind x r=>b.at x=none∧Qz r∧((r.app S).hasB x=true→U.eg b₀ s t)∧((r.app S).hasB x=false→U.dN b₀ S₀ s t (b++[(x,r)]) (fun n=>(S n).app (U.one x (r.app S))) l∧(∀σ,U.Sat (b++[(x,r)]) σ→U.Sat b σ)∧rS (b++[(x,r)]) (U.bG [s.app S₀,t.app S₀])<rS b (U.bG [s.app S₀,t.app S₀]))
 | .push ps=>U.dN b₀ S₀ s t b S (ps++l)∧qC S (ps++l)<qC S ((p,q)::l)∧∀σ D,U.Sat b σ→Sk D (pF σ ((p,q)::l))→Sk D (pF σ (ps++l))
theorem CW(mid:U.dN b₀ S₀ s t b S ((p,q)::l)){x:Nat}{r:U.Tm}(hx:b.at x=none)(hr:∀m,r=.v m→b.at m=none)(e:r≠.v x)(qr:Qz r)(heq:∀σ,U.Sat b σ→(p.app σ=q.app σ↔σ x=r.app σ))(hin:∀n,n=x∨(r.app S).has n→(p.app S).has n∨(q.app S).has n)(hq:∀Q,U.hJ Q→U.BQ Q b→Q p→Q q→Q (.v x)∧Q r)
  (hd:(p.app S=.v x∧r.app S=q.app S)∨((p.app S).bN=false∧q.app S=.v x∧r.app S=p.app S)):Nx b₀ S₀ s t b S p q l (.bind x r):=
 ⟨hx,qr,fun o=>mid.fails fun σ h z=>XS mid.aw hx hr o e σ h ((heq σ h).mp z),fun o=>
  have nh:¬(r.app S).has x:=fun z=>ax (o.symm.trans (U.D1.mpr z))
  ⟨mid.bound heq hx hr nh hin hq hd,fun σ h=>(((mid.aw.bind hx nh hr).2 σ).mp h).1,L7 hx (U.mG.mpr (.inr ((mid.ins _ (.head _) x (hin x (.inl rfl))).elim (fun z=>⟨_,.head _,z⟩) fun z=>⟨_,.tail _ (.head _),z⟩)))⟩⟩
theorem wy{t:U.Tm}{σ:U.Sb}(h:t.bN=false):(t.app σ).bN=false:=by cases t<;>first|rfl|exact absurd h.symm ax
section
variable(mid:U.dN b₀ S₀ s t b S ((p,q)::l))(w1:U.Walk b p u)(w2:U.Walk b q v)
include mid w1 w2
theorem km(h:∀σ,u.app σ≠v.app σ):U.eg b₀ s t:=mid.fails fun σ hs e=>h σ (by rw[←w1.sat hs,←w2.sat hs];exact e)
theorem CG(h:∀σ,u.app σ=v.app σ):U.dN b₀ S₀ s t b S l:=mid.skip fun σ hs=>by rw[w1.sat hs,w2.sat hs,h]
theorem CF{ps:List (U.Tm×U.Tm)}(nu:u.bN=false)(nv:v.bN=false)(h1:∀σ,u.app σ=v.app σ↔∀r∈ps,r.1.app σ=r.2.app σ)(h2:∀r∈ps,∀n,((r.1.app S).has n→(u.app S).has n)∧((r.2.app S).has n→(v.app S).has n))(h3:∀Q,U.hJ Q→Q u→Q v→∀r∈ps,Q r.1∧Q r.2)(h4:qC S ps<(u.app S).aU+(v.app S).aU)(h5:∀σ D,Sk D ((u.app σ).dep::pF σ l)→Sk D (pF σ (ps++l))):Nx b₀ S₀ s t b S p q l (.push ps):=
 have ep:=w1.sat mid.aw.sol;have eq:=w2.sat mid.aw.sol
 ⟨mid.parts (fun σ h=>by rw[w1.sat h,w2.sat h];exact h1 σ) (fun r m n h=>by rw[ep,eq];exact h.imp (h2 r m n).1 (h2 r m n).2) (fun Q hs hb z1 z2=>h3 Q hs (w1.dA hb z1) (w2.dA hb z2)) (ep▸wy nu) (eq▸wy nv),by
   unfold qC at h4 ⊢;rw[bt,List.sum_append,cO,wG,ep,eq];exact Nat.add_lt_add_right h4 _,fun σ D hs k=>h5 σ D (by rw[←w1.sat hs];exact k)⟩
omit w2 in
theorem wo{x:Nat}(hu:u.bN=false)(w2:U.Walk b q (.v x))(qu:Qz u):Nx b₀ S₀ s t b S p q l (.bind x u):=
 have ep:=w1.sat mid.aw.sol;have eq:q.app S=.v x:=w2.var mid.aw
 CW mid (w2.free x rfl) (fun m e=>absurd (e▸hu:U.Tm.bN (.v m)=false) Bool.noConfusion) (fun e=>absurd (e▸hu:U.Tm.bN (.v x)=false) Bool.noConfusion) qu (fun σ h=>by rw[w1.sat h,w2.sat h];exact eq_comm) (fun n h=>h.elim (fun h=>.inr (by rw[eq,h];exact rfl)) fun h=>.inl (ep▸h)) (fun Q hs hb z1 z2=>⟨w2.dA hb z2,w1.dA hb z1⟩) (.inr ⟨ep▸wy hu,eq,ep.symm⟩)
end
theorem JH(mid:U.dN b₀ S₀ s t b S ((p,q)::l))(w1:U.Walk b p u)(w2:U.Walk b q v)(qu:Qz u)(qv:Qz v):Nx b₀ S₀ s t b S p q l (act u v):=by
 cases u with
 |v x=>
  show Nx b₀ S₀ s t b S p q l (if v=.v x then .skip else .bind x v)
  have ep:p.app S=.v x:=w1.var mid.aw;by_cases e:v=.v x
  ·rw[aG e];exact CG mid w1 w2 fun σ=>by rw[e]
  ·rw[aD e];exact CW mid (w1.free x rfl) w2.free e qv (fun σ h=>by rw[w1.sat h,w2.sat h];exact Iff.rfl) (fun n h=>h.elim (fun h=>.inl (by rw[ep,h];exact rfl)) fun h=>.inr (w2.sat mid.aw.sol▸h)) (fun Q hs hb z1 z2=>⟨w1.dA hb z1,w2.dA hb z2⟩) (.inl ⟨ep,(w2.sat mid.aw.sol).symm⟩)
 |c k z=>
  cases v with
  |v x=>exact wo mid w1 rfl w2 qu
  |s1=>exact km mid w1 w2 nofun
  |s2=>exact km mid w1 w2 nofun
  |c k' z'=>
   show Nx b₀ S₀ s t b S p q l (if k=k'∧z=z' then .skip else .fail)
   by_cases e:k=k'∧z=z'
   ·rw[aG e];exact CG mid w1 w2 fun σ=>by rw[e.1,e.2]
   ·rw[aD e];exact km mid w1 w2 fun σ h=>e (by injection h with h1 h2;exact⟨h1,h2⟩)
 |s1 f x=>
  cases v with
  |v x=>exact wo mid w1 rfl w2 qu
  |c=>exact km mid w1 w2 nofun
  |s2=>exact km mid w1 w2 nofun
  |s1 g y=>
   show Nx b₀ S₀ s t b S p q l (if f=g then .push [(x,y)] else .fail)
   by_cases e:f=g
   ·subst e;rw[aG rfl];refine CF mid w1 w2 rfl rfl (fun σ=>⟨fun h r m=>?_,fun h=>by rw[U.CK,U.CK,show x.app σ=y.app σ from h _ (.head _)]⟩) (fun r m n=>?_) (fun Q hs z1 z2 r m=>?_) (WC (x:=(x.app S).aU) (y:=(y.app S).aU)) fun σ D k=>k.one (cB _)
    ·cases a6.mp m;injection h
    ·cases a6.mp m;exact⟨id,id⟩
    ·cases a6.mp m;exact⟨hs.s1 f x z1,hs.s1 f y z2⟩
   ·rw[aD e];exact km mid w1 w2 fun σ h=>e (by injection h)
 |s2 f x x2=>
  cases v with
  |v x=>exact wo mid w1 rfl w2 qu
  |c=>exact km mid w1 w2 nofun
  |s1=>exact km mid w1 w2 nofun
  |s2 g y y2=>
   show Nx b₀ S₀ s t b S p q l (if f=g then .push [(x2,y2),(x,y)] else .fail)
   by_cases e:f=g
   ·subst e;rw[aG rfl];refine CF mid w1 w2 rfl rfl (fun σ=>⟨fun h r m=>?_,fun h=>by rw[U.wz,U.wz,show x.app σ=y.app σ from h (x,y) (.tail _ (.head _)),show x2.app σ=y2.app σ from h (x2,y2) (.head _)]⟩) (fun r m n=>?_) (fun Q hs z1 z2 r m=>?_) (WD (x:=(x.app S).aU) (y:=(y.app S).aU)) fun σ D k=>k.two (jI (iS _ _)) (jI (iT _ _))
    ·injection h with _ h1 h2;rcases a8.mp m with e|m
     ·rw[e];exact h2
     ·rw[a6.mp m];exact h1
    ·rcases a8.mp m with e|m
     ·rw[e];exact⟨.inr,.inr⟩
     ·rw[a6.mp m];exact⟨.inl,.inl⟩
    ·rcases a8.mp m with e|m
     ·rw[e];exact⟨(hs.s2 f x x2 z1).2,(hs.s2 f y y2 z2).2⟩
     ·rw[a6.mp m];exact⟨(hs.s2 f x x2 z1).1,(hs.s2 f y y2 z2).1⟩
   ·rw[aD e];exact km mid w1 w2 fun σ h=>e (by injection h)
end
section
variable{W:Wd}(pr:bA W){n a:Nat}{H:AH}{b₀:U.Bd}{S₀:U.Sb}{s t:U.Tm}(ha:a<H.length)(hq:U.BQ Qz b₀)(qs:Qz s)(qt:Qz t)
include pr ha hq qs qt
theorem SK{Q:K2}(q1:∀{b S F st g},U.Met b₀ S₀ s t b S→U.BQ Qz b→Q .aL F (mH H a b st [] g))(q0:U.eg b₀ s t→∀{F b st l g},Q (.ret (.bool false)) F (mH H a b st l g)):∀(nf sz:Nat) {b S todo},rS b (U.bG [s.app S₀,t.app S₀])=nf→qC S todo=sz→U.dN b₀ S₀ s t b S todo→(∀σ,U.Sat b σ→Sk ((s.app σ).dep) (pF σ todo))→
  Ex fun k=>∀{x y z st g},gH (bC W (n+2) rZ) (aQ W (n+2) pU) k [some (.obj a),x,y,some (.obj (aH H)),z] (mH H a b st todo g) Q:=by
 intro nf
 induction nf using Nat.strongRecOn with
 |ind nf IH=>
 intro sz
 induction sz using Nat.strongRecOn with
 |ind sz ih=>
 intro b S todo e1 e2 mid sk;obtain⟨bq,tq⟩:=mid.dA Qz (U.yL _) hq qs qt
 cases todo with
 |nil=>exact Ex.mk (v:=1) fun{x y z st g}=>rq (l:=[]) (zB ha) (q1 mid.done bq)
 |cons pq l=>
  obtain⟨p,q⟩:=pq;obtain⟨u,w1⟩:=mid.aw.walks p;obtain⟨v,w2⟩:=mid.aw.walks q;obtain⟨qp,qq⟩:=tq _ (.head _);have qu:=w1.dA bq qp;have qv:=w2.dA bq qq;have nx:=JH mid w1 w2 qu qv;have one:∀{k} (m:∀{st g} {K:BT},(∀{F H},gH (bC W (n+2) rZ) (aQ W (n+2) pU) k F H Q→K F H Q)→MQ H a b S st l g K Q (act u v)),Ex fun k=>∀{x y z st g},gH (bC W (n+2) rZ) (aQ W (n+2) pU) k [some (.obj a),x,y,some (.obj (aH H)),z] (mH H a b st ((p,q)::l) g) Q:=fun{k} m=>Ex.mk (v:=k+1) fun{x y z st g}=>lQ fun K kk=>SM pr ha mid.aw bq w1 w2 qu.wt qv.wt (m kk);have sz_l:qC S l<sz:=by rw[←e2];exact Nat.lt_add_of_pos_left (bj (U.Tm.mZ _) (aT _ _))
  generalize act u v=A at nx one
  cases A with
  |skip=>
   obtain⟨h⟩:=ih _ sz_l e1 rfl nx fun σ h=>(sk σ h).pop;exact one fun kk=>kk h
  |fail=>exact one (k:=0) fun _=>fun{F}=>q0 nx
  |bind x r=>
   obtain⟨h1,h2,h3,h4⟩:=nx
   cases o:(r.app S).hasB x with
   |true=>exact one (k:=0) fun _=>⟨h1,h2,fun o=>q0 (h3 o),fun z=>(by rw[o] at z;cases z)⟩
   |false=>
    obtain⟨m,h5,h6⟩:=h4 o;obtain⟨h⟩:=IH _ (e1▸h6) _ rfl rfl m fun σ h=>(sk σ (h5 σ h)).pop;exact one fun kk=>⟨h1,h2,fun z=>(by rw[o] at z;cases z),fun _=>kk h⟩
  |push ps=>
   obtain⟨m,h5,h6⟩:=nx;have sk':=fun σ h=>h6 σ _ h (sk σ h);obtain⟨h⟩:=ih _ (e2▸h5) e1 rfl m sk';refine one fun kk=>⟨?_,kk h⟩
   have:=(sk' S mid.aw.sol).len
   rw[pF,aN] at this;exact aA this (HM mid.aw bq qs)
theorem GC(M:U.ah b₀ S₀){st:Nat}(hb:aB H a=some (.dict (dH b₀) st)){Q:K1}(q1:∀{b S st g},U.Met b₀ S₀ s t b S→U.BQ Qz b→Q (.bool true) (aq (app H g) (.dict (dH b) st) a))(q0:U.eg b₀ s t→∀{b st g},Q (.bool false) (aq (app H g) (.dict (dH b) st) a)):Fi W (n+3) 71 [.obj a,aC s,aC t] H Q:=by
 refine pr.fe Ms rfl ?_;have e:app H [.lst [ik (s,t)]]=mH H a b₀ st [(s,t)] []:=(kG (iJ hb)).symm;refine dB (lz rfl) ?_;rw[show app H [Cell.lst [.tup [aC s,aC t]]]=mH H a b₀ st [(s,t)] [] from e]
 obtain⟨h⟩:=SK (n:=n) pr ha hq qs qt (Q:=jw (aQ W (n+2) (.cons (.ret (.const (.bool true))) .nil)) (gM Q)) (fun m q=>q1 m q) (fun u=>q0 u) _ _ rfl rfl (.start M s t) fun σ _=>Sk.start _;exact⟨h⟩
end
noncomputable def eM(e:U.Ev):V:=.tup [.str [99,97,108,108],.int e.1,.lst (e.2.map aC)]
noncomputable def eD(l:List Nat):List V:=l.map fun(k:Nat)=>V.int (k:Int)
theorem y7{t:U.Tm}:∀{tb:List Nat},tb.Nodup→(U.bL tb t).2.Nodup:=by
 induction t with
 |v n=>
  intro tb h;rw[U.iv];by_cases m:n∈tb
  ·rw[aG m];exact h
  ·rw[aD m];exact eZ.mpr ⟨h,ba.mpr ⟨dM,dF⟩,fun a ha b hb e=>m ((a6.mp hb)▸e▸ha)⟩
 |c=>exact fun h=>h
 |s1 f x ih=>exact ih
 |s2 f x y i1 i2=>exact fun h=>i2 (i1 h)
theorem y6{ts:List U.Tm}:∀{tb:List Nat},tb.Nodup→(U.bB tb ts).2.Nodup:=by
 induction ts with
 |nil=>exact fun h=>h
 |cons t ts ih=>exact fun h=>ih (y7 h)
section
variable{b:U.Bd}{S:U.Sb}(M:U.ah b S)(h:U.BQ Qz b){ts:List U.Tm}(ht:∀t∈ts,Qz t)
include M h ht
theorem HN{x:Nat}(hx:x∈U.bG (ts.map (U.Tm.app S))):x≤150000:=U.zO M (N:=fun n=>n≤150000) (fun p hp=>⟨(h p hp).1.lo,(h p hp).2.lo⟩) (fun t m=>(ht t m).lo) hx
theorem Ul:(U.bG (ts.map (U.Tm.app S))).length≤150001:=by
 have:=U.mQ (r:=List.range 150001) (y6 (ts:=ts.map (U.Tm.app S)) dF) fun x hx=>m7.mpr (jI (HN M h ht hx))
 rw[jH] at this;exact this
theorem Uk(f:Nat)(evs:List U.Ev)(picks:List Nat):U.BQ Qz (U.event b S f ts evs picks).1:=(U.DO M h (fun _=>.c) fun _ m=>.v (HN M h ht m)).1
end
theorem Lj{m k:Nat}:Int.fmod (m:Int) (k:Int)=((m % k:Nat):Int):=by rw[Int.fmod_eq_emod_of_nonneg _ (eH k)];rfl
theorem fP{α:Type}{l r s:List α}:app (app l r) s=app l (r++s):=by rw[cJ,cJ,cJ,dX]
theorem zW{α β:Type}{f:α→β}{l:List α}:e6 (l.map f)=e6 l:=by cases l<;>rfl
section
variable{W:Wd}(pr:bA W){n a e st:Nat}{b:U.Bd}{S:U.Sb}{H:AH}{Q:K1}
theorem yx{l:List V}{w:Nat}(hc:aB H w=some (.lst l))(q:Q (.bool (!e6 l)) H):tc W (.obj w) H Q:=by
 show ob (ob (aB H w) none _) _ _;rw[hc];exact q
theorem yw{x y:Int}{m k:Nat}(e1:x=m)(e2:y=k)(h:0<k)(q:Q (.int ((m % k:Nat):Int)) H):Seq (Prim W (.bin .Mod) [.int x,.int y] H) Q:=by
 rw[e1,e2];exact fC (q8.int (fu.mpr h)) (by rw[Lj];exact q)
include pr
theorem Am(M:U.ah b S)(hb:aB H a=some (.dict (dH b) st)){d x y:Nat}{F:Fa}(hy:∀{t},ob (aB (dT F x (aC t)) y) none id=some (.obj a))(hx:∀{t},ob (aB (dT F x (aC t)) x) none id=some (aC t)){ts:List U.Tm}(hd:∀t∈ts,(t.app S).dep≤d)(z:ts.length≤aJ){src:V}(hs:src=.tup (ts.map aC)∨∃i,src=.obj i∧aB H i=some (.lst (ts.map aC)))(q:Q (.lst ((ts.map (U.Tm.app S)).map aC)) H):yi (bC W (d+2) (.call 69 (.cons (.var y) (.cons (.var x) .nil)))) x F Q src H:=by
 have z':(ts.map aC).length≤aJ:=by rw[aN];exact z
 rcases hs with rfl|⟨i,rfl,hi⟩
 ·refine⟨z',?_⟩
  have:∀{ts:List U.Tm} {Q:fw},(∀t∈ts,(t.app S).dep≤d)→Q ((ts.map (U.Tm.app S)).map aC) H→oQ (bC W (d+2) (.call 69 (.cons (.var y) (.cons (.var x) .nil)))) x F (ts.map aC) H Q:=fun{ts}=>by
   induction ts with
   |nil=>exact fun _ q=>q
   |cons t ts ih=>exact fun hd q=>bH hy (bH hx (Io pr hb M (hd t (.head _)) (ih (fun t m=>hd t (.tail _ m)) q)))
  exact this hd ⟨.val,q⟩
 ·refine⟨cF hi,z',?_⟩
  have:∀{C:AH→Prop} {ts:List U.Tm} {Q:fw},C H→(∀t∈ts,(t.app S).dep≤d)→Q ((ts.map (U.Tm.app S)).map aC) H→oP C (bC W (d+2) (.call 69 (.cons (.var y) (.cons (.var x) .nil)))) x F (ts.map aC) H Q:=fun{C ts}=>by
   induction ts with
   |nil=>exact fun c _ q=>⟨c,q⟩
   |cons t ts ih=>exact fun c hd q=>⟨c,bH hy (bH hx (Io pr hb M (hd t (.head _)) (ih c (fun t m=>hd t (.tail _ m)) q)))⟩
  exact this (cF hi) hd ⟨.val,q⟩
theorem Ss{d c x y:Nat}{f:Option V→Fa}(hset:∀{t o},dT (f o) x (aC t)=f (some (aC t)))(hx:∀{o},ob (aB (f o) x) none id=o)(hy:∀{o},ob (aB (f o) y) none id=some (.obj c)){Q:K2}:∀{ts:List U.Tm} {H:AH} {tb:List Nat} {o},(∀t∈ts,t.dep≤d)→aB H c=some (.lst (aZ tb))→(U.bB tb ts).2.length<aJ→(∀{o},Q .aL (f o) (aq H (.lst (aZ (U.bB tb ts).2)) c))→cf x (aQ W (d+1) (.cons (.expr (.call 67 (.cons (.var x) (.cons (.var y) .nil)))) .nil)) (ts.map aC) (f o) H Q:=by
 intro ts
 induction ts with
 |nil=>exact fun{H tb o} _ h _ q=>kG h▸q
 |cons t ts ih=>
  intro H tb o hd h z q;refine eO fun K k=>?_;rw[hset];exact bH hx (bH hy (zN pr (hd t (.head _)) h (bb ry z) (k (ih (fun t m=>hd t (.tail _ m)) (dD h) z (fun{o}=>by rw[gv];exact q)))))
theorem xW(M:U.ah b S)(hq:U.BQ Qz b){evs:List U.Ev}{ts:List U.Tm}{picks:List Nat}{src:V}{f:Nat}(hb:aB H a=some (.dict (dH b) st))(he:aB H e=some (.lst (evs.map eM)))(hs:src=.tup (ts.map aC)∨∃i,src=.obj i∧aB H i=some (.lst (ts.map aC)))
  (ht:∀t∈ts,Qz t) (sh:U.fk S ts) (hl:ts.length≤1000) (hp:0<picks.length) (hv:evs.length<1000)
  (q:∀{st g},Q .none (aq (aq (app H g) (.lst ((U.event b S f ts evs picks).2.map eM)) e) (.dict (dH (U.event b S f ts evs picks).1) st) a)):
  Fi W (n+153) 72 [.obj a,.str [99,97,108,108],.int f,src,.obj e,.lst (eD picks)] H Q:=by
 have hae:e≠a:=fun q=>by rw[q,hb] at he;cases he
 have zl:ts.length≤aJ:=aA hl (lz rfl);have hdep:∀t∈ts.map (U.Tm.app S),t.dep≤n+150:=fun t m=>by
  obtain⟨u,hu,rfl⟩:=cg.mp m;exact aA (sh u hu) (b9 _ _)
 have hnl:=Ul M hq ht;have hne:e≠aH H:=fun q=>by rw[aj] at he;exact absurd (dE.mp he).1 (fL.mpr (by rw[q,cT];exact ai _))
 refine pr.fe Mv rfl ?_;refine Am pr M hb (d:=n+150) rfl rfl (fun t m=>aA (sh t m) (b9 _ _)) zl hs (dB (lz rfl) ?_);refine Ss pr (d:=n+151) (c:=aH H) (tb:=[]) (f:=fun o=>[some (.obj a),some (.str [99,97,108,108]),some (.int f),some src,some (.obj e),some (.lst (eD picks)),none,some (.lst ((ts.map (U.Tm.app S)).map aC)),some (.obj (aH H)),o,none]) rfl rfl rfl (fun t m=>eI (hdep t m)) cW (bb hnl (lz rfl)) fun{o}=>?_;rw[iz];refine aa (iL (iJ he)) (y8 pr (d:=n+150) hdep (by rw[aN];exact zl) (aA hnl (lz rfl)) fun{cc}=>iF (iJ (iJ he)) (by rw[aN];exact iU hv (lz rfl)) ?_)
 rw[show evs.map eM++[V.tup [.str [99,97,108,108],.int f,.lst ((U.iw (ts.map (U.Tm.app S))).map aC)]]=((U.event b S f ts evs picks).2).map eM from(bt (f:=eM) (l₁:=evs) (l₂:=[(f,U.iw (ts.map (U.Tm.app S)))])).symm]
 have he3:=dD (y:=.lst ((U.event b S f ts evs picks).2.map eM)) (iJ (y:=cc) (iJ (y:=.lst (aZ (U.bG (ts.map (U.Tm.app S))))) he));have hn3:=gO (y:=.lst ((U.event b S f ts evs picks).2.map eM)) (iJ (y:=cc) (cW (l:=H) (x:=.lst (aZ (U.bG (ts.map (U.Tm.app S))))))) hne;have hb3:=gO (y:=.lst ((U.event b S f ts evs picks).2.map eM)) (iJ (y:=cc) (iJ (y:=.lst (aZ (U.bG (ts.map (U.Tm.app S))))) hb)) hae;have hlen:((U.event b S f ts evs picks).2.map eM).length=evs.length+1:=by rw[aN];exact a5
 have hpl:(eD picks).length=picks.length:=aN _;rw[fP] at he3 hn3 hb3 ⊢;refine ff he3 (yw (aE _ hlen) (aE _ hpl) hp ?_);have hj:(evs.length+1) % picks.length<picks.length:=q4 _ hp;refine bH (show aB (eD picks) _=some (.int (((picks[(evs.length+1) % picks.length]?).getD 0:Nat):Int)) by unfold eD;rw[aj,fI,bh hj];rfl) (yx hn3 ?_)
 have done:U.ix (U.bG (ts.map (U.Tm.app S))) (evs.length+1) picks=none→Q .none (aq (app H ([.lst (aZ (U.bG (ts.map (U.Tm.app S))))]++[cc])) (.lst ((U.event b S f ts evs picks).2.map eM)) e):=fun h=>by
  have q:=q (st:=st) (g:=[.lst (aZ (U.bG (ts.map (U.Tm.app S))))]++[cc]);rw[show(U.event b S f ts evs picks).1=b from aE (U.w4 b (evs.length+1)) h,kG hb3] at q
  exact q
 unfold U.ix at done;generalize hpk:(picks[(evs.length+1) % picks.length]?).getD 0=pk at*;have en:e6 (aZ (U.bG (ts.map (U.Tm.app S))))=e6 (U.bG (ts.map (U.Tm.app S))):=by unfold aZ bX;rw[zW,zW]
 by_cases h0:U.bG (ts.map (U.Tm.app S))=[]
 ·exact aX (by rw[en,h0];rfl) (done (aD fun q=>q.1 h0))
 ·have hpos:0<(U.bG (ts.map (U.Tm.app S))).length:=wD.mpr h0;refine aa (by rw[en,pv];exact aE not (jA.mpr fun q=>h0 (BO.mp q))) ?_
  by_cases hp0:pk=0
  ·exact aX (nR.trans (a7 fun q=>q hp0)) (done (aD fun q=>eb q.2 hp0))
  ·have hx:=bh (q4 pk hpos);have q:=q (st:=st+1) (g:=[.lst (aZ (U.bG (ts.map (U.Tm.app S))))]++[cc]);rw[show(U.event b S f ts evs picks).1=b++[(_,_)] from aE (U.w4 b (evs.length+1)) (show U.ix (U.bG (ts.map (U.Tm.app S))) (evs.length+1) picks=some _ by unfold U.ix;rw[hpk];exact(aG ⟨h0,tZ hp0⟩).trans hx),←xR (U.u5 M (dj hx))] at q
   refine aa (nR.trans (a9 hp0)) (ff he3 (ff hn3 (yw rfl (k:=(U.bG (ts.map (U.Tm.app S))).length) (by unfold aZ bX;rw[aN,aN]) hpos ?_)))
   rw[hlen];refine(eV hn3 (v:=.int ((U.bG (ts.map (U.Tm.app S)))[pk % (U.bG (ts.map (U.Tm.app S))).length]'(q4 pk hpos):Nat)) (by unfold aZ bX;rw[aj,fI,fI,hx];rfl) (rt hb3 (by rw[dH,aN];exact aA (z4 M hq) (lz rfl)) ?_))
   exact q
end
section
variable{α:Type}{l r:List α}{i k:Nat}{x y:α}
theorem dQ(h:aB l i=some x):aB (app l r) i=some x:=by rw[aj] at h ⊢;rw[cJ,oX (dE.mp h).1];exact h
theorem dG:aB (app l r) (aH l+k)=aB r k:=by rw[aj,aj,cJ,cT,mw (aT _ _),og]
theorem JZ(h:i<l.length):aq (app l r) y i=app (aq l y i) r:=by rw[c7,c7,cJ,cJ,List.set_append_left _ _ h]
theorem o5:aq (app l r) y (aH l+k)=app l (aq r y k):=by rw[c7,c7,cJ,cJ,cT,BU _ _ (aT _ _),og]
theorem RC:aH (aq l x i)=aH l:=by rw[cT,cT,c7,List.length_set]
theorem len_app:aH (app l r)=aH l+aH r:=by rw[cT,cT,cT,cJ,a5]
theorem eQ(h:aB l i=some x):i<l.length:=by rw[aj] at h;exact(dE.mp h).1
theorem pj{m:Nat}:jV m=(List.range' 0 m).map fun i:Nat=>V.int (i:Int):=by rw[zP];unfold iI;rw[List.range_eq_range']
theorem xQ{a:Nat}(h:l.drop a=x::r):aB l a=some x∧l.drop (a+1)=r:=by obtain⟨h1,_,h2⟩:=DE (l':=[]) h;exact⟨h1,eY l▸eY r▸h2⟩
end
theorem k7{α:Type}{enc:α→V}{x:Nat}{b:BT}{t:α}{ts:List α}{F:Fa}{H:AH}{Q:K2}{C:AH→Prop}(c:C H)(h:∀K:BT,(∀{F H},gV C x b (ts.map enc) F H Q→K F H Q)→b (dT F x (enc t)) H (f9 K Q)):gV C x b ((t::ts).map enc) F H Q:=⟨c,h _ id⟩
structure Px where
 s0:Cell
 s1:Cell
 s2:Cell
 s3:Cell
 s4:Cell
 fn:V
 cnt:V
 args:List U.Tm
 goals:List (Nat×List U.Tm)
 call:List U.Tm
@[reducible] noncomputable def hA(X:Px)(r:AH):AH:=X.s0::X.s1::X.s2::X.s3::X.s4::.inst 6 [(100897158637842290,X.fn),(5929854835,.tup (X.args.map aC)),(1543761914995,.obj 6),(1526583357044,X.cnt)]::.lst (X.goals.map bE)::.lst (X.call.map aC)::r
@[reducible] noncomputable def hR(X:Px)(b:U.Bd)(st:Nat)(evs:List U.Ev)(ks:List U.Tm)(g:AH):AH:=hA X (.dict (dH b) st::.lst (evs.map eM)::.lst (ks.map aC)::g)
noncomputable def AA(w:List Nat):V:=.tup [.obj 9,.obj 10,.str w]
noncomputable def All(X:Px)(σ:U.Sb):Prop:=X.args.map (U.Tm.app σ)=X.call.map (U.Tm.app σ)
theorem zip_map{σ:U.Sb}{ts:List U.Tm}:∀{us:List U.Tm},ts.length=us.length→((∀p∈ts.zip us,p.1.app σ=p.2.app σ)↔ts.map (U.Tm.app σ)=us.map (U.Tm.app σ)):=by
 induction ts with
 |nil=>exact fun{us} h=>by cases us with|nil=>exact⟨fun _=>rfl,fun _ _ m=>nomatch m⟩|cons u us=>exact nomatch h
 |cons t ts ih=>
  intro us h
  cases us with
  |nil=>exact nomatch h
  |cons u us=>
   rw[BV,List.forall_mem_cons,ih (oq h),cO,cO,List.cons.injEq]
theorem Rx{a k g:Nat}(h:k+100*(g+1)≤1000)(l:a≤100):k+a≤1000∧k+a+100*g≤1000:=⟨aA (cq (aA l (Ba 100 (nB g))) k) h,aA (bS (bP ..)) (aA (cq (aA (bp l _) (bS ((bR ..).trans (kb ..).symm))) k) h)⟩
section
variable{W:Wd}(pr:bA W){n:Nat}{X:Px}{picks:List Nat}
theorem NP{b:U.Bd}{st:Nat}{evs:List U.Ev}{ks:List U.Tm}{g:AH}:8<(hR X b st evs ks g).length:=bj (by decide:8<11) (b9 11 g.length)
include pr
theorem UK{R:U.Tm→Prop}(hS_:U.hJ R)(qa:∀t∈X.args,Qz t∧R t)(qc:∀t∈X.call,Qz t∧R t){ks:List U.Tm}{evs:List U.Ev}{P:V}{Q:K2}:∀{ps i b S st g o},(X.args.zip X.call).drop i=ps→U.ah b S→U.BQ Qz b→U.BQ R b→(∀σ,(U.Sat b σ∧∀p∈ps,p.1.app σ=p.2.app σ)↔All X σ)→
  (∀{b S st g o},U.ah b S→U.BQ Qz b→U.BQ R b→(∀σ,U.Sat b σ↔All X σ)→Q .aL [some (.obj 8),some (.obj 5),some (.obj 7),some P,some (.obj 9),some (.obj 10),o,none] (hR X b st evs ks g))→
  ((∀σ,¬All X σ)→∀{F b st g},Q (.ret (AA [102,97,105,108,101,100])) F (hR X b st evs ks g))→
  cf 6 (aQ W (n+4) EY) ((List.range' i ps.length).map fun i:Nat=>V.int (i:Int)) [some (.obj 8),some (.obj 5),some (.obj 7),some P,some (.obj 9),some (.obj 10),o,none] (hR X b st evs ks g) Q:=by
 intro ps
 induction ps with
 |nil=>exact fun{i b S st g o} _ M hq hr h q1 _=>q1 M hq hr fun σ=>⟨fun s=>(h σ).mp ⟨s,fun _ m=>nomatch m⟩,fun s=>((h σ).mpr s).1⟩
 |cons p ps ih=>
  intro i b S st g o hd M hq hr h q1 q0;obtain⟨d1,d2⟩:=xQ hd;rw[aj] at d1;obtain⟨d3,d4⟩:=List.getElem?_zip_eq_some.mp d1;refine eO fun K k=>?_;refine bH (n7 (aj▸d3)) (bH (n7 (aj▸d4)) ?_);have ra:=qa _ (dj d3);have rc:=qc _ (dj d4);refine GC pr NP hq ra.1 rc.1 M rfl (fun{b' S' st' g'} m hq'=>?_) fun u {b' st' g'}=>q0 fun σ a=>?_
  ·exact k (ih (g:=app g g') d2 m.aw hq' (m.dA R hS_ hr ra.2 rc.2) (fun σ=>.trans (by rw[m.sat,and_assoc,List.forall_mem_cons]) (h σ)) q1 q0)
  ·have z:=(h σ).mpr a;exact u σ z.1 (z.2 p (.head _))
theorem UJ(hp:0<picks.length){x1 x2 x6:Option V}{Q:K2}{q:U.PS}:∀{gs p st g o},U.Calls picks gs p q→U.ah p.b p.S→U.BQ Qz p.b→(∀g∈gs,(∀t∈g.2,Qz t)∧g.2.length≤100)→p.ks.length+100*gs.length≤1000→p.evs.length+gs.length<1000→
  (∀{o st g},U.ah q.b q.S→U.BQ Qz q.b→Q .aL [some (.obj 8),x1,x2,some (.lst (eD picks)),some (.obj 9),some (.obj 10),x6,o] (hR X q.b st q.evs q.ks g))→
  gV (It .lst (.obj 6) (X.goals.map bE)) 7 (aQ W (n+154) EZ) (gs.map bE) [some (.obj 8),x1,x2,some (.lst (eD picks)),some (.obj 9),some (.obj 10),x6,o] (hR X p.b st p.evs p.ks g) Q:=by
 intro gs
 induction gs with
 |nil=>
  intro p st g o C M hq _ _ _ k;cases C;exact⟨cF rfl,k M hq⟩
 |cons a gs ih=>
  intro p st g o C M hq hg z1 z2 k;obtain⟨sh,S2,M2,C⟩:=C;have z:=Rx z1 (hg _ (.head _)).2;rw[dK] at z2;refine k7 (cF rfl) fun K kk=>?_;refine iM (lp.tup .val) ⟨by rw[aN,aN];exact aA z.1 (lz rfl),?_⟩
  rw[←bt];refine xW (a:=8) (e:=9) pr M hq (src:=.tup (a.2.map aC)) rfl rfl (.inl rfl) (hg _ (.head _)).1 sh (aA (hg _ (.head _)).2 (by decide)) hp (bb (aT _ _) z2) fun{st2 g2}=>?_
  exact kk (ih (p:=p.ev a picks S2) (g:=app g g2) C M2 (Uk M hq (hg _ (.head _)).1 a.1 p.evs picks) (fun g m=>hg g (.tail _ m)) (by rw[show(p.ev a picks S2).ks=p.ks++a.2 from rfl,a5];exact z.2) (by rw[show(p.ev a picks S2).evs.length=p.evs.length+1 from a5,hE];exact z2) k)
theorem FQ{H:AH}{Q:K1}{i:Nat}{l:List V}(hc:aB H i=some (.lst l))(q:Q (.obj (aH H)) (app H [.lst l])):Seq (Prim W (.f1 .list) [.obj i] H) Q:=by rw[cT,cJ] at q;exact iM (lp.lst (.cell (aj▸hc)) .cell) q
theorem UI{Q:K1}{R:U.Tm→Prop}(hS_:U.hJ R)(qa:∀t∈X.args,Qz t∧R t)(qc:∀t∈X.call,Qz t∧R t)(qg:∀g∈X.goals,(∀t∈g.2,Qz t)∧g.2.length≤100)(hl:X.args.length=X.call.length)(hl3:X.call.length≤100)(uW:X.goals.length≤2)(hp:0<picks.length)
  (qf:(∀σ,¬All X σ)→∀{b st g},Q (AA [102,97,105,108,101,100]) (hR X b st [] X.call g))
  (qd:∀{b S},U.ah b S→U.BQ R b→(∀σ,U.Sat b σ↔All X σ)→∃q,U.Calls picks X.goals ⟨b,S,X.call,[]⟩ q∧∀{st g},U.ah q.b q.S→U.BQ Qz q.b→Q (AA [100,111,110,101]) (hR X q.b st q.evs q.ks g)):
  Fi W (n+155) 73 [.obj 8,.obj 5,.obj 7,.lst (eD picks)] (hA X [.dict [] 0]) Q:=by
 have ez:(X.args.zip X.call).length=X.call.length:=by rw[List.length_zip,hl,wN]
 refine pr.fe Mw rfl ?_;refine dB (lz rfl) (FQ pr (i:=7) rfl ⟨by rw[aN];exact aA hl3 (lz rfl),?_⟩)
 rw[aN,←ez,pj];refine UK pr (n:=n+150) (evs:=[]) (b:=[]) hS_ qa qc List.drop_zero .nil (fun p hp=>nomatch hp) (fun p hp=>nomatch hp) (fun σ=>.trans ⟨fun h=>h.2,fun h=>⟨(fun _ _ e=>nomatch e),h⟩⟩ (zip_map hl)) (fun{b S st g o} M hq hr sat=>?_) fun no=>qf no;obtain⟨q,C,k⟩:=qd M hr sat;refine⟨cF rfl,UJ pr hp (p:=⟨b,S,X.call,[]⟩) C M hq qg ?_ (bb (bS (cP _)) (bb uW (by decide))) fun M4 hq4=>k M4 hq4⟩
 exact aA (d9 hl3 (dO 100 uW)) (by decide)
end
noncomputable def occs(t:U.Tm):List Nat:=U.Tm.rec (motive:=fun _=>List Nat) (fun n=>[n]) (fun _ _=>[]) (fun _ _ ih=>ih) (fun _ _ _ a b=>a++b) t
theorem zh{t:U.Tm}:(occs t).length≤t.aU:=by
 induction t with
 |v n=>exact ai _
 |c k z=>exact bW _
 |s1 f x ih=>exact eI ih
 |s2 f x y i1 i2=>exact eI (aA (bS a5) (d9 i1 i2))
noncomputable def iZ(tb:List Nat)(k:Nat):List Nat:=if k∈tb then tb else tb++[k]
theorem RM{t:U.Tm}{tb:List Nat}:(U.bL tb t).2=(occs t).foldl iZ tb:=by
 induction t generalizing tb with
 |v n=>show(U.bL tb (.v n)).2=iZ tb n;rw[U.iv];unfold iZ;split<;>rfl
 |c k z=>rfl
 |s1 f x ih=>exact ih
 |s2 f x y i1 i2=>exact i2.trans ((aE (fun tb=>(occs y).foldl iZ tb) i1).trans List.foldl_append.symm)
theorem Tg{t:U.Tm}{k:Nat}:U.br k t=(occs t).count k:=by
 induction t with
 |v n=>
  show U.br k (.v n)=List.count k [n];unfold U.br;rw[List.count_singleton];by_cases e:n=k
  ·rw[aG e,aG (dm.mpr e)]
  ·rw[aD e,aD fun q=>e (dm.mp q)]
 |c=>rfl
 |s1 f x ih=>exact ih
 |s2 f x y i1 i2=>exact(congr (aE _ i1) i2).trans List.count_append.symm
section
variable{W:Wd}{H:AH}{w:Nat}{l r:List V}{x:V}{Q:K1}
theorem HO(hc:aB H w=some (.lst l)):at_ false H (.obj w) (fun _ c=>iB false c fun _=>true)=true:=by
 show ob (aB H w) false _=true;rw[hc];rfl
theorem Qd(hc:aB H w=some (.lst l))(z:l.length+r.length≤aJ)(q:Q .none (aq H (.lst (l++r.reverse)) w)):tJ W (.obj w) (.tup r) H Q:=by
 show ob (aB H w) _ _;rw[hc];exact⟨z,q⟩
theorem Qs{P:Bool→Prop}(hc:aB H w=some (.lst (x::l).reverse))(q:P true):jN (.obj w) H P:=y0 hc (by rw[pv,List.isEmpty_reverse];exact q)
theorem Qq{l:List V}(q:Q (.obj (aH H)) (app H [.lst l.reverse])):Seq (Prim W .listRev [.lst l] H) Q:=by rw[cT,cJ] at q;exact VP (q9.lst .val .cell) q
end
@[reducible] noncomputable def tu(x w:Nat)(A:aK):aK:=.cons (.asg x (.bm .pop (.var w) .nil)) (.cons (.ite (.op (.cmp .Eq) (.cons (.op .sub (.cons (.var x) (.cons (.const (.int 0)) .nil))) (.cons (.const (.str [118])) .nil))) A
 (.cons (.ite (.op (.cmp .Eq) (.cons (.op .sub (.cons (.var x) (.cons (.const (.int 0)) .nil))) (.cons (.const (.str [115])) .nil))) (.cons (.expr (.hZ (.var w) (.op .sub (.cons (.var x) (.cons (.const (.int 2)) .nil))))) .nil) .nil) .nil)) .nil)
section
variable{W:Wd}{n d x w B:Nat}{σ:Type}{I:List Nat→σ→Prop}{hp:σ→List U.Tm→AH}{f:Option V→Fa}{A:aK}{Q:K2}
 (hset:∀{o v},dT (f o) x v=f (some v)) (hx:∀{o},ob (aB (f o) x) none id=o) (hw:∀{o},ob (aB (f o) w) none id=some (.obj d))
 (hd:∀{s l},aB (hp s l) d=some (.lst (l.map aC).reverse)) (hs:∀{s l l'},aq (hp s l) (.lst (l'.map aC).reverse) d=hp s l')
 (step:∀{os s k l} {K:K2},I os s→os.length<B→(∀{s'},I (os++[k]) s'→K .aL (f (some (aC (.v k)))) (hp s' l))→aQ W n A (f (some (aC (.v k)))) (hp s l) K)
include hd hs
theorem Hy{ts l l':List U.Tm}{s:σ}{K:K1}(e:l'=ts++l)(z:l'.length≤aJ)(q:K .none (hp s l')):tJ W (.obj d) (.tup (ts.map aC)) (hp s l) K:=by
 subst e;refine Qd hd (by rw[jk,aN,aN,bR,←a5];exact z) ?_
 rw[←List.reverse_append,←bt,hs];exact q
include hset hx hw
theorem vU{t:U.Tm}{l:List U.Tm}{s:σ}{o:Option V}{K:BT}(q:aQ W n (dp 1 (tu x w A)) (f (some (aC t))) (hp s l) (f9 K Q)):bC W n (.var w) (f o) (hp s (t::l)) (ug (aQ W n (tu x w A)) K (f o) Q):=by
 refine bH hw (Qs (l:=l.map aC) hd (bH hw (aa (z9 hd) (yy (l:=l.map aC) hd ?_))));rw[hs];show aQ W n _ (dT (f o) x (aC t)) _ _;rw[hset];exact q
include step
theorem Hz{t:U.Tm}:∀{l:List U.Tm} {fuel:Nat} {os:List Nat} {s:σ} {o:Option V},I os s→os.length+(occs t).length≤B→l.length+t.aU≤aJ→(∀{s o},I (os++occs t) s→gH (bC W n (.var w)) (aQ W n (tu x w A)) fuel (f o) (hp s l) Q)→gH (bC W n (.var w)) (aQ W n (tu x w A)) (fuel+t.aU) (f o) (hp s (t::l)) Q:=by
 induction t with
 |v k=>exact fun{l fuel os s o} i hB z q=>lQ (k:=fuel) fun K kk=>vU (hp:=hp) (s:=s) hset hx hw hd hs (bH hx (step i hB fun i=>kk (q i)))
 |c b z=>exact fun{l fuel os s o} i hB _ q=>lQ (k:=fuel) fun K kk=>vU (hp:=hp) (s:=s) hset hx hw hd hs (bH hx (aX (cZ (t:=.c b z)) (bH hx (aX (eF (t:=.c b z)) (kk (q (by rw[show occs (.c b z)=[] from rfl,eY];exact i)))))))
 |s1 g y ih=>exact fun{l fuel os s o} i hB z q=>lQ (k:=fuel+y.aU) fun K kk=>vU (hp:=hp) (s:=s) hset hx hw hd hs (bH hx (bH hx (bH hw (aa (HO hd) (bH hx (Hy (hp:=hp) (s:=s) hd hs (ts:=[y]) (l:=l) (l':=y::l) rfl (aA (cq (cI (bW _)) _) z) (kk (ih i hB (aA (cB _) z) q))))))))
 |s2 g y y2 i1 i2=>
  intro l fuel os s o i hB z q;have e:fuel+(y.aU+y2.aU+1)=fuel+y2.aU+y.aU+1:=by rw[bR y.aU,←bP,←bP]
  have hB:os.length+(occs y++occs y2).length≤B:=hB;rw[a5,←bP] at hB;have z1:l.length+1+y.aU≤aJ:=aA (by rw[bP,bR 1,←bP,←bP];exact cI (bP ..▸aT _ _)) (show l.length+(y.aU+y2.aU+1)≤aJ from z)
  show gH _ _ (fuel+(y.aU+y2.aU+1)) _ _ _;rw[e];exact lQ fun K kk=>vU (hp:=hp) (s:=s) hset hx hw hd hs (bH hx (bH hx (bH hw (aa (HO hd) (bH hx (Hy (hp:=hp) (s:=s) hd hs (ts:=[y,y2]) (l:=l) (l':=y::y2::l) rfl (aA (cq y.mZ _) z1) (kk (i1 (l:=y2::l) i (aA (aT _ _) hB) z1 fun i=>i2 i (by rw[a5];exact hB) (aA (cq (aA (b9 _ _) (cB _)) _) z) fun i=>q (by rw[dX] at i;exact i)))))))))
end
section
variable{α:Type}{l r:List α}{x y:α}
theorem eJ:aB (app l (x::r)) (aH l)=some x:=dG (k:=0)
theorem o4:aq (app l (x::r)) y (aH l)=app l (y::r):=o5 (k:=0)
end
noncomputable def fW(f:Nat→V)(tb:List Nat):List (Atom×V):=tb.map fun(n:Nat)=>(Atom.int (n:Int),f n)
theorem pH{f:Nat→V}{tb:List Nat}{n:Nat}:(aR (fW f tb) (.int (n:Int))).isSome=decide (n∈tb):=by
 induction tb with
 |nil=>rfl
 |cons m tb ih=>
  by_cases e:m=n
  ·subst e;exact(aE Option.isSome iD).trans (a9 (.head _)).symm
  ·refine(aE Option.isSome (gA fun q=>e (k9 _ _ q))).trans (ih.trans (l5.mpr ⟨.tail _,fun h=>?_⟩))
   cases h with
   |head=>exact absurd rfl e
   |tail _ h=>exact h
noncomputable def nQ:List Nat→List (Atom×V):=fW fun _=>.bool true
theorem JK{os:List Nat}:(os.foldl iZ []).length≤os.length:=by
 suffices h:∀{tb:List Nat},(os.foldl iZ tb).length≤tb.length+os.length from aA h (bS (cP _))
 induction os with
 |nil=>exact ai _
 |cons k os ih=>
  refine fun{tb}=>aA ih (aA (bp (?_:(iZ tb k).length≤tb.length+1) _) (bS ((bP ..).trans (aE _ (bR ..)))));unfold iZ;split
  ·exact cB _
  ·exact bS a5
section
variable{W:Wd}(pr:bA W){n:Nat}{t:U.Tm}{H:AH}{Q:K1}(ht:t.aU<aJ)
include pr ht
theorem Xa(q:∀{c c'},Q (.obj (aH H+1)) (app H [c,.lst (aZ (U.bL [] t).2),c'])):Fi W (n+2) 14 [aC t] H Q:=by
 have zo:=aA (zh (t:=t)) (dk ht);refine pr.fe ME rfl ?_;refine kD (lz rfl) ?_;refine pr.fe MF rfl ?_;refine jx (dB (lz rfl) (Qq ?_));rw[fP,fP,len_app,len_app];refine Ex.mk (v:=1+t.aU) (Hz (σ:=List Nat×Nat) (B:=t.aU) (d:=aH H+2) (I:=fun os s=>s.1=os.foldl iZ []) (hp:=fun s l=>app H [.dict (nQ s.1) s.2,.lst (aZ s.1),.lst (l.map aC).reverse]) (s:=([],0)) (os:=[]) (f:=fun o=>[some (.lst [aC t]),some (.obj (aH H)),some (.obj (aH H+1)),some (.obj (aH H+2)),o]) (l:=[]) (o:=none)
  rfl rfl rfl dG o5 (fun{os s k l K} i hB q=>?_) rfl (by rw[lX,cP];exact zh) (by rw[lX,cP];exact dk ht) fun{s o} i=>y0 dG ?_)
 ·have hl:=bb (i▸JK) (iU hB ht);obtain⟨tb,st⟩:=s;refine FT eJ ?_;have e:(os++[k]).foldl iZ []=iZ tb k:=by rw[List.foldl_append,←i];rfl
  by_cases m:k∈tb
  ·exact aX (by unfold nQ;rw[pH,a9 m];rfl) (q (s':=(tb,st)) (by rw[e];exact(aG m).symm))
  ·refine aa (by unfold nQ;rw[pH,a7 m];rfl) (rt eJ (by unfold nQ fW;rw[aN];exact dk hl) ?_)
   rw[o4];refine aa (iL (dG (k:=1))) (iF (dG (k:=1)) (by unfold aZ bX;rw[aN,aN];exact hl) ?_)
   rw[o5 (k:=1),ro (Option.not_isSome_iff_eq_none.mp (by unfold nQ;rw[pH,a7 m];nofun))]
   have q:=q (s':=(tb++[k],st+1)) (by rw[e];exact(aD m).symm)
   unfold nQ fW aZ bX at q;rw[bt,bt,bt] at q;exact q
 ·have i:s.1=(occs t).foldl iZ []:=i;have q:=q (c:=.dict (nQ s.1) s.2) (c':=.lst (([]:List U.Tm).map aC).reverse);rw[RM,←i] at q;exact q
end
noncomputable def sH(n:Nat):Option V:=if n=0 then none else some (.int (n:Int))
theorem Tc{n:Nat}:(sH n).getD (.int 0)=.int (n:Int):=by
 unfold sH;split
 ·rename_i e;rw[e];rfl
 ·rfl
section
variable{K X:Type}[DecidableEq K]{l:List (K×X)}{k j:K}{v:X}
theorem SA:aR (l.map fun p=>if p.1=k then(p.1,v) else p) j=if j=k then(aR l k).map fun _=>v else aR l j:=by
 induction l with
 |nil=>by_cases e:j=k;exact(aG e).symm;exact(aD e).symm
 |cons p l ih=>
  obtain⟨i,x⟩:=p;rw[cO];by_cases e:i=k
  ·subst e;rw[aG rfl];by_cases q:j=i
   ·subst q;rw[iD,iD,aG rfl];rfl
   ·rw[gA fun e=>q e.symm,gA fun e=>q e.symm,ih,aD q,aD q]
  ·rw[aD (show ¬(i,x).1=k from e),gA e]
   by_cases q:i=j
   ·subst q;rw[iD,iD,aD e]
   ·rw[gA q,gA q,ih]
theorem ri:aR (bc l k v) j=if j=k then some v else aR l j:=by
 cases h:aR l k with
 |none=>
  rw[ro h,show aR (l++[(k,v)]) j=(aR l j).or (aR [(k,v)] j) by unfold aR;rw[List.find?_append];cases l.find? fun p=>decide (p.1=j)<;>rfl]
  by_cases e:j=k
  ·rw[aG e,e,h,iD];rfl
  ·rw[aD e,gA fun q=>e q.symm];exact Option.or_none
 |some x=>
  have a:(l.any fun p=>decide (p.1=k))=true:=Bool.not_eq_false _▸fun q=>by
   rw[show aR l k=none by unfold aR;rw[BI.mpr (List.any_eq_false.mp q)];rfl] at h
   exact nomatch h
  exact((aE (aR · j) (aG a)).trans SA).trans (by rw[h];rfl)
theorem rj:(bc l k v).length≤l.length+1:=by
 unfold bc;split
 ·rw[aN];exact cB _
 ·rw[a5];exact ai _
end
section
variable{W:Wd}{H:AH}{a st:Nat}{k:Int}{v:V}{kvs:List (Atom×V)}{Q:K1}
theorem HP(hc:aB H a=some (.dict kvs st)):at_ false H (.obj a) (fun _ c=>kB .eP c)=true:=by
 show ob (aB H a) false _=true;rw[hc];rfl
theorem Qe(hc:aB H a=some (.dict kvs st))(q:Q ((aR kvs (.int k)).getD v) H):iW W .eP (.obj a) Q [.int k,v] H:=by
 show ob (aB H a) _ _;rw[hc];exact q
end
structure Ct(os:List Nat)(s:List (Atom×V)×Nat):Prop where
 at_:∀k:Nat,aR s.1 (.int (k:Int))=sH (os.count k)
 len:s.1.length≤os.length
theorem Ct.put{os:List Nat}{kvs:List (Atom×V)}{st k:Nat}(c:Ct os (kvs,st)):Ct (os++[k]) (bc kvs (.int (k:Int)) (.int (((os.count k:Nat):Int)+1)),st+1):=⟨fun j=>by
 rw[ri,List.count_append];by_cases e:j=k
 ·subst e;rw[aG rfl,List.count_singleton_self];rfl
 ·rw[aD fun(q:Atom.int (j:Int)=.int (k:Int))=>e (k9 _ _ q),List.count_singleton,aD fun q=>e (dm.mp q).symm];exact c.at_ j,aA rj (aA (cI c.len) (by rw[a5];exact ai _))⟩
section
variable{W:Wd}(pr:bA W){n:Nat}{t:U.Tm}{H:AH}{Q:K1}(ht:t.aU<aJ)
include pr ht
theorem Tf(q:∀{kvs st c},(∀k:Nat,aR kvs (.int (k:Int))=sH (U.br k t))→Q (.obj (aH H)) (app H [.dict kvs st,c])):Fi W (n+1) 16 [aC t] H Q:=by
 refine pr.fe MG rfl ?_;refine jx (dB (lz rfl) ?_);rw[fP,len_app];refine Ex.mk (v:=1+t.aU) (Hz (σ:=List (Atom×V)×Nat) (B:=t.aU) (d:=aH H+1) (I:=Ct) (hp:=fun s l=>app H [.dict s.1 s.2,.lst (l.map aC).reverse]) (s:=([],0)) (os:=[]) (f:=fun o=>[some (aC t),some (.obj (aH H)),some (.obj (aH H+1)),o]) (l:=[]) (o:=none)
  rfl rfl rfl dG o5 (fun{os s k l K} i hB q=>?_) ⟨fun _=>rfl,ai _⟩ (by rw[lX,cP];exact zh) (by rw[lX,cP];exact dk ht) fun{s o} i=>y0 dG (q fun k=>by rw[Tg];exact i.at_ k))
 obtain⟨kvs,st⟩:=s;refine aa (HP eJ) (Qe eJ ?_);rw[i.at_ k,Tc];refine rt eJ (aA i.len (dk (iU hB ht))) ?_;rw[o4];exact q i.put
end
end Mine
end
section
open PySem PySem.W PySem.Calls PyProof.Rows PySem.SeqAt
namespace Mine
set_option genSizeOf false
set_option genInjectivity false
section
variable(r:Nat→Nat)
mutual
noncomputable def mv:V→V
 | .none=>.none
 | .bool b=>.bool b
 | .int i=>.int i
 | .str s=>.str s
 | .tup l=>.tup (d6 l)
 | .lst l=>.lst (d6 l)
 | .obj i=>.obj (r i)
noncomputable def d6:List V→List V
 | []=>[]
 |x::l=>mv x::d6 l
end
@[reducible] noncomputable def gr{K:Type}(l:List (K×V)):List (K×V):=l.map fun p=>(p.1,mv r p.2)
noncomputable def mc(c:Cell):Cell:=Cell.casesOn (motive:=fun _=>Cell) c (fun l=>.lst (d6 r l)) (fun l st=>.dict (gr r l) st) (fun l st=>.aY (gr r l) st) .set (fun c l=>.inst c (gr r l))
theorem nq:∀{l:List V},(d6 r l).length=l.length
 | []=>rfl
 |_::l=>aE Nat.succ (nq (l:=l))
theorem zM:∀{l:List Atom},d6 r (l.map cG)=l.map cG
 | []=>rfl
 | .int _::l=>aE (List.cons _) (zM (l:=l))
 | .str _::l=>aE (List.cons _) (zM (l:=l))
end
section
variable{r:Nat→Nat}{μ μ1:Mu}{h:Heap}(hr:∀j,μ1.l[j]?=μ.l[r j]?)(hf:∀{a},a∈foot μ1↔a∈foot μ)
include hr hf
mutual
theorem je:∀(v:V) {x:Value},VR μ1 h v x↔VR μ h (mv r v) x
 | .none,_=>.rfl
 | .bool _,_=>.rfl
 | .int _,_=>.rfl
 | .str _,_=>.rfl
 | .tup l,_=>⟨fun⟨e,nf,y,z,q⟩=>⟨e,fun m=>nf (hf.mpr m),y,(nq r).symm▸z,(lP l).mp q⟩,fun⟨e,nf,y,z,q⟩=>⟨e,fun m=>nf (hf.mp m),y,nq r▸z,(lP l).mpr q⟩⟩
 | .lst l,_=>⟨fun⟨e,nf,y,z,q⟩=>⟨e,fun m=>nf (hf.mpr m),y,(nq r).symm▸z,(lP l).mp q⟩,fun⟨e,nf,y,z,q⟩=>⟨e,fun m=>nf (hf.mp m),y,nq r▸z,(lP l).mpr q⟩⟩
 | .obj i,_=>⟨fun⟨⟨a,b⟩⟩=>⟨⟨hr i▸a,b⟩⟩,fun⟨⟨a,b⟩⟩=>⟨⟨(hr i).trans a,b⟩⟩⟩
theorem lP:∀(l:List V) {xs:List Value},aM μ1 h l xs↔aM μ h (d6 r l) xs
 | [],_=>.rfl
 |x::l,_=>⟨fun⟨e,p,q⟩=>⟨e,(je x).mp p,(lP l).mp q⟩,fun⟨e,p,q⟩=>⟨e,(je x).mpr p,(lP l).mpr q⟩⟩
end
theorem HD{l:List (Atom×V)}{cv:List (Atom×Value)}:PR μ1 h l cv↔PR μ h (gr r l) cv:=by
 induction l generalizing cv with
 |nil=>exact⟨fun q=>by cases q;exact .nil,fun q=>by cases q;exact .nil⟩
 |cons p l ih=>exact⟨fun q=>by cases q with|cons a b=>exact .cons ((je hr hf _).mp a) (ih.mp b),fun q=>by cases q with|cons a b=>exact .cons ((je hr hf _).mpr a) (ih.mpr b)⟩
theorem IM{l:List (List Atom×V)}{cv:List (List Atom×Addr×Value)}:TR μ1 h l cv↔TR μ h (gr r l) cv:=by
 induction l generalizing cv with
 |nil=>exact⟨fun q=>by cases q;exact .nil,fun q=>by cases q;exact .nil⟩
 |cons p l ih=>
  have e:mv r (.tup (p.1.map cG))=.tup (p.1.map cG):=aE V.tup (zM r);exact⟨fun q=>by cases q with|cons a k b=>exact .cons ((je hr hf _).mp a) (e▸(je hr hf _).mp k) (ih.mp b),fun q=>by cases q with|cons a k b=>exact .cons ((je hr hf _).mpr a) ((je hr hf _).mpr (e.symm▸k)) (ih.mpr b)⟩
theorem Dl{P:Params}{l:List (Nat×V)}{es:List DictEntry}:FR P μ1 h l es↔FR P μ h (gr r l) es:=by
 induction l generalizing es with
 |nil=>exact⟨fun q=>by cases q;exact .nil,fun q=>by cases q;exact .nil⟩
 |cons p l ih=>
  obtain⟨k,v⟩:=p;exact⟨fun q=>by cases q with|cons o a b=>exact .cons o ((je hr hf _).mp a) (ih.mp b),fun q=>by
   generalize e:gr r ((k,v)::l)=l' at q
   cases q with
   |nil=>cases e
   |cons o a b=>
    injection e with e1 e2;injection e1 with e3 e4;subst e3 e4 e2;exact .cons o ((je hr hf _).mpr a) (ih.mpr b)⟩
theorem C5{W:Wd}{p:Addr×Option Addr}{c:Cell}:CR W μ1 h p c↔CR W μ h p (mc r c):=by
 cases c with
 |lst l=>exact⟨fun⟨e,z,x,q⟩=>⟨e,(nq r).symm▸z,x,(lP hr hf l).mp q⟩,fun⟨e,z,x,q⟩=>⟨e,nq r▸z,x,(lP hr hf l).mpr q⟩⟩
 |dict l st=>exact⟨fun⟨e,d,q⟩=>⟨e,d,(HD hr hf).mp q⟩,fun⟨e,d,q⟩=>⟨e,d,(HD hr hf).mpr q⟩⟩
 |aY l st=>exact⟨fun⟨e,d,q⟩=>⟨e,d,(IM hr hf).mp q⟩,fun⟨e,d,q⟩=>⟨e,d,(IM hr hf).mpr q⟩⟩
 |set q=>exact .rfl
 |inst c l=>
  have e:(gr r l).map (·.1)=l.map (·.1):=fJ;exact⟨fun⟨q,hc,hd,i,f,nd⟩=>⟨q,hc,hd,i,(Dl hr hf).mp f,e.symm▸nd⟩,fun⟨q,hc,hd,i,f,nd⟩=>⟨q,hc,hd,i,(Dl hr hf).mpr f,e▸nd⟩⟩
end
section
variable(σ:List Nat)(m:Nat)
noncomputable def rn(j:Nat):Nat:=(σ[j]?).getD (m+(j-σ.length))
noncomputable def nr(i:Nat):Nat:=if i∈σ then σ.idxOf i else i-m+σ.length
noncomputable def A8(i:Nat):Prop:=i∈σ∨m≤i
variable{σ m}
theorem mY{j i:Nat}(h:σ[j]?=some i):rn σ m j=i:=by unfold rn;rw[h];rfl
theorem vM{j:Nat}:rn σ m (σ.length+j)=m+j:=by unfold rn;rw[oY (aT _ _),og];rfl
variable(hs:∀i∈σ,i<m)
include hs
theorem HW{i:Nat}(h:A8 σ m i):rn σ m (nr σ m i)=i:=by
 unfold nr;by_cases hi:i∈σ
 ·rw[aG hi];exact mY ((bh (jG.mpr hi)).trans (aE some (mz _)))
 ·rw[aD hi,bR,vM];exact Nat.add_sub_cancel' (h.resolve_left hi)
theorem zf(nd:σ.Nodup){j:Nat}:nr σ m (rn σ m j)=j∧A8 σ m (rn σ m j):=by
 unfold nr;rcases Nat.lt_or_ge j σ.length with h|h
 ·rw[mY (bh h),aG (iQ h)];exact⟨(BJ (jG.mpr (iQ h)) nd).mp ((bh (jG.mpr (iQ h))).trans ((aE some (mz _)).trans (bh h).symm)),.inl (iQ h)⟩
 ·obtain⟨k,rfl⟩:=wK h;rw[vM,aD fun q=>eA _ (bb (aT m k) (hs _ q)),og,bR];exact⟨rfl,.inr (aT _ _)⟩
end
structure Bg(σ:List Nat)(H H1 H':AH):Prop where
 len:H'.length+σ.length=H.length+H1.length
 fZ:∀{j:Nat} {c:Cell},H1[j]?=some c→H'[rn σ H.length j]?=some (mc (rn σ H.length) c)
 out:∀{i:Nat} {c:Cell},i∉σ→H[i]?=some c→H'[i]?=some c
noncomputable def tv(σ:List Nat)(H H1:AH)(i:Nat):Cell:=if i∈σ∨H.length≤i then mc (rn σ H.length) ((H1[nr σ H.length i]?).getD (.set [])) else(H[i]?).getD (.set [])
noncomputable def pA(σ:List Nat)(H H1:AH):AH:=(List.range (H.length+(H1.length-σ.length))).map (tv σ H H1)
theorem CU{σ:List Nat}{H H1:AH}{i:Nat}:(pA σ H H1)[i]?=if i<H.length+(H1.length-σ.length) then some (tv σ H H1 i) else none:=by
 unfold pA;by_cases h:i<H.length+(H1.length-σ.length)
 ·rw[fI,BK h,aG h];rfl
 ·rw[aD h];exact oY (by rw[aN,jH];exact lh h)
theorem Ju{σ:List Nat}{H H1:AH}(hs:∀i∈σ,i<H.length)(nd:σ.Nodup)(hl:σ.length≤H1.length){j:Nat}{c:Cell}(h:H1[j]?=some c):(pA σ H H1)[rn σ H.length j]?=some (mc (rn σ H.length) c):=by
 obtain⟨e,i⟩:=zf hs nd (j:=j);have hj:=(dE.mp h).1;rw[CU,aG,tv,aG (show _∨_ from i),e,h]
 ·rfl
 ·rcases Nat.lt_or_ge j σ.length with q|q
  ·rw[mY (bh q)];exact bj (hs _ (iQ q)) (aT _ _)
  ·obtain⟨k,rfl⟩:=wK q;rw[vM];exact Nat.add_lt_add_left (Nat.lt_sub_of_add_lt (bR ..▸hj)) _
theorem CV{σ:List Nat}{H H1:AH}(hs:∀i∈σ,i<H.length)(nd:σ.Nodup)(hl:σ.length≤H1.length):Bg σ H H1 (pA σ H H1):=⟨by
 unfold pA;rw[aN,jH,bP,wV hl],Ju hs nd hl,fun{i c} n h=>by
 have hi:=(dE.mp h).1;rw[CU,aG (bj hi (aT _ _)),tv,aD fun q=>q.elim n (Nat.not_le_of_lt hi),h];rfl⟩
noncomputable def ip(l:List (Addr×Option Addr))(i:Nat):Addr×Option Addr:=(l[i]?).getD (0,none)
noncomputable def zi(σ:List Nat)(l:List (Addr×Option Addr)):List (Addr×Option Addr):=((List.range l.length).filter fun i=>decide (i∉σ)).map (ip l)
section
variable{σ:List Nat}{l new:List (Addr×Option Addr)}(hs:∀i∈σ,i<l.length)
theorem yE{i:Nat}{p:Addr×Option Addr}(h:l[i]?=some p):ip l i=p:=by unfold ip;rw[h];rfl
include hs
theorem xF(nd:σ.Nodup):(σ.map (ip l)++zi σ l).Perm l:=by
 have p:(σ++(List.range l.length).filter fun i=>decide (i∉σ)).Perm (List.range l.length):=(List.perm_ext_iff_of_nodup (eZ.mpr ⟨nd,BB _ List.nodup_range,fun a ha b hb e=>(show b∉σ from c6 (fz.mp hb).2) (e▸ha)⟩) List.nodup_range).mpr fun a=>
  ⟨fun h=>(b6.mp h).elim (fun h=>m7.mpr (hs a h)) fun h=>(fz.mp h).1,fun h=>b6.mpr ((ml (a∈σ)).imp id fun q=>fz.mpr ⟨h,a9 q⟩)⟩
 have e:(List.range l.length).map (ip l)=l:=BH fun i=>by
  rw[fI];by_cases h:i<l.length
  ·rw[BK h,bh h];exact aE some (yE (bh h))
  ·rw[oY (by rw[jH];exact lh h),oY (lh h)]
   rfl
 have p:=p.map (ip l);rw[e,bt] at p;exact p
theorem uA{j:Nat}:(σ.map (ip l)++new)[j]?=(l++new)[rn σ l.length j]?:=by
 rcases Nat.lt_or_ge j σ.length with h|h
 ·have hi:=hs _ (iQ h);rw[mY (bh h),oX (by rw[aN];exact h),oX hi,fI,bh h,bh hi]
  exact aE some (yE (bh hi))
 ·obtain⟨k,rfl⟩:=wK h;rw[vM,mw (by rw[aN];exact h),mw (aT _ _),aN,og,og]
end
theorem uR{g:List Addr}{c u l new:List (Addr×Option Addr)}{st st':Nat→Nat}(p:(c++u).Perm l):(foot ⟨g++u.flatMap adr,c++new,st⟩).Perm (foot ⟨g,l++new,st'⟩):=by
 show((g++u.flatMap adr)++(c++new).flatMap adr).Perm (g++(l++new).flatMap adr);rw[dX,tR,tR,←dX (u.flatMap adr)];have p:=p.flatMap_right adr;rw[tR] at p;exact((List.perm_append_comm.trans p).append_right _).append_left _
theorem Hu{r:Nat→Nat}{c:Cell}:stampOf (mc r c)=stampOf c:=by cases c<;>rfl
section
variable{W:Wd}{σ:List Nat}{H H1:AH}{μ:Mu}{h:Heap}(nd:σ.Nodup)(hl:H1.length=σ.length)(hc:∀{j i:Nat},σ[j]?=some i→∃c,H1[j]?=some c∧H[i]?=some (mc (rn σ H.length) c))
noncomputable def mL(σ:List Nat)(μ:Mu):Mu:=⟨μ.g++(zi σ μ.l).flatMap adr,σ.map (ip μ.l)++[],fun j=>μ.st (rn σ μ.l.length j)⟩
noncomputable def mK(σ:List Nat)(μ μ1:Mu)(new:List (Addr×Option Addr)):Mu:=⟨μ.g,μ.l++new,fun i=>if i∈σ∨μ.l.length≤i then μ1.st (nr σ μ.l.length i) else μ.st i⟩
include hc in
theorem xp:∀i∈σ,i<H.length:=fun i hi=>by
 obtain⟨j,hj⟩:=iR.mp hi;obtain⟨c,_,h⟩:=hc hj;exact(dE.mp h).1
include nd hl hc
theorem L5(N:aW W μ H h):aW W (mL σ μ) H1 h:=by
 have hs:∀i∈σ,i<μ.l.length:=fun i m=>N.len▸xp hc i m;have fp:(foot (mL σ μ)).Perm (foot ⟨μ.g,μ.l++[],μ.st⟩):=uR (xF hs nd);rw[eY] at fp;have hr:∀j,(mL σ μ).l[j]?=μ.l[rn σ μ.l.length j]?:=fun j=>(uA hs (new:=[])).trans (by rw[eY])
 refine⟨N.base,fun a m=>N.fresh a (fp.mem_iff.mp m),fp.nodup_iff.mpr N.apart,fun a m=>N.alive a (fp.mem_iff.mp (gX _ m)),?_,fun{j c} e=>?_⟩
 ·show(σ.map _++[]).length=_;rw[eY,aN,hl]
 ·have hj:j<σ.length:=hl▸(dE.mp e).1;obtain⟨c',e',hi⟩:=hc (bh hj);cases e.symm.trans e';rw[←N.len] at hi;obtain⟨hp,cr,st⟩:=N.cS hi;have ej:=mY (m:=μ.l.length) (bh hj);exact⟨(hr j).trans (ej.symm▸hp),(C5 hr fp.mem_iff).mpr cr,fun k q=>(aE μ.st ej).trans (st k (Hu.trans q))⟩
theorem L6{H1':AH}{μ1:Mu}{s s':Shared}(N:aW W μ H s.heap)(S:bO W (mL σ μ) s H1' μ1 s'){new:List (Addr×Option Addr)}(en:σ.map (ip μ.l)++new=μ1.l)(hl':σ.length≤H1'.length):bO W μ s (pA σ H H1') (mK σ μ μ1 new) s'∧(∀j,μ1.l[j]?=(mK σ μ μ1 new).l[rn σ H.length j]?)∧∀{a},a∈foot μ1↔a∈foot (mK σ μ μ1 new):=by
 have hsH:=xp hc;have hs:∀i∈σ,i<μ.l.length:=fun i m=>N.len▸hsH i m;have cp:=xF hs nd;have fp:(foot (mL σ μ)).Perm (foot ⟨μ.g,μ.l++[],μ.st⟩):=uR cp;rw[eY] at fp;have fp':(foot μ1).Perm (foot (mK σ μ μ1 new)):=by
  have e:foot μ1=foot ⟨μ.g++(zi σ μ.l).flatMap adr,σ.map (ip μ.l)++new,μ1.st⟩:=by unfold foot;rw[S.E.gs,en];rfl
  rw[e];exact uR cp
 have hr':∀j,μ1.l[j]?=(mK σ μ μ1 new).l[rn σ H.length j]?:=fun j=>by rw[←en,←N.len];exact uA hs
 have bg:=CV (H:=H) (H1:=H1') hsH nd hl';have gh:∀{i p},i∉σ→μ.l[i]?=some p→∀a∈adr p,a∈(mL σ μ).g:=fun{i p} n hp a ha=>jl _ (kY.mpr ⟨p,cg.mpr ⟨i,fz.mpr ⟨m7.mpr (dE.mp hp).1,a9 n⟩,yE hp⟩,ha⟩);have E:Ext μ s.heap (mK σ μ μ1 new) s'.heap:=⟨oe _ _,rfl,fun a ha=>(S.E.new a (fp'.mem_iff.mpr ha)).imp fp.mem_iff.mp id,fun b o e n1 n2=>S.E.keep b o e (fun m=>n1 (fp.mem_iff.mp m)) n2,fun b o e=>(let ⟨⟨x,y⟩⟩:=S.E.live b o e;⟨⟨x,fun m=>y (fp.mem_iff.mpr m)⟩⟩),fun i p hp=>by
   by_cases hi:i∈σ
   ·have ej:=HW hs (m:=μ.l.length) (.inl hi)
    have:=S.E.eT (nr σ μ.l.length i) p ((uA hs (new:=[])).trans (by rw[eY,ej];exact hp))
    rw[show(mL σ μ).st (nr σ μ.l.length i)=μ.st i from aE μ.st ej] at this
    rw[show(mK σ μ μ1 new).st i=μ1.st (nr σ μ.l.length i) from aG (.inl hi)]
    exact this
   ·rw[show(mK σ μ μ1 new).st i=μ.st i from aD fun q=>q.elim hi (Nat.not_le_of_lt (dE.mp hp).1)]
    exact⟨ai _,fun _ o e=>S.E.gk _ (gh hi hp _ (.head _)) o e⟩,fun a m o e=>S.E.gk a (gX _ m) o e⟩
 refine⟨⟨S.g,S.o,E,S.N.base,fun a m=>S.N.fresh a (fp'.mem_iff.mpr m),fp'.nodup_iff.mp S.N.apart,fun a m=>S.N.iA a (S.E.gs▸gX _ m),?_,fun{i c} e=>?_⟩,hr',fp'.mem_iff⟩
 ·have h1:=bg.len;have h2:=S.N.len;rw[←en,a5,aN] at h2;show(μ.l++new).length=_;rw[a5,N.len];exact BY (m:=σ.length) (by rw[h1,←h2,bP,bR new.length])
 ·by_cases hi:i∈σ∨H.length≤i
  ·have ej:=HW hsH (m:=H.length) hi;have hlt:nr σ H.length i<H1'.length:=by
    have h3:=(dE.mp e).1;have h4:=bg.len;unfold nr;split
    ·rename_i q;exact bj (jG.mpr q) hl'
    ·rename_i q;have:=hi.resolve_left q;omega
   have h5:=bh hlt;have h6:=bg.fZ h5;rw[ej,e] at h6;cases h6;obtain⟨hp,cr,st⟩:=S.N.cS h5;refine⟨ej▸(hr' _).symm.trans hp,(C5 hr' fp'.mem_iff).mp cr,fun k q=>?_⟩;rw[←N.len] at hi;exact(aG hi).trans (N.len.symm▸st k (Hu.symm.trans q))
  ·have hm:i<H.length:=Bc fun q=>hi (.inr q);have e':=bg.out (fun q=>hi (.inl q)) (bh hm);cases e.symm.trans e';exact(N.cS (bh hm)).kp (E.kp .none) (fun p hp a ha o q=>S.E.gk a (gh (fun z=>hi (.inl z)) hp a ha) o q) (aD (N.len.symm▸hi))
theorem frame{n f:Nat}{vs:List V}{Q:K1}(q:Fi W n f vs H1 fun v H1'=>∀{H'},Bg σ H H1' H'→Q (mv (rn σ H.length) v) H'):Fi W n f (d6 (rn σ H.length) vs) H Q:=by
 rw[pK] at q ⊢;intro a ha A s μ cvs R ok hv k;have hsH:=xp hc;have hs:∀i∈σ,i<μ.l.length:=fun i m=>ok.N.len▸hsH i m;have fp:(foot (mL σ μ)).Perm (foot ⟨μ.g,μ.l++[],μ.st⟩):=uR (xF hs nd);rw[eY] at fp;refine q ha ⟨ok.wk,ok.rm,L5 nd hl hc ok.N⟩ ((lP (fun j=>(uA hs (new:=[])).trans (by rw[eY,ok.N.len])) fp.mem_iff _).mpr hv) fun{v H1'} qv {cv s' μ1} S hvr=>?_
 obtain⟨new,en⟩:=S.E.pre;have en:σ.map (ip μ.l)++new=μ1.l:=by rw[←en];show _=(σ.map (ip μ.l)++[])++new;rw[eY]
 have hl':σ.length≤H1'.length:=by rw[←S.N.len,←en,a5,aN];exact aT _ _
 obtain⟨S',hr',hf'⟩:=L6 nd hl hc ok.N S en hl';exact k (qv (CV hsH nd hl')) S' ((je hr' hf' v).mp hvr)
end
end Mine
end
section
open PySem PySem.W
namespace Mine
set_option genSizeOf false
set_option genInjectivity false
noncomputable def fY(k:Nat)(kd:List Nat)(sl:Nat)(first:List Nat)(l c:Nat):List (Nat×V):=[(24535410,.int (k:Int)),(6097038948,.str kd),(6231453556,.int (sl:Int)),(1539367400308,.str first),(410592219326053,.bool false),(6721636927027383591276,.int ((l:Int)-1)),(1526583357044,.int (c:Int)),(433293403150942252400209515,.int 0),(1720739053318992903368299,.int ((l-1:Nat):Int))]
noncomputable def bD(A:Nat→Nat):List Nat→List (Atom×V):=fW fun k=>.obj (A k+5)
structure Sv(K:List Nat)(C L:Nat→Nat)(Kd:Nat→List Nat)(Sl A:Nat→Nat)(r:AH):Prop where
 at_:∀{k},k∈K→∃first,first≠[103,111,97,108,95,97,114,103]∧aB r (A k)=some (.inst 7 (fY k (Kd k) (Sl k) first (L k) (C k)))
 inj:∀{j k},j∈K→k∈K→A j=A k→j=k
 nd:K.Nodup
 lt:∀{k},k∈K→k<60
 mem:∀{k},k∈K↔C k≠0
noncomputable def TO(c:Cell):Bool:=rV true c fun _ _=>false
noncomputable def mr(r r':AH):Prop:=∀{i x},aB r i=some x→TO x=true→aB r' i=some x
theorem mr.trans{r r' r'':AH}(a:mr r r')(b:mr r' r''):mr r r'':=fun h n=>b (a h n) n
noncomputable def up{α:Type}(f:Nat→α)(k:Nat)(x:α):Nat→α:=fun j=>if j=k then x else f j
section
variable{α:Type}{f:Nat→α}{k j:Nat}{x:α}
theorem up_eq:up f k x k=x:=aG rfl
theorem fH(h:j≠k):up f k x j=f j:=aD h
end
section
variable{K:List Nat}{C L:Nat→Nat}{Kd:Nat→List Nat}{Sl A:Nat→Nat}{r:AH}{k:Nat}{first:List Nat}(s:Sv K C L Kd Sl A r)
theorem k5(h:k∈K):aR (bD A K) (.int (k:Int))=some (.obj (A k+5)):=by
 induction K with
 |nil=>cases h
 |cons m l ih=>
  by_cases e:m=k
  ·subst e;exact iD
  ·exact(gA fun q=>e (k9 _ _ q)).trans (ih ((a8.mp h).resolve_left fun q=>e q.symm))
theorem LC(h:k∉K){a:Nat}:bc (bD A K) (.int (k:Int)) (.obj (a+5))=bD (up A k a) (K++[k]):=by
 unfold bD;rw[ro (Option.not_isSome_iff_eq_none.mp (by rw[pH,a7 h];nofun))]
 unfold fW;rw[bt];exact congr (aE _ (g8 fun j m=>aE (fun n=>(Atom.int (j:Int),V.obj (n+5))) (fH fun e:j=k=>h (e▸m)).symm)) (aE (fun n=>[(Atom.int (k:Int),V.obj (n+5))]) up_eq.symm)
include s
theorem Sv.len:K.length≤60:=by
 have:=U.mQ (r:=List.range 60) s.nd fun x hx=>m7.mpr (s.lt hx)
 rw[jH] at this;exact this
theorem Sv.set(hk:k∈K)(hf:first≠[103,111,97,108,95,97,114,103]){kd:List Nat}{sl l c:Nat}(hc:c≠0):Sv K (up C k c) (up L k l) (up Kd k kd) (up Sl k sl) A (aq r (.inst 7 (fY k kd sl first l c)) (A k)) where
 at_:=fun{j} hj=>by
  by_cases e:j=k
  ·subst e;obtain⟨_,_,h⟩:=s.at_ hj;rw[up_eq,up_eq,up_eq,up_eq];exact⟨first,hf,dD h⟩
  ·obtain⟨f,h1,h⟩:=s.at_ hj;rw[fH e,fH e,fH e,fH e];exact⟨f,h1,gO h fun q=>e (s.inj hj hk q.symm)⟩
 inj:=s.inj
 nd:=s.nd
 lt:=s.lt
 mem:=fun{j}=>by
  by_cases e:j=k
  ·subst e;rw[up_eq];exact⟨fun _=>hc,fun _=>hk⟩
  ·rw[fH e];exact s.mem
omit s in
theorem QU{fl:List (Nat×V)}{c:Cell}{i:Nat}(h:aB r i=some (.inst 7 fl)):mr r (aq r c i):=fun{j x} hx n=>gO hx fun e=>by
 subst e;rw[h] at hx;cases hx;cases n
theorem Sv.new(hk:k∉K)(h60:k<60)(hf:first≠[103,111,97,108,95,97,114,103]){kd:List Nat}{sl l c:Nat}(hc:c≠0):Sv (K++[k]) (up C k c) (up L k l) (up Kd k kd) (up Sl k sl) (up A k (aH r)) (app r [.inst 7 (fY k kd sl first l c)]) where
 at_:=fun{j} hj=>by
  by_cases e:j=k
  ·subst e;rw[up_eq,up_eq,up_eq,up_eq,up_eq];exact⟨first,hf,cW⟩
  ·obtain⟨f,h1,h⟩:=s.at_ ((b6.mp hj).resolve_right fun q=>e (a6.mp q));rw[fH e,fH e,fH e,fH e,fH e];exact⟨f,h1,iJ h⟩
 inj:=fun{i j} hi hj=>by
  have lt:∀{i},i∈K→A i≠aH r:=fun m q=>by
   obtain⟨_,_,h⟩:=s.at_ m;exact eA _ (bj (eQ h) (by rw[q,cT];exact ai _))
  by_cases e:i=k
  ·by_cases e':j=k
   ·exact fun _=>e.trans e'.symm
   ·rw[e,up_eq,fH e'];exact fun q=>absurd q.symm (lt ((b6.mp hj).resolve_right fun q=>e' (a6.mp q)))
  ·have hi:=(b6.mp hi).resolve_right fun q=>e (a6.mp q);by_cases e':j=k
   ·rw[e',up_eq,fH e];exact fun q=>absurd q (lt hi)
   ·rw[fH e,fH e'];exact s.inj hi ((b6.mp hj).resolve_right fun q=>e' (a6.mp q))
 nd:=eZ.mpr ⟨s.nd,ba.mpr ⟨dM,dF⟩,fun a ha b hb e=>hk ((a6.mp hb)▸e▸ha)⟩
 lt:=fun hj=>(b6.mp hj).elim s.lt fun q=>(a6.mp q)▸h60
 mem:=fun{j}=>by
  by_cases e:j=k
  ·subst e;rw[up_eq];exact⟨fun _=>hc,fun _=>jl _ (.head _)⟩
  ·rw[fH e];exact⟨fun m=>s.mem.mp ((b6.mp m).resolve_right fun q=>e (a6.mp q)),fun m=>gX _ (s.mem.mpr m)⟩
end
section
variable{W:Wd}{H:AH}{i a c:Nat}{fl:List (Nat×V)}{v:V}{F:Fa}
theorem gB{Q:K2}(hc:aB H i=some (.inst c fl))(h:fU c a=false)(z:Nat.ble (aH fl) 800=true)(q:Q .aL F (aq H (.inst c (pM fl a v)) i)):oy a (.obj i) v F H Q:=by
 show ob (aB H i) _ _;rw[hc];show Sel (fU c a) _ (Sel _ _ _);rw[h,z];exact q
theorem Jg(hc:aB H i=some (.inst c fl))(h:fU c a=false):atC H a (.obj i)=eN fl a:=by
 show ob (aB H i) _ _=_;rw[hc];show Bool.rec (motive:=fun _=>Option V) _ _ (fU c a)=_;rw[h]
theorem QZ{u:V}{op:Operator}{e:ET}{Q:K2}{o:Option V}(h:atC H a u=o)(q:ob o False fun v=>e F H (Ew a op u v F Q)):yh a op e F Q u H:=by
 unfold yh;rw[h];exact q
end
theorem Fi.mono{W:Wd}{n f:Nat}{vs:List V}{H:AH}{Q Q':K1}(q:Fi W n f vs H Q)(k:∀v H,Q v H→Q' v H):Fi W n f vs H Q':=by rw[pK];exact xZ q k
theorem Jt{i:Nat}{H H':AH}{c:Cell}(hi:i<H.length)(b:Bg [i] H [c] H'):H'=aq H (mc (rn [i] H.length) c) i:=BH fun j=>by
 rw[c7];by_cases e:i=j
 ·subst e;rw[List.getElem?_set_self hi];exact b.fZ (j:=0) rfl
 ·rw[List.getElem?_set_ne e];by_cases l:j<H.length
  ·rw[bh l];exact b.out (fun m=>e (a6.mp m).symm) (bh l)
  ·rw[oY (lh l),oY (aA (bS (BY b.len)) (lh l))]
theorem Dm{W:Wd}{n f i:Nat}{vs:List V}{H:AH}{c:Cell}{Q:K1}(hc:aB H i=some (mc (rn [i] H.length) c))(q:Fi W n f vs [c] fun v H1=>Ex fun c'=>au (H1=[c']) (Q (mv (rn [i] H.length) v) (aq H (mc (rn [i] H.length) c') i))):Fi W n f (d6 (rn [i] H.length) vs) H Q:=
 frame (σ:=[i]) (ba.mpr ⟨dM,dF⟩) (H1:=[c]) rfl (fun{j k} e=>by
  cases j with
  |zero=>cases e;exact⟨c,rfl,aj▸hc⟩
  |succ j=>cases e) (q.mono fun v H1 x {H'} b=>by
  obtain⟨⟨rfl,x⟩⟩:=x;rw[Jt (eQ hc) b];exact x)
@[reducible] noncomputable def hD(B0 B1 B2:Cell)(kvs:List (Atom×V))(st:Nat)(r:AH):AH:=B0::B1::B2::.inst 9 [(1552335400819,.obj 4)]::.dict kvs st::r
theorem vh{α:Type}{k:Nat}{x:α}:up (fun _=>x) k x=fun _=>x:=funext fun j=>by unfold up;split<;>rfl
noncomputable def f5(C f:Nat→Nat)(j:Nat):Nat:=C j+f j
noncomputable def eU(L f:Nat→Nat)(p j:Nat):Nat:=if f j=0 then L j else p
noncomputable def sg(k c j:Nat):Nat:=if j=k then c else 0
section
variable{C L f g h:Nat→Nat}{k c p:Nat}
theorem XU:up C k (C k+c)=f5 C (sg k c):=funext fun j=>by
 unfold up f5 sg;by_cases e:j=k
 ·rw[aG e,aG e,e]
 ·rw[aD e,aD e];rfl
theorem XW(hc:c≠0):up L k p=eU L (sg k c) p:=funext fun j=>by
 unfold up eU sg;by_cases e:j=k
 ·rw[aG e,aG e,aD hc]
 ·rw[aD e,aD e,aG rfl]
theorem Bw(e:∀j,f j+g j=h j):f5 (f5 C f) g=f5 C h:=funext fun j=>(bP ..).trans (aE (C j+·) (e j))
theorem By(e:∀j,f j+g j=h j):eU (eU L f p) g p=eU L h p:=funext fun j=>by
 unfold eU;rw[←e j];by_cases a:f j=0
 ·rw[aG a,a,cP]
 ·rw[aD a,aD fun z=>a (qx z)];split<;>rfl
theorem Bv(e:∀j,f j=0):f5 C f=C:=funext fun j=>by unfold f5;rw[e];rfl
theorem Bx(e:∀j,f j=0):eU L f p=L:=funext fun j=>aG (e j)
end
section
variable{W:Wd}(pr:bA W){n k p c st:Nat}{B0 B1 B2:Cell}{r:AH}{first:List Nat}{Q:K1}
theorem GD{kvs:List (Atom×V)}{a sl l0 c0:Nat}{kd:List Nat}{x2 x6:Option V}(hk:aR kvs (.int (k:Int))=some (.obj (a+5)))(h:aB r a=some (.inst 7 (fY k kd sl first l0 c0)))(q:Q .none (hD B0 B1 B2 kvs st (aq r (.inst 7 (fY k kd sl first p (c0+c))) a))):
  aQ W n (dp 1 EO) [some (.obj 3),some (.int (k:Int)),x2,some (.int ((p:Int)-1)),some (.int ((p-1:Nat):Int)),some (.int (c:Int)),x6] (hD B0 B1 B2 kvs st r) (gM Q):=by
 have h5:aB (hD B0 B1 B2 kvs st r) (a+5)=_:=h;refine bH hk ?_;refine QZ (Jg h5 rfl) (gB h5 rfl rfl (gB (dD h5) rfl rfl ?_));rw[gv];refine gB (dD h5) rfl rfl ?_;rw[gv];exact q
include pr
theorem Xd{i:Nat}{H:AH}(h:aB H i=some (.inst 7 []))(q:Q .none (aq H (.inst 7 (fY k [116,101,109,112] 0 first 0 0)) i)):Fi W (n+1) 50 [.obj i,.int (k:Int),.str first] H Q:=by
 refine Dm (i:=i) (c:=.inst 7 []) (vs:=[.obj 0,.int (k:Int),.str first]) h ?_
 refine pr.fe Mf rfl ?_;exact⟨rfl,q⟩
theorem GB{K:List Nat}{C L A:Nat→Nat}(s:Sv K C L (fun _=>[116,101,109,112]) (fun _=>0) A r)(h60:k<60)(hc:c≠0)(hp:C k≠0∨p=0∧first≠[103,111,97,108,95,97,114,103])
  (q:∀{K' A' r' st'},Sv K' (f5 C (sg k c)) (eU L (sg k c) p) (fun _=>[116,101,109,112]) (fun _=>0) A' r'→mr r r'→Q .none (hD B0 B1 B2 (bD A' K') st' r')):
  Fi W (n+2) 59 [.obj 3,.int (k:Int),.str first,.int ((p:Int)-1),.int ((p-1:Nat):Int),.int (c:Int)] (hD B0 B1 B2 (bD A K) st r) Q:=by
 rw[←XU,←XW hc] at q;refine pr.fe Mi rfl ?_;refine cM 1 ?_;by_cases hk:k∈K
 ·obtain⟨f,hf',h⟩:=s.at_ hk;have S:=s.set hk hf' (kd:=[116,101,109,112]) (sl:=0) (l:=p) (c:=C k+c) fun e=>hc (BZ e);rw[vh,vh] at S;exact aX (by unfold bD;rw[pH,a9 hk];rfl) (bJ (GD (k5 hk) h (q S (QU h))))
 ·have ck:C k=0:=qX fun e=>hk (s.mem.mpr e);obtain⟨hp,hf⟩:=hp.resolve_left fun e=>e ck;subst hp;have S:=s.new hk h60 hf (kd:=[116,101,109,112]) (sl:=0) (l:=0) (c:=C k+c) fun e=>hc (BZ e);rw[vh,vh] at S;rw[ck] at S;have e:bc (bD A K) (.int (k:Int)) (.obj (aH (hD B0 B1 B2 (bD A K) st r)))=bD (up A k (aH r)) (K++[k]):=LC hk;have g:aR (bD (up A k (aH r)) (K++[k])) (.int (k:Int))=some (.obj (aH r+5)):=(k5 (jl _ (.head _))).trans (by rw[up_eq])
  refine aa (by unfold bD;rw[pH,a7 hk];rfl) (Xd pr (i:=aH (hD B0 B1 B2 (bD A K) st r)) cW ?_)
  rw[iz];refine⟨rfl,⟨by unfold bD fW;rw[aN];exact aA s.len (lz rfl),?_⟩⟩
  rw[e];refine bH g (gB (c:=7) (fl:=fY k [116,101,109,112] 0 first 0 0) (show aB (app r _) (aH r)=_ from cW) rfl rfl (bJ (GD (r:=aq (app r [.inst 7 (fY k [116,101,109,112] 0 first 0 0)]) (.inst 7 (fY k [116,101,109,112] 0 first 0 0)) (aH r)) (p:=0) g (dD cW) ?_)))
  rw[gv,iz];rw[ck] at q;exact q S fun h _=>iJ h
end
noncomputable def rs(ks:List Nat)(f:Nat→Nat)(j:Nat):Nat:=if j∈ks then f j else 0
theorem HZ{f:Nat→Nat}(j:Nat):rs [] f j=0:=aD dM
theorem VI{ks:List Nat}{f:Nat→Nat}(h:∀{j},j∈ks↔f j≠0):rs ks f=f:=funext fun j=>by
 unfold rs;split
 ·rfl
 ·rename_i n;exact(qX fun e=>n (h.mpr fun q=>e q.symm))
theorem Ve{k:Nat}:sg k 1=fun j=>U.br j (.v k):=funext fun j=>by
 unfold sg U.br;by_cases e:j=k
 ·rw[aG e,aG e.symm]
 ·rw[aD e,aD fun q=>e q.symm]
theorem HY{k:Nat}{ks:List Nat}{f:Nat→Nat}(h:k∉ks)(j:Nat):sg k (f k) j+rs ks f j=rs (k::ks) f j:=by
 unfold sg rs;by_cases e:j=k
 ·subst e;rw[aG rfl,aD h,aG (.head _)];rfl
 ·rw[aD e,cP];by_cases m:j∈ks
  ·rw[aG m,aG (.tail _ m)]
  ·rw[aD m,aD fun q=>(a8.mp q).elim e m]
theorem Sv.app{K:List Nat}{C L:Nat→Nat}{Kd:Nat→List Nat}{Sl A:Nat→Nat}{r g:AH}(s:Sv K C L Kd Sl A r):Sv K C L Kd Sl A (app r g):=⟨fun h=>let ⟨f,a,b⟩:=s.at_ h;⟨f,a,dQ b⟩,s.inj,s.nd,s.lt,s.mem⟩
structure kh(p:Nat)(pl:List Nat)(C f:Nat→Nat):Prop where
 len:pl.length≤100
 old:(∀k,f k≠0→C k≠0)∨p=0∧pl=[104,101,97,100]
theorem kh.or{p:Nat}{pl:List Nat}{C f:Nat→Nat}(h:kh p pl C f){k:Nat}(e:f k≠0){x:List Nat}(hx:[104,101,97,100]++x≠[103,111,97,108,95,97,114,103]):C k≠0∨p=0∧pl++x≠[103,111,97,108,95,97,114,103]:=h.old.elim (fun q=>.inl (q k e)) fun q=>.inr ⟨q.1,by rw[q.2];exact hx⟩
theorem kh.mono{p:Nat}{pl:List Nat}{C C' f g:Nat→Nat}(h:kh p pl C f)(hC:∀k,C k≠0→C' k≠0)(e:∀k,g k≠0→f k≠0):kh p pl C' g:=⟨h.len,h.old.imp (fun h k q=>hC k (h k (e k q))) id⟩
theorem wj{C f:Nat→Nat}(k:Nat)(h:C k≠0):f5 C f k≠0:=fun e=>h (qx e)
section
variable{W:Wd}(pr:bA W){n p:Nat}{B0 B1 B2:Cell}{pl:List Nat}{t:U.Tm}
include pr
theorem Su{d w st0:Nat}{all:List V}{kvs:List (Atom×V)}(ct:∀k:Nat,aR kvs (.int (k:Int))=sH (U.br k t)){x1 x5:Option V}{Q:K2}:∀{ks K C L A st r o},Sv K C L (fun _=>[116,101,109,112]) (fun _=>0) A r→aB r d=some (.dict kvs st0)→aB r w=some (.lst all)→ks.Nodup→(∀k∈ks,k<60∧U.br k t≠0)→kh p pl C (fun k=>U.br k t)→
  (∀{K' A' r' st' o},Sv K' (f5 C (rs ks fun k=>U.br k t)) (eU L (rs ks fun k=>U.br k t) p) (fun _=>[116,101,109,112]) (fun _=>0) A' r'→mr r r'→Q .aL [some (.obj 3),x1,some (.str pl),some (.int ((p:Int)-1)),some (.int ((p-1:Nat):Int)),x5,some (.obj (d+5)),o] (hD B0 B1 B2 (bD A' K') st' r'))→
  gV (It .lst (.obj (w+5)) all) 7 (aQ W (n+2) EP) (ks.map fun(k:Nat)=>V.int (k:Int)) [some (.obj 3),x1,some (.str pl),some (.int ((p:Int)-1)),some (.int ((p-1:Nat):Int)),x5,some (.obj (d+5)),o] (hD B0 B1 B2 (bD A K) st r) Q:=by
 intro ks
 induction ks with
 |nil=>exact fun{K C L A st r o} s hd hw _ _ _ q=>⟨cF (i:=w+5) hw,q (by rw[Bv (HZ (f:=fun k=>U.br k t)),Bx (HZ (f:=fun k=>U.br k t))];exact s) fun h _=>h⟩
 |cons k ks ih=>
  intro K C L A st r o s hd hw nd hk hpl q;obtain⟨n1,n2⟩:=ba.mp nd;obtain⟨h60,ho⟩:=hk _ (.head _);refine k7 (cF (i:=w+5) hw) fun X kx=>?_;refine fC (nC.str (aA (bp hpl.len _) (lz rfl))) (uk (a:=d+5) hd ((ct k).trans (aD ho)) ?_);refine GB pr s h60 ho (hpl.or ho (by decide)) fun{K' A' r' st'} S kp=>kx ?_
  refine ih S (kp hd rfl) (kp hw rfl) n2 (fun j m=>hk j (.tail _ m)) (hpl.mono wj fun _ h=>h) fun{K' A' r' st' o} S' kp'=>q ?_ (kp.trans kp');rw[←Bw (HY n1),←By (HY n1)];exact S'
theorem Wa{K:List Nat}{C L A:Nat→Nat}{st:Nat}{r:AH}(s:Sv K C L (fun _=>[116,101,109,112]) (fun _=>0) A r)(hpl:kh p pl C fun k=>U.br k t)(ht:(∀k,t.has k→k<60)∧t.aU<aJ){x1 x6 x7:Option V}{Q:K2}
  (q:∀{K' A' r' st' x6 x7},Sv K' (f5 C fun k=>U.br k t) (eU L (fun k=>U.br k t) p) (fun _=>[116,101,109,112]) (fun _=>0) A' r'→Q .aL [some (.obj 3),x1,some (.str pl),some (.int ((p:Int)-1)),some (.int ((p-1:Nat):Int)),some (aC t),x6,x7] (hD B0 B1 B2 (bD A' K') st' r')):
  aQ W (n+3) ud [some (.obj 3),x1,some (.str pl),some (.int ((p:Int)-1)),some (.int ((p-1:Nat):Int)),some (aC t),x6,x7] (hD B0 B1 B2 (bD A K) st r) Q:=by
 have z:pl.length+100≤aJ:=aA (bp hpl.len _) (lz rfl);have oc:∀{k},U.br k t≠0↔t.has k:=⟨fun h=>qX fun z=>h (U.Gj z),fun h e=>by have:=U.vC h;rw[e] at this;exact iV _ this⟩
 have other:t.bN=false→aQ W (n+3) ud [some (.obj 3),x1,some (.str pl),some (.int ((p:Int)-1)),some (.int ((p-1:Nat):Int)),some (aC t),x6,x7] (hD B0 B1 B2 (bD A K) st r) Q:=fun h=>by
  refine dZ (aX (cZ.trans h) ?_);refine Tf pr ht.2 fun{kvs st0 c} ct=>?_;refine Xa pr ht.2 fun{c c'}=>?_;rw[fP];have nm:∀{k},k∈(U.bL [] t).2↔U.br k t≠0:=⟨fun h=>oc.mpr ((U.pY.mp h).resolve_left fun h=>nomatch h),fun h=>U.pY.mpr (.inr (oc.mp h))⟩;have e:aZ (U.bL [] t).2=(U.bL [] t).2.map fun(k:Nat)=>V.int (k:Int):=by unfold aZ bX;rw[fJ];rfl
  rw[e,len_app];refine⟨cF (dG (k:=3)),Su pr (d:=aH r) (w:=aH r+3) (st0:=st0) ct s.app eJ dG (y7 dF) (fun k m=>⟨ht.1 k (oc.mp (nm.mp m)),nm.mp m⟩) hpl fun{K' A' r' st' o} S kp=>q ?_⟩;rw[VI nm] at S;exact S
 cases t with
 |v k=>
  refine fC (nC.str (aA (bp hpl.len _) (lz rfl))) (GB pr (c:=1) s (ht.1 k rfl) Nat.one_ne_zero (hpl.or (oc.mpr rfl) (by decide)) fun{K' A' r' st'} S kp=>q ?_)
  rw[Ve] at S;exact S
 |c=>exact other rfl
 |s1=>exact other rfl
 |s2=>exact other rfl
theorem Wb{x1:Option V}{Q:K2}:∀{ts K C L A st r x5 x6 x7},Sv K C L (fun _=>[116,101,109,112]) (fun _=>0) A r→kh p pl C (fun k=>U.bZ k ts)→(∀t∈ts,(∀k,t.has k→k<60)∧t.aU<aJ)→
  (∀{K' A' r' st' F},Sv K' (f5 C fun k=>U.bZ k ts) (eU L (fun k=>U.bZ k ts) p) (fun _=>[116,101,109,112]) (fun _=>0) A' r'→Q .aL F (hD B0 B1 B2 (bD A' K') st' r'))→
  cf 5 (aQ W (n+3) ud) (ts.map aC) [some (.obj 3),x1,some (.str pl),some (.int ((p:Int)-1)),some (.int ((p-1:Nat):Int)),x5,x6,x7] (hD B0 B1 B2 (bD A K) st r) Q:=by
 intro ts
 induction ts with
 |nil=>exact fun{K C L A st r x5 x6 x7} s _ _ q=>q (by rw[Bv (f:=fun k=>U.bZ k []) fun _=>rfl,Bx (f:=fun k=>U.bZ k []) fun _=>rfl];exact s)
 |cons t ts ih=>exact fun{K C L A st r x5 x6 x7} s hpl ht q=>eO fun X kx=>Wa pr s (hpl.mono (fun _ h=>h) fun k h e=>h (qx e)) (ht _ (.head _)) fun{K' A' r' st' x6 x7} S=>kx (ih S (hpl.mono wj fun k h e=>h (BZ e)) (fun t m=>ht t (.tail _ m)) fun{K' A' r' st' F} S'=>q (by rw[←Bw (f:=fun k=>U.br k t) (g:=fun k=>U.bZ k ts) (h:=fun k=>U.bZ k (t::ts)) fun _=>rfl,←By (f:=fun k=>U.br k t) (g:=fun k=>U.bZ k ts) (h:=fun k=>U.bZ k (t::ts)) fun _=>rfl];exact S'))
theorem su{ts:List U.Tm}{K:List Nat}{C L A:Nat→Nat}{st:Nat}{r:AH}(s:Sv K C L (fun _=>[116,101,109,112]) (fun _=>0) A r)(hpl:kh p pl C fun k=>U.bZ k ts)(ht:∀t∈ts,(∀k,t.has k→k<60)∧t.aU<aJ){Q:K1}
  (q:∀{K' A' r' st'},Sv K' (f5 C fun k=>U.bZ k ts) (eU L (fun k=>U.bZ k ts) p) (fun _=>[116,101,109,112]) (fun _=>0) A' r'→Q .none (hD B0 B1 B2 (bD A' K') st' r')):
  Fi W (n+4) 60 [.obj 3,.tup (ts.map aC),.str pl,.int ((p:Int)-1),.int ((p-1:Nat):Int)] (hD B0 B1 B2 (bD A K) st r) Q:=by
 refine pr.fe Mj rfl ?_;exact Wb pr s hpl ht fun{K' A' r' st' F} S=>q S
end
noncomputable def kdOf(l c:Nat):List Nat:=if c=1 then[118,111,105,100] else if 1<l then[112,101,114,109] else[116,101,109,112]
theorem qO{α:Type}{f:Nat→α}{k:Nat}:up f k (f k)=f:=funext fun j=>by
 unfold up;split
 ·rename_i e;rw[e]
 ·rfl
noncomputable def cV(K:List Nat):List Nat:=(oD (bX K)).map Int.toNat
theorem vS{K:List Nat}:bX (cV K)=oD (bX K):=by
 unfold cV bX;rw[fJ]
 conv=>rhs;rw[←List.map_id (oD _)]
 refine g8 fun x hx=>?_;obtain⟨y,_,e⟩:=cg.mp (show x∈K.map fun n:Nat=>(n:Int) from List.mem_mergeSort.mp hx)
 rw[←e];rfl
theorem DJ{k:Nat}{l:List Nat}:(k:Int)∈bX l↔k∈l:=⟨fun h=>let ⟨_,hy,e⟩:=cg.mp h;dg e▸hy,fun h=>cg.mpr ⟨k,h,rfl⟩⟩
theorem sX{k:Nat}{K:List Nat}:k∈cV K↔k∈K:=by rw[←DJ,vS,←DJ (l:=K)];exact List.mem_mergeSort
theorem Vl{K:List Nat}(h:K.Nodup):(cV K).Nodup:=by
 have h2:(bX (cV K)).Nodup:=by
  rw[vS];exact(List.mergeSort_perm (bX K) _).nodup_iff.mpr (List.Pairwise.map _ (fun a b hab e=>hab (dg e)) h)
 exact List.Pairwise.of_map _ (fun a b hab e=>hab (by rw[e])) h2
theorem Ht{K:List Nat}:(cV K).length=K.length:=by
 have h1:(bX (cV K)).length=(bX K).length:=by rw[vS];exact List.length_mergeSort _
 unfold bX at h1;rw[aN,aN] at h1;exact h1
section
variable{W:Wd}{n:Nat}{H:AH}{Q:K1}
theorem Qr{i j:Nat}{z:Int}{l:List V}{v:V}(hc:aB H i=some (.lst l))(e:z=(j:Nat))(h:aB l j=some v)(q:Q v H):gc W (.obj i) (.int z) H Q:=by rw[e];exact eV hc h q
theorem U1{w:Nat}{l:List V}(hc:aB H w=some (.lst l)):at_ false H (.obj w) (fun _ c=>kB .insert c)=true:=by
 show ob (aB H w) false _=true;rw[hc];rfl
theorem Qg{i j:Nat}{l:List V}{v:V}(hc:aB H i=some (.lst l))(e:j=l.length)(z:l.length<aJ)(q:Q .none (aq H (.lst (l++[v])) i)):iW W .insert (.obj i) Q [.int (j:Nat),v] H:=by
 show ob (aB H i) _ _;rw[hc];rw[c7,show l++[v]=l.take j++v::l.drop j by rw[e,wH,BG]] at q
 exact(⟨@bu.insert W H i l v j (aj▸hc) (bS e) z,q⟩:Seq (bu W .insert [.obj i,.int (j:Nat),v] H) Q)
theorem QO(pr:bA W){i k sl l c:Nat}{kd first:List Nat}(h:aB H i=some (.inst 7 (fY k kd sl first l c)))(q:Q (.str (kdOf l c)) H):Fi W (n+1) 61 [.obj i] H Q:=by
 refine Dm (i:=i) (c:=.inst 7 (fY k kd sl first l c)) (vs:=[.obj 0]) h ?_
 have q':∀{s},kdOf l c=s→Ex fun c'=>au ([Cell.inst 7 (fY k kd sl first l c)]=[c']) (Q (.str s) (aq H (mc (rn [i] H.length) c') i)):=fun e=>⟨rfl,by rw[kG (x:=mc _ (.inst 7 _)) h,←e];exact q⟩
 unfold kdOf at q';refine pr.fe Mk rfl ?_;by_cases h1:c=1
 ·rw[aG h1] at q';exact aa (a9 (aE Nat.cast h1)) (q' rfl)
 ·rw[aD h1] at q';refine aX (a7 fun e=>h1 (dg e)) ?_;by_cases h2:1<l
  ·rw[aG h2] at q';exact aa (a9 (fu.mpr (Nat.sub_pos_of_lt h2))) (q' rfl)
  ·rw[aD h2] at q';exact aX (a7 fun e=>h2 (Nat.lt_of_sub_pos (fu.mp e))) (q' rfl)
end
section
variable{W:Wd}(pr:bA W){n st:Nat}{B0 B1 B2:Cell}{K:List Nat}{C L A:Nat→Nat}{r:AH}
theorem yS:It (.dict st) (.obj 4) (K.map fun(k:Nat)=>V.int (k:Int)) (hD B0 B1 B2 (bD A K) st r):=by
 have:It (.dict st) (.obj 4) ((bD A K).map fun p=>cG p.1) (hD B0 B1 B2 (bD A K) st r):=.dict rfl
 unfold bD fW at this;rw[fJ] at this;exact this
include pr
theorem QR{f:Option V→Fa}(hset:∀{o v},dT (f o) 9 v=f (some v))(h9:∀{o},ob (aB (f o) 9) none id=o)(h8:∀{o},ob (aB (f o) 8) none id=some (.obj 4)){Q:K2}:∀{ks:List Nat} {Kd:Nat→List Nat} {Sl:Nat→Nat} {r:AH} {o:Option V},(∀k∈ks,k∈K)→Sv K C L Kd Sl A r→(∀k∈K,k∉ks→Kd k=kdOf (L k) (C k))→(∀{r' o},Sv K C L (fun k=>kdOf (L k) (C k)) Sl A r'→Q .aL (f o) (hD B0 B1 B2 (bD A K) st r'))→
  gV (It (.dict st) (.obj 4) (K.map fun(k:Nat)=>V.int (k:Int))) 9 (aQ W (n+1) EU) (ks.map fun(k:Nat)=>V.int (k:Int)) (f o) (hD B0 B1 B2 (bD A K) st r) Q:=by
 intro ks
 induction ks with
 |nil=>exact fun{Kd Sl r o} _ s h q=>⟨yS,q ⟨fun{k} m=>(h k m dM)▸s.at_ m,s.inj,s.nd,s.lt,s.mem⟩⟩
 |cons k ks ih=>
  intro Kd Sl r o hk s h q;have kK:=hk k (.head _);obtain⟨fi,hf,hi⟩:=s.at_ kK;refine k7 yS fun X kx=>?_;rw[hset];refine bH h8 (bH h9 (bH (k5 kK) (QO pr (i:=A k+5) hi (bH h8 (bH h9 (bH (k5 kK) (gB (i:=A k+5) hi rfl rfl ?_)))))));have S:=s.set kK hf (kd:=kdOf (L k) (C k)) (sl:=Sl k) (l:=L k) (c:=C k) (s.mem.mp kK);rw[qO,qO,qO] at S;refine kx (ih (fun j m=>hk j (.tail _ m)) S (fun j m n=>?_) q);by_cases e:j=k
  ·rw[e,up_eq]
  ·rw[fH e];exact h j m fun z=>(a8.mp z).elim e n
end
theorem nP{ks:List Nat}:aZ ks=ks.map fun(k:Nat)=>V.int (k:Int):=by unfold aZ bX;rw[fJ];rfl
theorem gi{l:List Nat}:(aZ l).length=l.length:=by rw[nP,aN]
theorem rR{l:List Nat}{i k:Nat}(h:l[i]?=some k):aB (aZ l) i=some (.int (k:Int)):=by rw[nP,aj,fI,h];rfl
theorem LK{l:List Nat}{k:Nat}:aZ l++[V.int (k:Int)]=aZ (l++[k]):=by rw[nP,nP,bt];rfl
theorem Uc{a:Nat}(h:a≠0):(a:Int)-1=((a-1:Nat):Int):=by cases a with
 |zero=>exact absurd rfl h
 |succ a=>exact BA a 1
theorem NO{B0 B1 B2 x y:Cell}{kvs:List (Atom×V)}{st:Nat}{r:AH}:aq (hD B0 B1 B2 kvs st (app r [x])) y (aH r+5)=hD B0 B1 B2 kvs st (app r [y]):=aE (hD B0 B1 B2 kvs st) iz
section
variable{W:Wd}(pr:bA W){n st:Nat}{B0 B1 B2:Cell}{K:List Nat}{C L A:Nat→Nat}{Kd:Nat→List Nat}{Sl:Nat→Nat}{r:AH}
noncomputable def cU(Kd:Nat→List Nat)(ks:List Nat):List Nat:=ks.filter fun k=>d5 (Kd k) [112,101,114,109]
variable(s:Sv K C L Kd Sl A r)(hp:∀k∈K,d5 (Kd k) [112,101,114,109]=true→L k=2)
include s hp
theorem T4{Q:K2}:∀{ks acc:List Nat} {x2 x3 x4:Option V},(∀k∈ks,k∈K)→(∀k∈acc,k∈K∧L k=2)→acc.length+ks.length≤60→(∀{x2 x3 x4},Q .aL [some (.obj 4),some (.obj (aH r+5)),x2,x3,x4] (hD B0 B1 B2 (bD A K) st (app r [.lst (aZ (acc++cU Kd ks))])))→
  cf 2 (aQ W n ES) (ks.map fun(k:Nat)=>V.int (k:Int)) [some (.obj 4),some (.obj (aH r+5)),x2,x3,x4] (hD B0 B1 B2 (bD A K) st (app r [.lst (aZ acc)])) Q:=by
 intro ks
 induction ks with
 |nil=>
  intro acc x2 x3 x4 _ _ _ q;have q:=q (x2:=x2) (x3:=x3) (x4:=x4);rw[show cU Kd []=[] from rfl,eY] at q
  exact q
 |cons k ks ih=>
  intro acc x2 x3 x4 hk ha hz q;have kK:=hk k (.head _);obtain⟨fi,_,hi⟩:=s.at_ kK;have hi:aB (hD B0 B1 B2 (bD A K) st (app r [.lst (aZ acc)])) (A k+5)=_:=dQ hi;have hl:aB (hD B0 B1 B2 (bD A K) st (app r [.lst (aZ acc)])) (aH r+5)=some (.lst (aZ acc)):=cW;have hz2:acc.length+1+ks.length≤60:=by rw[bP,bR 1];exact hz
  refine eO fun X kx=>bH (k5 kK) (iG hi rfl rfl ?_)
  cases hpk:d5 (Kd k) [112,101,114,109] with
  |false=>
   have e:cU Kd (k::ks)=cU Kd ks:=by unfold cU;rw[ql,hpk];rfl
   rw[e] at q;exact aX hpk (kx (ih (fun j m=>hk j (.tail _ m)) ha (aA (cq (cB _) _) hz) q))
  |true=>
   have e:acc++cU Kd (k::ks)=(acc++[k])++cU Kd ks:=by unfold cU;rw[ql,hpk,dX];rfl
   rw[e] at q;have lk:=hp k kK hpk;have next:∀{b:Option V},aQ W n (dp 2 (.cons (.asg 4 (.op (.f1 .len) (.cons (.var 1) .nil))) (.cons (.da En ER) (.cons (.expr (.bm .insert (.var 1) (.cons (.var 4) (.cons (.var 2) .nil)))) .nil)))) [some (.obj 4),some (.obj (aH r+5)),some (.int (k:Nat)),some (.obj (A k+5)),some (.int ((aZ acc).length:Nat))] (hD B0 B1 B2 (bD A K) st (app r [.lst (aZ acc)])) (jw (aQ W n .nil) (f9 X Q)):=fun{b}=>by
    refine aa (U1 hl) (Qg hl rfl (by rw[gi];exact bb (aA (aT _ _) (aA (aT _ _) hz2)) (lz rfl)) ?_)
    rw[LK,NO];exact kx (ih (fun j m=>hk j (.tail _ m)) (fun j m=>(b6.mp m).elim (ha j) fun z=>(a6.mp z)▸⟨kK,lk⟩) (by rw[a5];exact hz2) q)
   refine aa hpk (cM 2 (ff hl (Ex.mk (v:=1) ?_)));by_cases h0:(aZ acc).length=0
   ·exact aX (nR.trans (a7 fun q=>q h0)) (bJ (next (b:=none)))
   ·have h1:acc.length-1<acc.length:=Nat.sub_one_lt (gi (l:=acc)▸h0);obtain⟨x1,x2⟩:=ha _ (iQ h1);obtain⟨fj,_,hj⟩:=s.at_ x1;have hj:aB (hD B0 B1 B2 (bD A K) st (app r [.lst (aZ acc)])) (A acc[acc.length-1]+5)=_:=dQ hj;exact aa (nR.trans (a9 h0)) (Qr hl ((Uc h0).trans (by rw[gi])) (rR (bh h1)) (bH (k5 x1) (iG hj rfl rfl (iG hi rfl rfl (aX (by rw[x2,lk];rfl) (bJ (next (b:=none))))))))
include pr
theorem T5{Q:K1}(q:Q (.obj (aH r+5)) (hD B0 B1 B2 (bD A K) st (app r [.lst (aZ (cU Kd (cV K)))]))):Fi W (n+1) 62 [.obj 4] (hD B0 B1 B2 (bD A K) st r) Q:=by
 refine pr.fe Ml rfl ?_;refine dB (lz rfl) (iM (JE.dict (i:=4) (kvs:=bD A K) (ns:=bX K) rfl (by unfold bD fW bX;rw[fJ,fJ];rfl) (by unfold bD fW;rw[aN];exact bb s.len (lz rfl)) .val) ?_)
 rw[←vS,show(bX (cV K)).map V.int=(cV K).map fun(k:Nat)=>V.int (k:Int) from nP]
 exact T4 s hp (acc:=[]) (fun k m=>sX.mp m) (fun _ m=>nomatch m) (by rw[Ht,lX,cP];exact s.len) fun{x2 x3 x4}=>q
end
theorem Nl{l:List Nat}{i k:Nat}(nd:l.Nodup)(h:l[i]?=some k):l.idxOf k=i:=by
 have m:=jG.mpr (dj h);exact(BJ m nd).mp ((bh m).trans ((aE some (mz _)).trans h.symm))
section
variable{W:Wd}(pr:bA W){n st:Nat}{B0 B1 B2:Cell}{K ord:List Nat}{C L A:Nat→Nat}{Kd:Nat→List Nat}
theorem Vj(nd:ord.Nodup)(hK:∀k∈ord,k∈K){x0 x1 x2 x3 x4 x6 x7 x9 x12 x13:Option V}{rl:Nat}{Q:K2}:∀{ks:List Nat} {at_:Nat} {Sl:Nat→Nat} {r:AH} {x5 x11:Option V},ord.drop at_=ks→aH r=rl→Sv K C L Kd Sl A r→(∀k∈ord,k∉ks→Sl k=ord.idxOf k+1)→
  (∀{Sl r x5 x11},aH r=rl→Sv K C L Kd Sl A r→(∀k∈ord,Sl k=ord.idxOf k+1)→Q .aL [x0,x1,x2,x3,x4,x5,x6,x7,some (.obj 4),x9,some (.obj (rl+5)),x11,x12,x13] (hD B0 B1 B2 (bD A K) st (app r [.lst (aZ ord)])))→
  cf 5 (aQ W n EV) ((List.range' at_ ks.length).map fun i:Nat=>V.int (i:Int)) [x0,x1,x2,x3,x4,x5,x6,x7,some (.obj 4),x9,some (.obj (rl+5)),x11,x12,x13] (hD B0 B1 B2 (bD A K) st (app r [.lst (aZ ord)])) Q:=by
 intro ks
 induction ks with
 |nil=>exact fun{at_ Sl r x5 x11} _ hl s h q=>q hl s fun k m=>h k m dM
 |cons k ks ih=>
  intro at_ Sl r x5 x11 hd hl s h q;subst hl;obtain⟨d1,d2⟩:=xQ hd;rw[aj] at d1;have kK:=hK k (dj d1);obtain⟨fi,hf,hi⟩:=s.at_ kK;have hi':aB (hD B0 B1 B2 (bD A K) st (app r [.lst (aZ ord)])) (A k+5)=_:=dQ hi;refine eO fun X kx=>eV (i:=aH r+5) cW (rR d1) (bH (k5 kK) (gB hi' rfl rfl (iG (dD hi') rfl rfl (gB (dD hi') rfl rfl ?_))));rw[gv,show d5 fi [103,111,97,108,95,97,114,103]=false from uM.trans (a7 hf)]
  have S:=s.set kK hf (kd:=Kd k) (sl:=at_+1) (l:=L k) (c:=C k) (s.mem.mp kK);rw[qO,qO,qO] at S;have e:aq (hD B0 B1 B2 (bD A K) st (app r [.lst (aZ ord)])) (.inst 7 (fY k (Kd k) (at_+1) fi (L k) (C k))) (A k+5)=hD B0 B1 B2 (bD A K) st (app (aq r (.inst 7 (fY k (Kd k) (at_+1) fi (L k) (C k))) (A k)) [.lst (aZ ord)]):=aE (hD B0 B1 B2 (bD A K) st) (JZ (eQ hi));refine(show ∀H,H=_→X _ H Q from fun H e=>e▸kx (ih d2 RC S (fun j m n=>?_) q)) _ e
  by_cases ej:j=k
  ·rw[ej,up_eq,Nl nd d1]
  ·rw[fH ej];exact h j m fun z=>(a8.mp z).elim ej n
variable{Sl:Nat→Nat}{r:AH}(s:Sv K C L Kd Sl A r)(hp:∀k∈ord,k∈K∧L k=2){lv:Cell}
include s hp
theorem Ft{x0 x1 x2 x3 x4 x6 x7 x9 x11 x12:Option V}{Q:K2}(q:Q .aL [x0,x1,x2,x3,x4,some (.int (0:Nat)),x6,x7,some (.obj 4),x9,some (.obj (aH r+5)),x11,x12,some (.int (ord.length:Nat))] (hD B0 B1 B2 (bD A K) st (app r [.lst (aZ ord),lv]))):∀{m l:Nat},l+m=ord.length→
  gH (bC W n yf) (aQ W n yX) (m+1) [x0,x1,x2,x3,x4,some (.int (0:Nat)),x6,x7,some (.obj 4),x9,some (.obj (aH r+5)),x11,x12,some (.int (l:Nat))] (hD B0 B1 B2 (bD A K) st (app r [.lst (aZ ord),lv])) Q:=by
 intro m
 induction m with
 |zero=>exact fun{l} e=>ff (i:=aH r+5) eJ (aX (mJ.trans (a7 (by rw[gi,←e];exact eA _))) (by rw[←e] at q;exact q))
 |succ m ih=>
  intro l e;have hl:l<ord.length:=e▸qy (nB m);obtain⟨x1,x2⟩:=hp _ (iQ hl);obtain⟨fj,_,hj⟩:=s.at_ x1;have hj:aB (hD B0 B1 B2 (bD A K) st (app r [.lst (aZ ord),lv])) (A ord[l]+5)=_:=dQ hj;exact lQ fun X kx=>ff (i:=aH r+5) eJ (aa (mJ.trans (a9 (by rw[gi];exact hl))) (eV (i:=aH r+5) eJ (rR (bh hl)) (bH (k5 x1) (iG hj rfl rfl (aa (by rw[x2];rfl) (kx (ih (l:=l+1) (by rw[←e,bP,bR 1]))))))))
theorem RP{x0 x1 x2 x3 x4 x6 x7 x9 x11 x12:Option V}{Q:K2}(q:Q .aL [x0,x1,x2,x3,x4,some (.int (1:Nat)),x6,x7,some (.obj 4),x9,some (.obj (aH r+5)),x11,x12,some (.int (0:Nat))] (hD B0 B1 B2 (bD A K) st (app r [.lst (aZ ord),lv]))):
  gH (bC W n yf) (aQ W n yX) 1 [x0,x1,x2,x3,x4,some (.int (1:Nat)),x6,x7,some (.obj 4),x9,some (.obj (aH r+5)),x11,x12,some (.int (0:Nat))] (hD B0 B1 B2 (bD A K) st (app r [.lst (aZ ord),lv])) Q:=by
 by_cases h0:0<ord.length
 ·obtain⟨x1,x2⟩:=hp _ (iQ h0);obtain⟨fj,_,hj⟩:=s.at_ x1;have hj:aB (hD B0 B1 B2 (bD A K) st (app r [.lst (aZ ord),lv])) (A ord[0]+5)=_:=dQ hj;exact ff (i:=aH r+5) eJ (aa (mJ.trans (a9 (by rw[gi];exact h0))) (eV (i:=aH r+5) (j:=0) eJ (rR (bh h0)) (bH (k5 x1) (iG hj rfl rfl (aX (by rw[x2];rfl) q)))))
 ·exact ff (i:=aH r+5) eJ (aX (mJ.trans (a7 (by rw[gi];exact h0))) q)
end
noncomputable def hU(args:List U.Tm)(gs:List (Nat×List U.Tm)):Nat→Nat:=gs.foldl (fun C g=>f5 C fun k=>U.bZ k g.2) (f5 (fun _=>0) fun k=>U.bZ k args)
noncomputable def ky(g:Nat×List U.Tm):Nat→Nat:=eU (fun _=>0) (fun k=>U.bZ k g.2) 1
noncomputable def k4(g h:Nat×List U.Tm):Nat→Nat:=eU (ky g) (fun k=>U.bZ k h.2) 2
noncomputable def Cc(gs:List (Nat×List U.Tm)):Nat→Nat:=match gs with
 | [g]=>ky g
 |g::h::_=>k4 g h
 |_=>fun _=>0
noncomputable def ek(args:List U.Tm)(gs:List (Nat×List U.Tm))(k:Nat):List Nat:=kdOf (Cc gs k) (hU args gs k)
theorem Bz{L f:Nat→Nat}{p m k:Nat}(h:L k≤m)(hp:p≤m):eU L f p k≤m:=by
 unfold eU;split
 ·exact h
 ·exact hp
theorem t5{g:Nat×List U.Tm}{k:Nat}:ky g k≤2:=Bz (L:=fun _=>0) (bW 2) (cB 1)
theorem Ce{k:Nat}:∀{gs:List (Nat×List U.Tm)},Cc gs k≤2
 | []=>bW _
 | [g]=>t5
 |g::h::_=>show eU (ky g) (fun k=>U.bZ k h.2) 2 k≤2 from Bz t5 (ai 2)
theorem yj{l c:Nat}(h:d5 (kdOf l c) [112,101,114,109]=true)(hl:l≤2):l=2:=by
 unfold kdOf at h;split at h
 ·cases h
 ·split at h
  ·rename_i q;exact tX hl q
  ·cases h
section
variable{W:Wd}(pr:bA W){n:Nat}
include pr
theorem yF{H:AH}{Q:K1}{g:Nat×List U.Tm}(q:Q (.tup (g.2.map aC)) H):Fi W (n+1) 48 [bE g] H Q:=by
 refine pr.fe Md rfl ?_;exact q
theorem yD{H:AH}{Q:K1}{g:Nat×List U.Tm}(q:Q (.int (-1)) H):Fi W (n+1) 49 [bE g] H Q:=by
 refine pr.fe Me rfl ?_;exact q
theorem KQ{B0:Cell}{g:Nat×List U.Tm}{Q:K1}(q:Q (.obj 2) [B0,.lst [bE g],.lst [.int 0]]):Fi W (n+1) 57 [.obj 1] [B0,.lst [bE g]] Q:=by
 refine pr.fe Dr rfl ?_;refine dB (lz rfl) ⟨cF rfl,cF rfl,⟨lz rfl,cF rfl,q⟩⟩
theorem KR{B0:Cell}{g h:Nat×List U.Tm}{Q:K1}(q:Q (.obj 2) [B0,.lst [bE g,bE h],.lst [.int 0,.int 1]]):Fi W (n+1) 57 [.obj 1] [B0,.lst [bE g,bE h]] Q:=by
 refine pr.fe Dr rfl ?_;refine dB (lz rfl) ⟨cF rfl,cF rfl,⟨lz rfl,cF rfl,⟨lz rfl,cF rfl,q⟩⟩⟩
theorem Hq{B0 B1 B2:Cell}{Q:K1}(q:Q .none (hD B0 B1 B2 [] 0 [])):Fi W (n+1) 58 [.obj 3] [B0,B1,B2,.inst 9 []] Q:=by
 refine pr.fe Mh rfl ?_;exact jx q
variable{args:List U.Tm}{gs:List (Nat×List U.Tm)}{KE GL CH:Cell}{K:List Nat}{C L A:Nat→Nat}{r:AH}{st:Nat}
theorem Cp(hL:∀k,L k≤2)(s:Sv K C L (fun _=>[116,101,109,112]) (fun _=>0) A r){x5 x6 x7 ne:Option V}{Q:K2}
  (q:∀{Sl r x5 x9 x11},Sv K C L (fun k=>kdOf (L k) (C k)) Sl A r→(∀k∈cU (fun k=>kdOf (L k) (C k)) (cV K),Sl k=(cU (fun k=>kdOf (L k) (C k)) (cV K)).idxOf k+1)→aQ W (n+5) (dp 10 yV) [some (.obj 0),some (.obj 1),some (.obj 2),some (.obj 3),ne,x5,x6,x7,some (.obj 4),x9,some (.obj (aH r+5)),x11,none,none] (hD KE GL CH (bD A K) st (app r [.lst (aZ (cU (fun k=>kdOf (L k) (C k)) (cV K)))])) Q):
  aQ W (n+5) (dp 6 yV) [some (.obj 0),some (.obj 1),some (.obj 2),some (.obj 3),ne,x5,x6,x7,none,none,none,none,none,none] (hD KE GL CH (bD A K) st r) Q:=by
 refine cM 2 ?_;have nd:(cU (fun k=>kdOf (L k) (C k)) (cV K)).Nodup:=BB _ (Vl s.nd);have hK:∀k∈cU (fun k=>kdOf (L k) (C k)) (cV K),k∈K:=fun k m=>sX.mp (fz.mp m).1;refine⟨yS,QR (n:=n+4) pr (st:=st) (B0:=KE) (B1:=GL) (B2:=CH) (f:=fun o=>[some (.obj 0),some (.obj 1),some (.obj 2),some (.obj 3),ne,x5,x6,x7,some (.obj 4),o,none,none,none,none]) rfl rfl rfl (ks:=K) (o:=none) (fun _ m=>m) s (fun k m n=>absurd m n) fun{r o} s=>bJ (cM 1 (T5 pr s (fun k _ h=>yj h (hL k)) (bJ (cM 1 (ff (i:=aH r+5) cW ⟨?_,?_⟩)))))⟩
 ·rw[gi];exact aA (aA (oa _ _) (aA (bS Ht) s.len)) (lz rfl)
 ·rw[gi,pj];exact Vj nd hK List.drop_zero rfl s (fun k m n=>absurd m n) fun{Sl r' x5 x11} e s h=>bJ (e▸q s h)
end
section
variable{KE GL CH x y:Cell}{kvs:List (Atom×V)}{st:Nat}{r g:AH}
theorem uU:app (hD KE GL CH kvs st (app r g)) [x]=hD KE GL CH kvs st (app r (g++[x])):=aE (hD KE GL CH kvs st) fP
theorem uV:aH (hD KE GL CH kvs st (app r g))=aH r+(aH g+5):=(aE (·+5) len_app).trans (bP ..)
theorem yG{k:Nat}:aq (hD KE GL CH kvs st (app r g)) x (aH r+(k+5))=hD KE GL CH kvs st (app r (aq g x k)):=aE (hD KE GL CH kvs st) o5
end
theorem wm{f:Nat→Nat}{k:Nat}(h:f k≠0):f5 (fun _=>0) f k≠0:=fun e=>h ((cP _).symm.trans e)
theorem H4{Kd:Nat→List Nat}{Sl A:Nat→Nat}{r:AH}:Sv [] (fun _=>0) (fun _=>0) Kd Sl A r:=⟨fun h=>absurd h dM,fun h=>absurd h dM,dF,fun h=>absurd h dM,⟨fun h=>absurd h dM,fun h=>absurd rfl h⟩⟩
theorem B3{f:Nat→Nat}:eU (fun _=>0) f 0=fun _=>0:=funext fun j=>by unfold eU;split<;>rfl
noncomputable def sN(ne:Bool)(es lv:Nat):List (Nat×V):=[(1552335400819,.obj 4),(390775274630003,.obj 2),(6758814687394858888822,.bool ne),(25755653471308708453,.int (es:Nat)),(1720886839222231419348338,.obj lv)]
section
variable{W:Wd}(pr:bA W){n:Nat}
include pr
theorem G6{H:AH}{Q:K1}{i lv es:Nat}{ne:Bool}(h:aB H i=some (.inst 8 []))(q:Q .none (aq H (.inst 8 (sN ne es lv)) i)):Fi W (n+1) 51 [.obj i,.obj 4,.obj 2,.bool ne,.int (es:Nat),.obj lv] H Q:=by
 refine pr.fe Mg rfl ?_;refine gB h rfl rfl (gB (dD h) rfl rfl (gB (dD (dD h)) rfl rfl (gB (dD (dD (dD h))) rfl rfl (gB (dD (dD (dD (dD h)))) rfl rfl ?_))));rw[gv,gv,gv,gv];exact q
variable{args:List U.Tm}{g h:Nat×List U.Tm}{fn cnt:V}{Q:K1}
@[reducible] noncomputable def mD(fn cnt:V)(args:List U.Tm):Cell:=.inst 6 [(100897158637842290,fn),(5929854835,.tup (args.map aC)),(1543761914995,.obj 1),(1526583357044,cnt)]
theorem KW(ha:∀t∈args,(∀k,t.has k→k<60)∧t.aU<aJ)(hg:∀t∈g.2,(∀k,t.has k→k<60)∧t.aU<aJ)(sub:∀k,U.bZ k g.2≠0→U.bZ k args≠0)
  (q:∀{K A Sl r st},Sv K (hU args [g]) (ky g) (ek args [g]) Sl A r→(∀k∈cU (ek args [g]) (cV K),Sl k=(cU (ek args [g]) (cV K)).idxOf k+1)→
   Q (.obj (aH r+7)) (hD (mD fn cnt args) (.lst [bE g]) (.lst [.int 0]) (bD A K) st (app r [.lst (aZ (cU (ek args [g]) (cV K))),.lst [.int ((cU (ek args [g]) (cV K)).length:Nat)],.inst 8 (sN false (cU (ek args [g]) (cV K)).length (aH r+6))]))):
  Fi W (n+6) 63 [.obj 0] [mD fn cnt args,.lst [bE g]] Q:=by
 refine pr.fe Ds rfl ?_;refine cM 6 (KQ pr (Hq pr ⟨rfl,?_⟩));refine su pr (p:=0) (C:=fun _=>0) (L:=fun _=>0) (A:=fun _=>0) (K:=[]) (st:=0) (r:=[]) H4 ⟨lz rfl,.inr ⟨rfl,rfl⟩⟩ ha fun{K A r st} s=>?_;rw[B3] at s;refine⟨lz rfl,yD pr ?_⟩;refine yF pr ?_;refine su pr (p:=1) s ⟨lz rfl,.inl fun k h=>wm (sub k h)⟩ hg fun{K A r st} s=>?_;refine bJ (Cp pr (fun k=>t5) s fun{Sl r x5 x9 x11} s hsl=>?_);have hp:∀k∈cU (ek args [g]) (cV K),k∈K∧ky g k=2:=fun k m=>⟨sX.mp (fz.mp m).1,yj (fz.mp m).2 t5⟩;refine dB (lz rfl) ?_;rw[uU,uV];refine⟨lz rfl,Ex.mk (v:=(cU (ek args [g]) (cV K)).length+1) (Ft s hp ?_ (cP _))⟩;refine aa (iL (i:=aH r+6) (dG (k:=1))) (iF (i:=aH r+6) (dG (k:=1)) (lz rfl) ?_);rw[yG (k:=1)];refine ff (i:=aH r+5) eJ ?_;rw[gi];refine G6 pr (i:=aH _) cW ?_;rw[iz,uU,uV];exact⟨rfl,q s hsl⟩
theorem KX(ha:∀t∈args,(∀k,t.has k→k<60)∧t.aU<aJ)(hg:∀t∈g.2,(∀k,t.has k→k<60)∧t.aU<aJ)(sub:∀k,U.bZ k g.2≠0→U.bZ k args≠0)(hh:∀t∈h.2,(∀k,t.has k→k<60)∧t.aU<aJ)(sub2:∀k,U.bZ k h.2≠0→U.bZ k args≠0)
  (q:∀{K A Sl r st},Sv K (hU args [g,h]) (k4 g h) (ek args [g,h]) Sl A r→(∀k∈cU (ek args [g,h]) (cV K),Sl k=(cU (ek args [g,h]) (cV K)).idxOf k+1)→
   Q (.obj (aH r+7)) (hD (mD fn cnt args) (.lst [bE g,bE h]) (.lst [.int 0,.int 1]) (bD A K) st (app r [.lst (aZ (cU (ek args [g,h]) (cV K))),.lst [.int ((cU (ek args [g,h]) (cV K)).length:Nat),.int 0],.inst 8 (sN true (cU (ek args [g,h]) (cV K)).length (aH r+6))]))):
  Fi W (n+6) 63 [.obj 0] [mD fn cnt args,.lst [bE g,bE h]] Q:=by
 refine pr.fe Ds rfl ?_;refine cM 6 (KR pr (Hq pr ⟨rfl,?_⟩));refine su pr (p:=0) (C:=fun _=>0) (L:=fun _=>0) (A:=fun _=>0) (K:=[]) (st:=0) (r:=[]) H4 ⟨lz rfl,.inr ⟨rfl,rfl⟩⟩ ha fun{K A r st} s=>?_;rw[B3] at s;refine⟨lz rfl,yD pr ?_⟩;refine yF pr ?_;refine su pr (p:=1) s ⟨lz rfl,.inl fun k h=>wm (sub k h)⟩ hg fun{K A r st} s=>?_;refine yD pr ?_;refine yF pr ?_;refine su pr (p:=2) s ⟨lz rfl,.inl fun k h=>wj _ (wm (sub2 k h))⟩ hh fun{K A r st} s=>?_;refine bJ (Cp pr (fun k=>Ce (gs:=[g,h])) s fun{Sl r x5 x9 x11} s hsl=>?_);have hp:∀k∈cU (ek args [g,h]) (cV K),k∈K∧k4 g h k=2:=fun k m=>⟨sX.mp (fz.mp m).1,yj (fz.mp m).2 (Ce (gs:=[g,h]))⟩;refine dB (lz rfl) ?_;rw[uU,uV];refine⟨lz rfl,Ex.mk (v:=(cU (ek args [g,h]) (cV K)).length+1) (Ft s hp ?_ (cP _))⟩;refine aa (iL (i:=aH r+6) (dG (k:=1))) (iF (i:=aH r+6) (dG (k:=1)) (lz rfl) ?_);rw[yG (k:=1)];refine Ex.mk (v:=1) (RP s hp ?_);refine aa (iL (i:=aH r+6) (dG (k:=1))) (iF (i:=aH r+6) (dG (k:=1)) (lz rfl) ?_);rw[yG (k:=1)];refine ff (i:=aH r+5) eJ ?_;rw[gi];refine G6 pr (i:=aH _) cW ?_;rw[iz,uU,uV];exact⟨rfl,q s hsl⟩
end
section
variable{W:Wd}(pr:bA W){n:Nat}{H:AH}
theorem Qn{i c m f:Nat}{fl:List (Nat×V)}{P:Nat→Prop}(hc:aB H i=some (.inst c fl))(h:eN fl m=none)(e:sC c m=some f)(q:P f):wJ W m (.obj i) H P:=by
 show ob (aB H i) _ _;rw[hc];show ob (eN fl m) _ _;rw[h];show ob (sC c m) _ _;rw[e];exact q
theorem yz{c a:Nat}{fl:List (Nat×V)}{v:V}{r:AH}{y:Cell}{F:Fa}{Q:K2}(h:fU c a=false)(z:Nat.ble (aH fl) 800=true)(q:Q .aL F (app H (.inst c (pM fl a v)::(r++[y])))):oy a (.obj (aH H)) v F (app (app H (.inst c fl::r)) [y]) Q:=by
 rw[fP];refine gB eJ h z ?_;show Q .aL F (aq (app H (.inst c fl::(r++[y]))) _ (aH H));rw[o4];exact q
include pr
theorem KU{z p:Nat}{fl:List (Nat×V)}{cnt:V}{Q:K1}(hz:aB H z=some (.inst 6 fl))(hcn:eN fl 1526583357044=some cnt)(q:Q .none (app H [.inst 5 [(399558432417132,.obj z),(6181118318,.obj p),(5963211877,.obj (aH H+1)),(6230992238,.obj (aH H+2)),(1565236879724,.obj (aH H+3)),(7431401238237797656773434007450233,cnt)],.lst [],.set [],.set []])):
  Fi W (n+1) 18 [.obj (aH H),.obj z,.obj p] (app H [.inst 5 []]) Q:=by
 refine pr.fe MI rfl ?_;refine gB eJ rfl rfl ?_;rw[o4];refine gB eJ rfl rfl ?_;rw[o4];refine dB (lz rfl) (yz rfl rfl (yz rfl rfl (yz rfl rfl (iG (dQ hz) rfl hcn (gB eJ rfl rfl ?_)))));rw[o4,len_app,len_app,len_app];exact q
end
section
variable{r:Nat→Nat}
theorem d0{α:Type}{enc:α→V}(h:∀x,mv r (enc x)=enc x):∀{l:List α},d6 r (l.map enc)=l.map enc
 | []=>rfl
 |x::l=>(aE (·::d6 r (l.map enc)) (h x)).trans (aE (enc x::·) (d0 h (l:=l)))
theorem lE{t:U.Tm}:mv r (aC t)=aC t:=by
 induction t with
 |v n=>rfl
 |c k z=>rfl
 |s1 f x ih=>exact aE (fun y=>V.tup [.str [115],.int f,.tup [y]]) ih
 |s2 f x y i1 i2=>exact congr (aE (fun y z=>V.tup [.str [115],.int f,.tup [y,z]]) i1) i2
theorem pe{g:Nat×List U.Tm}:mv r (bE g)=bE g:=aE (fun l=>V.tup [.str [99,97,108,108],.int g.1,.tup l]) (d0 fun _=>lE)
theorem u3{l:List Nat}:d6 r (aZ l)=aZ l:=by rw[nP];exact d0 fun _=>rfl
theorem GN{i:U.ak}:mv r (hY i)=hY i:=by cases i<;>rfl
end
noncomputable def gD(P:Nat→Cell→Prop):List Nat→AH→Prop
 | [],[]=>True
 |i::σ,c::H=>au (P i c) (gD P σ H)
 |_,_=>False
section
variable{P:Nat→Cell→Prop}
theorem gD.at_:∀{σ:List Nat} {H:AH} {j i:Nat},gD P σ H→σ[j]?=some i→∃c,H[j]?=some c∧P i c
 |_::_,c::_,0,_,⟨p,_⟩,e=>⟨c,rfl,av e▸p⟩
 |_::σ,_::H,j+1,_,⟨_,q⟩,e=>gD.at_ (σ:=σ) (H:=H) (j:=j) q e
theorem gD.len:∀{σ:List Nat} {H:AH},gD P σ H→H.length=σ.length
 | [],[],_=>rfl
 |_::_,_::_,⟨_,q⟩=>aE Nat.succ (gD.len q)
theorem gD.map{α:Type}{f:α→Nat}{g:α→Cell}:∀{l:List α},(∀x∈l,P (f x) (g x))→gD P (l.map f) (l.map g)
 | [],_=>bx
 |x::l,h=>⟨h x (.head _),gD.map fun y m=>h y (.tail _ m)⟩
end
theorem pN{W:Wd}{σ:List Nat}{H H1:AH}(nd:σ.Nodup)(ok:gD (fun i c=>aB H i=some (mc (rn σ H.length) c)) σ H1){n f:Nat}{vs:List V}{Q:K1}(q:Fi W n f vs H1 fun v H1'=>∀{H'},Bg σ H H1' H'→Q (mv (rn σ H.length) v) H'):Fi W n f (d6 (rn σ H.length) vs) H Q:=
 frame nd ok.len (fun e=>let ⟨c,a,b⟩:=ok.at_ e;⟨c,a,aj▸b⟩) q
theorem LG{f:Nat→V}{K:List Nat}{k:Nat}(h:k∈K):aR (fW f K) (.int (k:Int))=some (f k):=by
 induction K with
 |nil=>cases h
 |cons m l ih=>
  by_cases e:m=k
  ·subst e;exact iD
  ·exact(gA fun q=>e (k9 _ _ q)).trans (ih ((a8.mp h).resolve_left fun q=>e q.symm))
structure Pc(H:AH)(z gl p d lv ch st N es:Nat)(fn:Int)(ne:Bool)(args:List U.Tm)(goals:List (Nat×List U.Tm))(lives chs K:List Nat)(C L:Nat→Nat)(Kd:Nat→List Nat)(Sl A:Nat→Nat):Prop where
 uh:aB H z=some (.inst 6 [(100897158637842290,.int fn),(5929854835,.tup (args.map aC)),(1543761914995,.obj gl),(1526583357044,.int (N:Nat))])
 xw:aB H gl=some (.lst (goals.map bE))
 zw:aB H p=some (.inst 8 [(1552335400819,.obj d),(390775274630003,.obj ch),(6758814687394858888822,.bool ne),(25755653471308708453,.int (es:Nat)),(1720886839222231419348338,.obj lv)])
 xM:aB H d=some (.dict (fW (fun k=>.obj (A k)) K) st)
 y9:aB H lv=some (.lst (aZ lives))
 rN:aB H ch=some (.lst (aZ chs))
 inf:∀k∈K,∃first,aB H (A k)=some (.inst 7 (fY k (Kd k) (Sl k) first (L k) (C k)))
 nd:(p::d::lv::z::gl::ch::K.map A).Nodup
noncomputable def mU(m p d lv z gl ch:Nat)(KA:List Nat):List Nat:=m::(m+1)::(m+2)::(m+3)::p::d::lv::z::gl::ch::KA
noncomputable def vI(pl:U.Pl)(K lives chs:List Nat)(st N es:Nat)(fn:Int)(ne:Bool)(args:List U.Tm)(goals:List (Nat×List U.Tm))(R:List U.ak):Cx:=⟨pl,K,fW (fun k=>.obj (K.idxOf k+10)) K,st,ne,es,aZ lives,.int fn,args.map aC,.int (N:Nat),goals.map bE,aZ chs,R⟩
section
variable{H:AH}{z gl p d lv ch st N es:Nat}{fn:Int}{ne:Bool}{args:List U.Tm}{goals:List (Nat×List U.Tm)}{lives chs K:List Nat}{C L:Nat→Nat}{Kd:Nat→List Nat}{Sl A:Nat→Nat}(P:Pc H z gl p d lv ch st N es fn ne args goals lives chs K C L Kd Sl A)
include P
theorem Pc.lt:∀x∈p::d::lv::z::gl::ch::K.map A,x<H.length:=fun x m=>by
 simp only[a8] at m;rcases m with rfl|rfl|rfl|rfl|rfl|rfl|m
 ·exact eQ P.zw
 ·exact eQ P.xM
 ·exact eQ P.y9
 ·exact eQ P.uh
 ·exact eQ P.xw
 ·exact eQ P.rN
 ·obtain⟨k,hk,rfl⟩:=cg.mp m;obtain⟨_,h⟩:=P.inf k hk;exact eQ h
theorem Pc.nodup:(mU (aH H) p d lv z gl ch (K.map A)).Nodup:=eZ.mpr ⟨List.nodup_range' (s:=aH H) (n:=4),P.nd,fun a ha b hb e=>by
 have:=P.lt b hb
 rw[←e,←cT] at this;exact eA _ (bj this (List.mem_range'_1.mp ha).1)⟩
theorem Pc.all{pl:U.Pl}{R:List U.ak}{m:Nat}{HB:AH}(hB:HB=app H [.inst 5 [(399558432417132,.obj z),(6181118318,.obj p),(5963211877,.obj (aH H+1)),(6230992238,.obj (aH H+2)),(1565236879724,.obj (aH H+3)),(7431401238237797656773434007450233,.int (N:Nat))],.lst [],.set [],.set []])(nK:K.Nodup):
  gD (fun i c=>aB HB i=some (mc (rn (mU (aH H) p d lv z gl ch (K.map A)) m) c)) (mU (aH H) p d lv z gl ch (K.map A)) (hM (vI pl K lives chs st N es fn ne args goals R) (K.map fun k=>(aB H (A k)).getD (.set [])) [] ⟨[],[],N⟩):=by
 have e:gr (rn (mU (aH H) p d lv z gl ch (K.map A)) m) (fW (fun k=>.obj (K.idxOf k+10)) K)=fW (fun k=>.obj (A k)) K:=by
  unfold gr fW;rw[fJ];refine g8 fun k hk=>?_;have hi:=bh (jG.mpr hk);rw[mz] at hi
  have:(mU (aH H) p d lv z gl ch (K.map A))[K.idxOf k+10]?=some (A k):=(fI (i:=K.idxOf k) (f:=A) (l:=K)).trans (aE (Option.map A) hi)
  exact aE (fun i=>(Atom.int (k:Int),V.obj i)) (mY this)
 subst hB;refine⟨eJ,dG (k:=1),dG (k:=2),dG (k:=3),dQ P.zw,dQ (P.xM.trans (aE (fun l=>some (Cell.dict l st)) e.symm)),dQ (P.y9.trans (aE (fun l=>some (Cell.lst l)) u3.symm)),dQ (P.uh.trans (aE (fun l=>some (Cell.inst 6 [(100897158637842290,.int fn),(5929854835,.tup l),(1543761914995,.obj gl),(1526583357044,.int (N:Nat))])) (d0 fun _=>lE).symm)),dQ (P.xw.trans (aE (fun l=>some (Cell.lst l)) (d0 fun _=>pe).symm)),dQ (P.rN.trans (aE (fun l=>some (Cell.lst l)) u3.symm)),gD.map fun k hk=>?_⟩;obtain⟨f,h⟩:=P.inf k hk;rw[h];exact dQ h
end
structure Pk(pl:U.Pl)(K:List Nat)(L:Nat→Nat)(Kd:Nat→List Nat)(Sl:Nat→Nat):Prop where
 nK:K.Nodup
 kl:K.length<4000
 kd:∀k∈K,Kd k=kindS pl k
 sl:∀k∈K,pl.perm k=true→Sl k=pl.slot k
 ex:∀k∈K,pl.void k=true→pl.perm k=false
section
variable{W:Wd}(pr:bA W){n:Nat}{H:AH}{z gl p d lv ch st N es:Nat}{fn:Int}{ne:Bool}{args:List U.Tm}{goals:List (Nat×List U.Tm)}{lives chs K:List Nat}{C L:Nat→Nat}{Kd:Nat→List Nat}{Sl A:Nat→Nat}(P:Pc H z gl p d lv ch st N es fn ne args goals lives chs K C L Kd Sl A){pl:U.Pl}(k:Pk pl K L Kd Sl)
include P k
theorem Pc.ok{R:List U.ak}(zR:R.length≤aJ):(vI pl K lives chs st N es fn ne args goals R).Ok (K.map fun k=>(aB H (A k)).getD (.set [])):=⟨fun j (hj:j∈K)=>by
 obtain⟨f,h⟩:=P.inf j hj;have hi:=bh (jG.mpr hj);rw[mz] at hi;refine⟨K.idxOf j,fY j (Kd j) (Sl j) f (L j) (C j),LG hj,?_,aE (fun s=>some (V.str s)) (k.kd j hj),fun e=>aE (fun s:Nat=>some (V.int (s:Int))) (k.sl j hj e),rfl⟩;rw[aj,fI,hi];show some ((aB H (A j)).getD _)=_;rw[h];rfl,k.ex,k.kl,zR⟩
include pr
theorem Kg{la:Nat}{s:V}(hla:1<goals.length→aB (aZ lives) 0=some (.int la))(h1:goals≠[])(h2:goals.length≤2)(zR:(U.gf pl N la ne es args goals).length≤aJ)(va:∀t∈args,(∀x,t.has x→x∈K)∧1+2*t.aU≤aJ)
  (v:∀g∈goals,∀t∈g.2,(t=.v (U.b5 t)∨t=.s1 32 (.v (U.b5 t)))∧U.b5 t∈K∧pl.void (U.b5 t)=false∧∃u∈args,u.has (U.b5 t)) {Q:K1}
  (q:∀{H'},aB H' (aH H+1)=some (.lst ((U.gf pl N la ne es args goals).map hY))→(∀{i x},aB H i=some x→i∉K.map A→aB H' i=some x)→Q (.obj (aH H+1)) H'):Fi W (n+9) 46 [s,.obj z,.obj p] H Q:=by
 refine pr.fe Mb rfl ?_;refine KU pr P.uh rfl ⟨rfl,Qn eJ rfl rfl ?_⟩;have nd:=P.nodup;generalize hB:app H [.inst 5 [(399558432417132,.obj z),(6181118318,.obj p),(5963211877,.obj (aH H+1)),(6230992238,.obj (aH H+2)),(1565236879724,.obj (aH H+3)),(7431401238237797656773434007450233,.int (N:Nat))],.lst [],.set [],.set []]=HB;have all:=P.all (pl:=pl) (R:=U.gf pl N la ne es args goals) (m:=HB.length) hB.symm k.nK;have up:∀{i x},aB H i=some x→aB HB i=some x:=fun h=>hB▸dQ h;refine pN (vs:=[.obj 0]) nd all (KY pr (X:=vI pl K lives chs st N es fn ne args goals (U.gf pl N la ne es args goals)) rfl rfl rfl hla h1 h2 (P.ok k zR) va (fun g m t mt=>have z:=v g m t mt;⟨⟨z.1,z.2.1,z.2.2.1⟩,z.2.2.2⟩) fun{G c} o {H'} b=>q ?_ fun{i x} hi ni=>?_)
 ·rw[aj,←d0 (r:=rn (mU (aH H) p d lv z gl ch (K.map A)) HB.length) fun _=>GN];exact b.fZ (j:=1) rfl
 ·rw[aj];have hx:=up hi;by_cases m:i∈mU (aH H) p d lv z gl ch (K.map A)
  ·obtain⟨j,hj⟩:=iR.mp m;obtain⟨c0,h0,h3⟩:=all.at_ hj;cases h3.symm.trans hx;have big:∀k,i≠aH H+k:=fun k e=>eA _ (bb (aA (aT _ k) (bS e.symm)) (cT (l:=H)▸eQ hi));have same:∀{y},(hM (vI pl K lives chs st N es fn ne args goals (U.gf pl N la ne es args goals)) G (U.gf pl N la ne es args goals) c)[j]?=some y→y=c0→H'[i]?=some (mc (rn (mU (aH H) p d lv z gl ch (K.map A)) HB.length) c0):=fun a e=>by
    have:=b.fZ a
    rw[mY hj,e] at this;exact this
   rcases j with _|_|_|_|_|_|_|_|_|_|j
   ·exact absurd (av hj).symm (big 0)
   ·exact absurd (av hj).symm (big 1)
   ·exact absurd (av hj).symm (big 2)
   ·exact absurd (av hj).symm (big 3)
   ·exact same rfl (av h0)
   ·exact same rfl (av h0)
   ·exact same rfl (av h0)
   ·exact same rfl (av h0)
   ·exact same rfl (av h0)
   ·exact same rfl (av h0)
   ·exact absurd (dj (show(K.map A)[j]?=some i from hj)) ni
  ·exact b.out m (aj▸hx)
end
noncomputable def kA(C L:Nat→Nat)(K:List Nat):List Nat:=cU (fun k=>kdOf (L k) (C k)) (cV K)
noncomputable def zq(C L:Nat→Nat)(K:List Nat):U.Pl:=U.vJ (fun k=>decide (C k=1)) (kA C L K)
section
variable{C L:Nat→Nat}{K:List Nat}
theorem QD{l c:Nat}:d5 (kdOf l c) [112,101,114,109]=true↔c≠1∧1<l:=by
 unfold kdOf;by_cases h1:c=1
 ·rw[aG h1];exact⟨(fun h=>nomatch h),fun h=>absurd h1 h.1⟩
 ·rw[aD h1];by_cases h2:1<l
  ·rw[aG h2];exact⟨fun _=>⟨h1,h2⟩,fun _=>rfl⟩
  ·rw[aD h2];exact⟨(fun h=>nomatch h),fun h=>absurd h.2 h2⟩
theorem vH{k:Nat}:k∈kA C L K↔k∈K∧C k≠1∧1<L k:=by
 unfold kA cU;rw[fz,sX,QD]
theorem G7{Sl A:Nat→Nat}{r:AH}(s:Sv K C L (fun k=>kdOf (L k) (C k)) Sl A r)(hsl:∀k∈kA C L K,Sl k=(kA C L K).idxOf k+1):Pk (zq C L K) K L (fun k=>kdOf (L k) (C k)) Sl where
 nK:=s.nd
 kl:=bb s.len (lz rfl)
 kd:=fun k hk=>by
  show kdOf (L k) (C k)=if decide (C k=1)=true then _ else if decide (k∈kA C L K)=true then _ else _
  unfold kdOf;by_cases h1:C k=1
  ·rw[aG h1,aG (a9 h1)]
  ·rw[aD h1,aD fun q=>h1 (c6 q)];by_cases h2:1<L k
   ·rw[aG h2,aG (a9 (vH.mpr ⟨hk,h1,h2⟩))]
   ·rw[aD h2,aD fun q=>h2 (vH.mp (c6 q)).2.2]
 sl:=fun k _ h=>hsl k (c6 h)
 ex:=fun k _ h=>a7 fun q=>(vH.mp q).2.1 (c6 h)
end
theorem yC{C L:Nat→Nat}{K:List Nat}{a b k:Nat}(mem:k∈K↔C k≠0)(ha:1≤a)(hb:1≤b)(hC:a+b≤C k):(decide (C k=1)=false)∧(1<L k→k∈kA C L K):=by
 have h2:1<C k:=bj (bj (dY 1) (d9 ha hb)) hC;exact⟨a7 fun e=>eA 1 (e▸h2),fun h=>vH.mpr ⟨mem.mpr fun e=>q5 1 (e▸h2),fun e=>eA 1 (e▸h2),h⟩⟩
section
variable{args:List U.Tm}{g h:Nat×List U.Tm}{k:Nat}
theorem tx:hU args [g] k=U.bZ k args+U.bZ k g.2:=aE (·+U.bZ k g.2) (cP _)
theorem t4:hU args [g,h] k=U.bZ k args+U.bZ k g.2+U.bZ k h.2:=aE (·+U.bZ k h.2) tx
theorem J1(e:U.bZ k h.2≠0):k4 g h k=2:=aD e
theorem n8(e:U.bZ k args≠0):∃u∈args,u.has k:=qX fun n=>e (U.Te fun u hu hh=>n ⟨u,hu,hh⟩)
structure Gt(sig:Nat→Nat)(args:List U.Tm)(g:Nat×List U.Tm):Prop where
 sg:sig g.1=g.2.length∧g.2.length≤100
 e:∀t∈g.2,t=.v (U.b5 t)∨t=.s1 32 (.v (U.b5 t))
 sub:∀k,U.bZ k g.2≠0→U.bZ k args≠0
theorem Gt.br{sig:Nat→Nat}(h:Gt sig args g){t:U.Tm}(m:t∈g.2):1≤U.bZ (U.b5 t) g.2:=U.p5 m ((h.e t m).elim (fun e=>by rw[e];rfl) fun e=>by rw[e];rfl)
theorem Gt.arg{sig:Nat→Nat}(h:Gt sig args g){t:U.Tm}(m:t∈g.2):U.bZ (U.b5 t) args≠0:=h.sub _ (eb (h.br m))
variable{sig:Nat→Nat}{N:Nat}{K:List Nat}(head:∀t∈args,t.WT∧∀k,t.has k→k<N)
include head
theorem UM(mem:∀{k},k∈K↔hU args [g] k≠0)(hg:Gt sig args g):U.Plan (zq (hU args [g]) (ky g) K) N sig (kA (hU args [g]) (ky g) K).length args [g] where
 inj:=U.EC
 head:=head
 once:=fun k h=>aA (aT _ _) (bS (tx.symm.trans (c6 h)))
 goal:=fun g' m=>by
  cases a6.mp m;exact⟨hg.sg,fun t mt=>⟨hg.e t mt,(yC (L:=ky g) (K:=K) mem (tZ (hg.arg mt)) (hg.br mt) (bS tx.symm)).1,n8 (hg.arg mt)⟩⟩
 FZ:=fun _ _ e=>nomatch e
theorem UN(mem:∀{k},k∈K↔hU args [g,h] k≠0)(hg:Gt sig args g)(hh:Gt sig args h):U.Plan (zq (hU args [g,h]) (k4 g h) K) N sig (kA (hU args [g,h]) (k4 g h) K).length args [g,h]:=by
 have v2:∀{t},t∈h.2→(decide (hU args [g,h] (U.b5 t)=1)=false)∧(1<k4 g h (U.b5 t)→U.b5 t∈kA (hU args [g,h]) (k4 g h) K):=fun mt=>yC mem (tZ (hh.arg mt)) (hh.br mt) (aA (bp (aT _ _) _) (bS t4.symm));refine⟨U.EC,head,fun k h=>aA (aA (aT _ _) (aT _ _)) (bS (t4.symm.trans (c6 h))),fun g' m=>?_,fun a b e t mt=>?_⟩
 ·rcases a8.mp m with rfl|m
  ·exact⟨hg.sg,fun t mt=>⟨hg.e t mt,(yC (L:=k4 g' h) (K:=K) mem (tZ (hg.arg mt)) (hg.br mt) (aA (aT _ _) (bS t4.symm))).1,n8 (hg.arg mt)⟩⟩
  ·cases a6.mp m;exact⟨hh.sg,fun t mt=>⟨hh.e t mt,(v2 mt).1,n8 (hh.arg mt)⟩⟩
 ·cases (oV (oV e).2).1;have o:=(v2 mt).2 (by rw[J1 (eb (hh.br mt))];exact dY 1)
  exact⟨a9 o,U.Nn o⟩
end
theorem pB{x:Int}(h0:0≤x)(h:x<2 ^ 64):Builtin.Int.intBits x≤4096:=by
 unfold Builtin.Int.intBits;split
 ·exact bW _
 ·rename_i hx;have hn:x.natAbs≠0:=fun q=>hx (by rw[Int.natAbs_eq_zero.mp q];rfl)
  have h1:x.natAbs<2 ^ 64:=by omega
  have:=(Nat.log2_lt hn).mpr h1
  omega
theorem DZ{x m:Int}(h:0<m):0≤Int.fmod x m∧Int.fmod x m<m:=⟨Int.fmod_nonneg_of_pos x h,Int.fmod_lt_of_pos x h⟩
theorem Li{x:Int}{m:Nat}(h:0<m):∃r:Nat,Int.fmod x (m:Int)=(r:Int)∧r<m:=by
 obtain⟨h1,h2⟩:=DZ (x:=x) (m:=(m:Int)) (fu.mpr h);exact⟨(Int.fmod x m).toNat,(Int.toNat_of_nonneg h1).symm,fu.mp ((Int.toNat_of_nonneg h1).symm▸h2)⟩
theorem SQ{x b:Int}(h0:0≤x)(h:x<2305843009213693951)(b0:0≤b)(hb:b≤1000000):(0≤x+104729*b+17∧x+104729*b+17<2 ^ 64)∧(0≤6364136223846793005+2*b∧6364136223846793005+2*b<2 ^ 64):=by omega
@[reducible] noncomputable def Oz:aK:=(.cons (.bw (.var 0) (.const (.int 0)) (.op (.bin .Mod) (.cons (.op (.bin .Mult) (.cons (.op (.bin .Add) (.cons (.op (.bin .Add) (.cons (.op (.bin .Mod) (.cons (.var 3) (.cons (.const (.int 2305843009213693951)) .nil))) (.cons (.op (.bin .Mult) (.cons (.const (.int 104729)) (.cons (.var 2) .nil))) .nil))) (.cons (.const (.int 17)) .nil))) (.cons (.op (.bin .Add) (.cons (.const (.int 6364136223846793005)) (.cons (.op (.bin .Mult) (.cons (.const (.int 2)) (.cons (.var 2) .nil))) .nil))) .nil))) (.cons (.const (.int 2305843009213693951)) .nil)))) .nil)
theorem KO{d:Prop}{t:Bool}{a b:BT}{F:Fa}{H:AH}{Q:K2}(q:b F H Q):cBool d (.bool t) fun _=>E3 a b F Q (.bool false) H:=q
@[reducible] noncomputable def dI(R:AH)(S:List Int)(a:Int)(b:Nat):AH:=.lst [.int a,.int (b:Int),.lst (S.map .int)]::R
section
variable{W:Wd}(pr:bA W){R:AH}{n m b:Nat}{S:List Int}{a:Int}(hS:S≠[])(hb:b≤1000000)(hm:0<m)(hm2:m<1073741824){Q:K1}
 (q:∀{r:Nat} {a':Int} {b':Nat},r<m→b'≤b+1→Q (.int (r:Int)) (dI R S a' b'))
theorem DB(hb:b≤1000000){a:Int}{cell:Int}{b1:Nat}{x1 x4:Option V}{K:K2}(k:∀{a1},K .aL [some (.obj 0),x1,some (.int (b:Int)),some (.int cell),x4] (dI R S a1 b1)):aQ W n Oz [some (.obj 0),x1,some (.int (b:Int)),some (.int cell),x4] (dI R S a b1) K:=by
 obtain⟨x1,x2⟩:=DZ (x:=cell) (m:=2305843009213693951) (by decide)
 have b0:(0:Int)≤b:=eH b;have b1:(b:Int)≤1000000:=kW.mpr hb;obtain⟨⟨y1,y2⟩,y3,y4⟩:=SQ x1 x2 b0 b1;have b2:(b:Int)<2 ^ 64:=v7 b1 (by decide)
 exact fC (q8.int (by decide)) (fC (wa.int (pB (by decide) (by decide)) (pB b0 b2)) (fC (wa.int (pB (by decide) (by decide)) (pB b0 b2)) (fC (wa.int (pB y1 y2) (pB y3 y4)) (fC (q8.int (by decide)) ⟨lz rfl,k⟩))))
include hm hm2 q
theorem DC{a1:Int}{b1:Nat}{x2 x3:Option V}(hb1:b1≤b+1):aQ W n (dp 1 yY) [some (.obj 0),some (.int (m:Int)),x2,x3,none] (dI R S a1 b1) (gM Q):=by
 obtain⟨r,e,hr⟩:=Li (x:=a1) hm;refine fC (q8.int (fu.mpr hm)) ?_;rw[e];exact fC (I7.int (fu.mpr hm) (show(m:Int)<((1073741824:Nat):Int) from fu.mpr hm2)) ⟨lz rfl,q (a':=Int.fdiv a1 m) hr hb1⟩
include pr hS hb
theorem hW:Fi W (n+1) 64 [.obj 0,.int (m:Int)] (dI R S a b) Q:=by
 have lS:0<S.length:=wD.mpr hS;refine pr.fe Mm rfl ?_;refine cM 1 ?_;by_cases ha:a<1000
 ·refine aa (a9 ha) ⟨lz rfl,yw (m:=b) (k:=S.length) rfl (aE Nat.cast (aN _)) lS ?_⟩;have hj:b % S.length<S.length:=q4 _ lS;refine bH (n7 (aj▸bh hj)) ?_;generalize S[b % S.length]=cell;by_cases hc:cell=0
  ·exact aa (a9 hc) (q (r:=0) hm (ai _))
  ·refine aX (a7 hc) ?_;have other:∀{a1:Int},Stop (aQ W n (dp 1 yY)) [some (.obj 0),some (.int (m:Int)),some (.int (b:Int)),some (.int cell),none] (dI R S a1 (b+1)) (gM Q):=bJ (DC hm hm2 q (ai _));by_cases h1:b<(S.map V.int).length
   ·refine aa (a9 (fu.mpr h1)) (fC (wb.int (by decide) (by decide)) ?_)
    by_cases h2:(10 ^ (18:Int).toNat:Int)≤cell
    ·exact aa (a9 h2) (fC (wb.int (by decide) (by decide)) (fC (q8.int (by decide)) ⟨lz rfl,other⟩))
    ·exact aX (a7 h2) (DB (b1:=b+1) hb other)
   ·exact aX (a7 fun e=>h1 (fu.mp e)) (KO (DB (b1:=b+1) hb other))
 ·exact aX (a7 ha) (bJ (DC hm hm2 q (cB _)))
end
structure Tz(d:Nat)(ns:List Nat)(t:U.Tm):Prop where
 wt:t.WT
 vs:∀x,t.has x→x∈ns
 dp:t.dep≤d
 sz:t.aU+1≤2 ^ (d+1)
theorem Tz.leaf{d:Nat}{ns:List Nat}{t:U.Tm}(wt:t.WT)(vs:∀x,t.has x→x∈ns)(dp:t.dep=0)(sz:t.aU=1):Tz d ns t:=⟨wt,vs,dp▸bW _,by rw[sz,wU];exact Nat.mul_le_mul_right 2 (Nat.one_le_two_pow (n:=d))⟩
section
variable{b b' b1 b2 P X t u:Nat}
theorem IB(h:b+(P+P)≤1000000)(p:3≤P):b+2≤1000000:=aA (cq (aA (fK p) (aT P P)) b) h
theorem IC(p:3≤P)(h:b'≤b+2):b'+1≤b+(P+P):=aA (cI h) (cq (aA p (aT P P)) b)
theorem WG(hb:b+(P+P)≤1000000)(p:3≤P)(h:b'≤b+1):b'+P≤1000000:=aA (bp (aA h (cq (aA (by decide) p) b)) P) (by rw[bP];exact hb)
theorem WH(p:3≤P)(h:b'≤b+1)(h1:b1+1≤b'+P):b1+1≤b+(P+P):=aA h1 (by rw[←bP];exact bp (aA h (cq (aA (by decide) p) b)) P)
theorem AZ(h:b'≤b+1)(h1:b1+1≤b'+P):b1≤b+P:=gY (aA h1 (by rw[←Nat.succ_add];exact bp h P))
theorem WI(h:b1≤b+P)(h2:b2+1≤b1+P):b2+1≤b+(P+P):=aA h2 (by rw[←bP];exact bp h P)
theorem ID(hb:b+(P+P)≤1000000)(h:b1≤b+P):b1+P≤1000000:=aA (bp h P) (by rw[bP];exact hb)
theorem XN(h:t+1≤X):t+1+1≤X*2:=by rw[Nat.mul_two];exact d9 h (aA (b9 1 t) h)
theorem XO(h:t+1≤X)(k:u+1≤X):t+u+1+1≤X*2:=by rw[Nat.mul_two,bP t,hE t (u+1)];exact d9 h k
end
noncomputable def i7(na:Nat):V:=.lst [.int (na:Int),.int 32,.int 33]
section
variable{W:Wd}(pr:bA W){R:AH}{n:Nat}{S:List Int}(hS:S≠[]){ns:List Nat}
include pr hS
theorem Ac{d b:Nat}{a:Int}(hb:b≤1000000){x1 x3 x4 x5:Option V}{x2:V}{Q:K1}(q:∀{t a' b'},Tz d ns t→b'≤b+1→Q (aC t) (dI R S a' b')):bC W (n+1) (.op .tup (.cons (.const (.str [105])) (.cons (.op .sub (.cons (.op .lst (.cons (.const (.int 0)) (.cons (.const (.int 1)) (.cons (.const (.int (-1))) (.cons (.op (.bin .Pow) (.cons (.const (.int 10)) (.cons (.const (.int 30)) .nil))) .nil))))) (.cons (.call 64 (.cons (.var 0) (.cons (.const (.int 4)) .nil))) .nil))) .nil))) [some (.obj 0),x1,some x2,x3,x4,x5] (dI R S a b) Q:=by
 refine fC (wb.int (by decide) (by decide)) (kD (lz rfl) (hW pr (m:=4) hS hb (by decide) (by decide) fun{r a' b'} hr hb'=>?_))
 have go:∀{z:Int},Tz d ns (.c false z):=fun{z}=>.leaf bx (fun x h=>h.elim) rfl rfl;rcases r with _|_|_|_|r
 ·exact q (t:=.c false 0) go hb'
 ·exact q (t:=.c false 1) go hb'
 ·exact q (t:=.c false (-1)) go hb'
 ·exact q (t:=.c false (10 ^ (30:Int).toNat)) go hb'
 ·exact absurd hr (fL.mpr (b9 4 r))
variable(hns:ns≠[])(hn:ns.length<1000)
include hns hn
theorem II{na b:Nat}{a:Int}{z:Option V}(hb:b+2≤1000000){Q:K1}(q:∀{t a' b'},(∀d,Tz d ns t)→b'≤b+2→Q (aC t) (dI R S a' b'))(k:∀{r:Nat} {a' b'},4≤r→r<8→b'≤b+1→aQ W (n+1) (dp 3 yc) [some (.obj 0),some (i7 na),z,some (.lst (aZ ns)),some (.int (r:Nat)),none] (dI R S a' b') (gM Q)):
  aQ W (n+1) yc [some (.obj 0),some (i7 na),z,some (.lst (aZ ns)),none,none] (dI R S a b) (gM Q):=by
 refine cM 3 (hW pr (m:=8) hS (aA (aT _ 2) hb) (by decide) (by decide) fun{r a' b'} hr hb'=>?_)
 have hb2:b'≤1000000:=aA hb' (fK hb);by_cases h:r<3
 ·refine aa (a9 (fu.mpr h)) (hW pr (m:=(aZ ns).length) hS hb2 (by rw[gi];exact wD.mpr hns) (by rw[gi];exact iU hn (by decide)) fun{r a2 b2} hr hb2=>?_)
  rw[gi] at hr;exact bH (rR (bh hr)) (q (t:=.v ns[r]) (fun d=>.leaf bx (fun x h=>(show ns[r]=x from h)▸iQ hr) rfl rfl) (aA hb2 (cI hb')))
 ·refine aX (a7 fun e=>h (fu.mp e)) ?_;by_cases h3:r=3
  ·refine aa (a9 (aE Nat.cast h3)) (kD (lz rfl) (hW pr (m:=2) hS hb2 (by decide) (by decide) fun{r a2 b2} hr hb2=>?_))
   rcases r with _|_|r
   ·exact q (t:=.c true 0) (fun d=>.leaf bx (fun x h=>h.elim) rfl rfl) (aA hb2 (cI hb'))
   ·exact q (t:=.c true na) (fun d=>.leaf bx (fun x h=>h.elim) rfl rfl) (aA hb2 (cI hb'))
   ·exact absurd hr (fL.mpr (b9 2 r))
  ·exact aX (a7 fun e=>h3 (dg e)) (bJ (k (Nat.lt_of_le_of_ne (lh h) fun e=>h3 e.symm) hr hb'))
theorem Ab{na:Nat}:∀{d:Nat} {a:Int} {b:Nat} {Q:K1},b+3*2 ^ d≤1000000→(∀{t a' b'},Tz d ns t→b'+1≤b+3*2 ^ d→Q (aC t) (dI R S a' b'))→Fi W (n+2+d) 79 [.obj 0,i7 na,.int (d:Nat),.lst (aZ ns)] (dI R S a b) Q:=by
 intro d
 induction d with
 |zero=>
  intro a b Q hb q;generalize hz:((0:Nat):Int)=z;refine pr.fe Du rfl ?_;refine II pr hS hns hn (z:=some (.int z)) (fK hb) (fun ht hb'=>q (ht 0) (cI hb')) fun{r a' b'} _ _ hb'=>?_;have hb2:b'≤1000000:=aA hb' (fK (fK hb));by_cases h4:r=4
  ·exact aa (a9 (aE Nat.cast h4)) (Ac (d:=0) pr hS hb2 fun ht h=>q ht (cI (aA h (cI hb'))))
  ·exact aX (a7 fun e=>h4 (dg e)) (aa (a9 hz.symm) (Ac (d:=0) pr hS hb2 fun ht h=>q ht (cI (aA h (cI hb')))))
 |succ d ih=>
  intro a b Q hb q;rw[show n+2+d=n+1+d+1 by rw[hE n 1 d,hE n 2 d]] at ih
  rw[show n+2+(d+1)=n+1+d+1+1 by rw[hE n 1 d,←bP,hE n 2 d]]
  have ih':∀{z:Int} {a:Int} {b:Nat} {Q:K1},z=d→b+3*2 ^ d≤1000000→(∀{t a' b'},Tz d ns t→b'+1≤b+3*2 ^ d→Q (aC t) (dI R S a' b'))→Fi W (n+1+d+1) 79 [.obj 0,i7 na,.int z,.lst (aZ ns)] (dI R S a b) Q:=fun e=>e▸ih;have e2:3*2 ^ (d+1)=3*2 ^ d+3*2 ^ d:=by rw[wU,←Nat.mul_assoc,Nat.mul_two]
  have p3:3≤3*2 ^ d:=Ba 3 (Nat.two_pow_pos d);rw[e2] at hb q;have hz0:((d+1:Nat):Int)≠0:=fun e=>nomatch dg e;have hz1:((d+1:Nat):Int)-1=d:=BA d 1;generalize ((d+1:Nat):Int)=z at hz0 hz1 ⊢;refine pr.fe Du rfl ?_;refine II (n:=n+1+d) (b:=b) pr hS hns hn (z:=some (.int z)) (IB hb p3) (fun ht hb'=>q (ht _) (IC p3 hb')) fun{r a' b'} _ _ hb'=>?_;by_cases h4:r=4
  ·exact aa (a9 (aE Nat.cast h4)) (Ac (d:=d+1) (b:=b') pr hS (aA (eI hb') (IB hb p3)) fun ht h=>q ht (IC p3 (aA h (cI hb'))))
  ·refine aX (a7 fun e=>h4 (dg e)) (aX (a7 hz0) (ih' hz1 (WG hb p3 hb') fun{t1 a1 b1} ht1 h1=>?_));by_cases h5:r=5
   ·refine aa (a9 (aE Nat.cast h5)) (q (t:=.s1 32 t1) ⟨⟨rfl,ht1.wt⟩,ht1.vs,cI ht1.dp,?_⟩ (WH p3 hb' h1));rw[wU 2 (d+1)];exact XN ht1.sz
   ·refine aX (a7 fun e=>h5 (dg e)) ?_;have fin:∀{f:Nat},f=0∨f=33→∀{t2 a2 b2},Tz d ns t2→b2+1≤b1+3*2 ^ d→Q (aC (.s2 f t1 t2)) (dI R S a2 b2):=fun{f} hf {t2 a2 b2} ht2 h2=>by
     refine q (t:=.s2 f t1 t2) ⟨⟨hf,ht1.wt,ht2.wt⟩,fun x h=>h.elim (ht1.vs x) (ht2.vs x),cI (tY.mpr ⟨ht1.dp,ht2.dp⟩),?_⟩ (WI (AZ hb' h1) h2);rw[wU 2 (d+1)];exact XO ht1.sz ht2.sz
    by_cases h6:r=6
    ·exact aa (a9 (aE Nat.cast h6)) (ih' hz1 (ID hb (AZ hb' h1)) (fin (.inl rfl)))
    ·exact aX (a7 fun e=>h6 (dg e)) (ih' hz1 (ID hb (AZ hb' h1)) (fin (.inr rfl)))
end
structure Iz(t u:U.Tm):Prop where
 wt:u.WT
 vs:∀x,u.has x→x∈[500,501,502]
 dp:u.dep≤t.dep+1
section
variable{b b' x y k:Nat}
theorem AF(h:b+7*(x+1)≤k):b+7≤k:=aA (cq (Ba 7 (nB x)) b) h
theorem He(h:b'≤b+7):b'≤b+7*(x+1):=AF (b:=b) (x:=x) (ai _)|> aA h
theorem AG(h:b'≤b+1):b'+7*x≤b+7*(x+1):=by rw[kb,bR (7*x),←bP];exact bp (aA h (cq (by decide) b)) _
theorem AI(h:b'≤b+1):b'+7*x+7*y≤b+7*(x+y+1):=by rw[bP,←Nat.mul_add];exact AG h
end
section
variable{W:Wd}(pr:bA W){R:AH}{S:List Int}(hS:S≠[]){na:Nat}
include pr hS
theorem ED{t:U.Tm}{m b:Nat}{a:Int}{Q:K1}(hb:b+6≤1000000)(q:∀{u a' b'},Iz t u→b'≤b+6→Q (aC u) (dI R S a' b')):Fi W (m+3) 79 [.obj 0,i7 na,.int 1,.lst (aZ [500,501,502])] (dI R S a b) Q:=
 Ab (n:=m) (d:=1) pr hS (ns:=[500,501,502]) (oW _ _) (by decide) hb fun h l=>q ⟨h.wt,h.vs,aA h.dp (b9 _ _)⟩ (fK l)
theorem yO{t:U.Tm}{m b:Nat}{a:Int}{Q:K1}(hv:t.bN=false)(hb:b+7≤1000000)(q:∀{u a' b'},Iz t u→b'≤b+7→Q (aC u) (dI R S a' b'))(k:∀{a' b'},b'≤b+1→aQ W (m+3) (dp 1 Ej) [some (.obj 0),some (i7 na),some (aC t),none] (dI R S a' b') (gM Q)):Fi W (m+4) 80 [.obj 0,i7 na,aC t] (dI R S a b) Q:=by
 refine pr.fe Dv rfl ?_;refine cM 1 (dZ (aX (cZ.trans hv) (hW pr (m:=8) hS (aA (aT _ 7) hb) (by decide) (by decide) fun{r a' b'} _ hb'=>?_)))
 by_cases h0:r=0
 ·exact aa (a9 (aE Nat.cast h0)) (kD (lz rfl) (ED pr hS (t:=t) (by omega) fun h l=>q h (by omega)))
 ·exact aX (a7 fun e=>h0 (dg e)) (bJ (k hb'))
theorem N2:∀{t:U.Tm} {m b:Nat} {a:Int} {Q:K1},t.WT→t.dep≤m→b+7*t.aU≤1000000→(∀{u a' b'},Iz t u→b'≤b+7*t.aU→Q (aC u) (dI R S a' b'))→Fi W (m+4) 80 [.obj 0,i7 na,aC t] (dI R S a b) Q:=by
 intro t
 induction t with
 |v k=>
  intro m b a Q _ _ hb q;refine pr.fe Dv rfl ?_;exact kD (lz rfl) (ED pr hS (t:=.v k) (fK hb) fun h l=>q h (eI l))
 |c c z=>
  intro m b a Q _ _ hb q;refine yO pr hS rfl hb q fun hb'=>?_;exact aX (eF (t:=.c c z)) (q ⟨bx,fun x h=>h.elim,cB _⟩ (aA hb' (cq (show 1≤7 from by decide) b)))
 |s1 f x ih=>
  intro m b a Q hw hm hb q;have hb:b+7*(x.aU+1)≤1000000:=hb;have q:∀{u a' b'},Iz (.s1 f x) u→b'≤b+7*(x.aU+1)→Q (aC u) (dI R S a' b'):=q
  cases m with
  |zero=>exact absurd hm (iV _)
  |succ m=>
   refine yO (m:=m+1) pr hS rfl (AF hb) (fun h l=>q h (He l)) fun hb'=>?_;exact⟨lz rfl,ih hw.2 (gY hm) (aA (AG hb') hb) fun{u a2 b2} h l=>⟨.val,q (u:=.s1 f u) ⟨⟨hw.1,h.wt⟩,h.vs,cI h.dp⟩ (aA l (AG hb'))⟩⟩
 |s2 f x y i1 i2=>
  intro m b a Q hw hm hb q;have hb:b+7*(x.aU+y.aU+1)≤1000000:=hb;have q:∀{u a' b'},Iz (.s2 f x y) u→b'≤b+7*(x.aU+y.aU+1)→Q (aC u) (dI R S a' b'):=q
  cases m with
  |zero=>exact absurd hm (iV _)
  |succ m=>
   have hm:max x.dep y.dep≤m:=gY hm;refine yO (m:=m+1) pr hS rfl (AF hb) (fun h l=>q h (He l)) fun hb'=>?_;exact⟨lz rfl,i1 hw.2.1 (aA (iS _ _) hm) (aA (aA (aT _ _) (AI (y:=y.aU) hb')) hb) fun{u a2 b2} h l=>i2 hw.2.2 (aA (iT _ _) hm) (aA (bp l _) (aA (AI hb') hb)) fun{u2 a3 b3} h2 l2=>⟨.val,q (u:=.s2 f u u2) ⟨⟨hw.1,h.wt,h2.wt⟩,fun z hz=>hz.elim (h.vs z) (h2.vs z),cI (tY.mpr ⟨aA h.dp (cI (iS _ _)),aA h2.dp (cI (iT _ _))⟩)⟩ (aA l2 (aA (bp l _) (AI hb')))⟩⟩
end
noncomputable def mF(s:List Nat):Atom:=.str s
noncomputable def mE(p:Nat×Nat):List Atom:=[.int (p.1:Int),.int (p.2:Int)]
theorem yo(a b:List Nat)(h:mF a=mF b):a=b:=Atom.str.inj h
theorem ym(a b:Nat×Nat)(h:mE a=mE b):a=b:=by
 injection h with h1 h2;injection h2 with h2;exact gZ (dg (Atom.int.inj h1)) (dg (Atom.int.inj h2))
noncomputable def l7(p:Nat×Nat):V:=.tup [.int (p.1:Int),.int (p.2:Int)]
@[reducible] noncomputable def dR(p:Cell)(R:AH)(ts:List (List Nat))(fs:List (Nat×Nat))(s s':Nat):AH:=p::.inst 0 [(1599430227059,.obj 2),(109388970062261371602777502323,.obj 3),(25829672611287626355,.obj 4),(1861224063156749765404099319326667379,.obj 5)]::.lst (ts.map V.str)::.dict (c5 mF 0 ts) s::.lst (fs.map l7)::.aY (c5 mE 0 fs) s'::R
noncomputable def cQ{α:Type}[DecidableEq α](l:List α)(x:α):List α:=if x∈l then l else l++[x]
noncomputable def gm{α:Type}[DecidableEq α](l:List α)(x:α):Nat:=0+l.idxOf x
theorem D4{α:Type}[DecidableEq α]{tb:List α}{n:α}(h:n∉tb):gm (tb++[n]) n=tb.length:=by unfold gm;rw[BL,aD h,BN,cP,cP]
section
variable{W:Wd}(pr:bA W){p:Cell}{R:AH}{n s s':Nat}{ts:List (List Nat)}{fs:List (Nat×Nat)}{Q:K1}
include pr
theorem w0{t:List Nat}(z:ts.length<1000)(q:∀{s},Q (.int (gm (cQ ts t) t:Nat)) (dR p R (cQ ts t) fs s s')):Fi W (n+1) 4 [.obj 1,.str t] (dR p R ts fs s s') Q:=by
 unfold cQ at q;refine pr.fe g4 rfl (cM 1 ?_);show Stop (aQ W n (dp 1 j4)) [some (.obj 1),some (.str t),some ((aR (c5 mF 0 ts) (mF t)).getD (.int (-1))),none] (dR p R ts fs s s') (gM Q);by_cases m:t∈ts
 ·rw[aG m] at q;rw[pI yo m];exact bJ q
 ·have el:(ts.map V.str).length=ts.length:=aN _;rw[aD m,D4 m] at q;have q:=q (s:=s+1);unfold dR at q;rw[←xS yo m,bt,←el] at q;rw[rQ yo m];exact bJ ⟨by rw[el];exact iU z (by decide),⟨by rw[nO];exact aA (dk z) (lz rfl),q⟩⟩
theorem MB{a k:Nat}(z:fs.length<1000)(q:∀{s'},Q (.int (gm (cQ fs (a,k)) (a,k):Nat)) (dR p R ts (cQ fs (a,k)) s s')):Fi W (n+1) 6 [.obj 1,.int (a:Nat),.int (k:Nat)] (dR p R ts fs s s') Q:=by
 unfold cQ at q;refine pr.fe g6 rfl (cM 2 ?_);show Stop (aQ W n (dp 2 j6)) [some (.obj 1),some (.int (a:Nat)),some (.int (k:Nat)),some (.tup [.int (a:Nat),.int (k:Nat)]),some ((aR (c5 mE 0 fs) (mE (a,k))).getD (.int (-1))),none] (dR p R ts fs s s') (gM Q);by_cases m:(a,k)∈fs
 ·rw[aG m] at q;rw[pI ym m];exact bJ q
 ·have el:(fs.map l7).length=fs.length:=aN _;rw[aD m,D4 m] at q;have q:=q (s':=s'+1);unfold dR at q;rw[←xS ym m,bt,←el] at q;rw[rQ ym m];exact bJ ⟨by rw[el];exact iU z (by decide),⟨by rw[nO];exact aA (dk z) (lz rfl),q⟩⟩
theorem Dq{t:List Nat}{k:Nat}(z:ts.length<1000)(z':fs.length<1000)(q:∀{s s'},Q (.int (gm (cQ fs (gm (cQ ts t) t,k)) (gm (cQ ts t) t,k):Nat)) (dR p R (cQ ts t) (cQ fs (gm (cQ ts t) t,k)) s s')):Fi W (n+2) 7 [.obj 1,.str t,.int (k:Nat)] (dR p R ts fs s s') Q:=by
 refine pr.fe g7 rfl ?_;exact w0 pr z (MB pr z' q)
end
noncomputable def s9:List (List Nat):=[[91,93],[46],[123,125],[45],[43],[42],[47],[44],[124],[59],[45,62],[92,43],[58,45],[63,45],[45,45,62],[33],[116,114,117,101],[102,97,105,108],[102,97,108,115,101],[99,97,108,108],[61],[94],[101,114,114,111,114],[],[101,110,100,95,111,102,95,102,105,108,101],[115,121,115,116,101,109],[36,86,65,82],[99,97,116,99,104],[116,104,114,111,119]]
noncomputable def xh:List (List Nat×Nat):=[([46],2),([44],2),([59],2),([45,62],2),([92,43],1),([58,45],2),([58,45],1),([63,45],1),([45,45,62],2),([123,125],1),([61],2),([94],2),([45],1),([45],2),([43],2),([47],2),([101,114,114,111,114],2),([36,86,65,82],1),([99,97,116,99,104],3),([116,104,114,111,119],1),([33],0),([116,114,117,101],0),([102,97,105,108],0),([102,97,108,115,101],0),([99,97,108,108],1),([99,97,108,108],2),([99,97,108,108],3),([99,97,108,108],4),([99,97,108,108],5),([99,97,108,108],6),([99,97,108,108],7),([99,97,108,108],8)]
noncomputable def f6(p:List (List Nat)×List (Nat×Nat))(r:List Nat×Nat):List (List Nat)×List (Nat×Nat):=(cQ p.1 r.1,cQ p.2 (gm (cQ p.1 r.1) r.1,r.2))
theorem o3{α:Type}[DecidableEq α]{l:List α}{x:α}:(cQ l x).length≤l.length+1:=by
 unfold cQ;split
 ·exact cB _
 ·exact bS a5
noncomputable def sj:List (List Nat)×List (Nat×Nat):=xh.foldl f6 (s9.foldl cQ [],[])
theorem Ls{α:Type}[DecidableEq α]{l:List α}:∀{ts:List α},(l.foldl cQ ts).length≤ts.length+l.length:=by
 induction l with
 |nil=>exact ai _
 |cons t l ih=>exact aA ih (aA (bp o3 _) (by rw[bP,bR 1];exact ai _))
section
variable{W:Wd}(pr:bA W){P0:Cell}{R:AH}{n s':Nat}{fs:List (Nat×Nat)}
include pr
theorem Wc{Q:K2}:∀{l ts:List (List Nat)} {s:Nat} {o:Option V},ts.length+l.length≤900→(∀{s o},Q .aL [some (.obj 1),o,none] (dR P0 R (l.foldl cQ ts) fs s s'))→cf 1 (aQ W (n+1) EK) (l.map V.str) [some (.obj 1),o,none] (dR P0 R ts fs s s') Q:=by
 intro l
 induction l with
 |nil=>exact fun{ts s o} _ q=>q
 |cons t l ih=>exact fun{ts s o} z q=>eO fun K k=>w0 pr (bb (aA (aT _ _) z) (by decide)) fun{s}=>k (ih (aA (bp o3 _) (by rw[bP,bR 1];exact z)) q)
theorem VH{x:Option V}{Q:K2}:∀{l:List (List Nat×Nat)} {p:List (List Nat)×List (Nat×Nat)} {s s':Nat} {o:Option V},p.1.length+l.length≤900→p.2.length+l.length≤900→(∀{s s' o},Q .aL [some (.obj 1),x,o] (dR P0 R (l.foldl f6 p).1 (l.foldl f6 p).2 s s'))→cf 2 (aQ W (n+2) EL) (l.map fun(r:List Nat×Nat)=>V.tup [.str r.1,.int (r.2:Nat)]) [some (.obj 1),x,o] (dR P0 R p.1 p.2 s s') Q:=by
 intro l
 induction l with
 |nil=>exact fun{p s s' o} _ _ q=>q
 |cons r l ih=>exact fun{p s s' o} z1 z2 q=>eO fun K k=>Dq pr (bb (aA (aT _ _) z1) (by decide)) (bb (aA (aT _ _) z2) (by decide)) fun{s s'}=>k (ih (p:=f6 p r) (aA (bp o3 _) (by rw[bP,bR 1];exact z1)) (aA (bp o3 _) (by rw[bP,bR 1];exact z2)) q)
theorem V9{Q:K1}(q:∀{s s'},Q .none (dR P0 [] sj.1 sj.2 s s')):Fi W (n+3) 3 [.obj 1] [P0,.inst 0 []] Q:=by
 refine pr.fe g3 rfl ?_;refine dB (lz rfl) (jx (dB (lz rfl) (uu ?_)));refine pr.fe g1 rfl ?_;refine Wc (n:=n+1) pr (l:=s9) (ts:=[]) (fs:=[]) (s:=0) (s':=0) (o:=none) (lz rfl) fun{s o}=>?_;refine pr.fe g2 rfl ?_;exact VH pr (l:=xh) (p:=(s9.foldl cQ [],[])) (o:=none) (aA (bp (Ls (l:=s9) (ts:=[])) _) (lz (a:=[].length+s9.length+xh.length) (b:=900) rfl)) (lz rfl) fun{s s' o}=>q
end
noncomputable def gn(p:U.Place):List Atom:=[.str [p.1],.int (p.2:Nat)]
theorem yn{p q:U.Place}(h:gn p=gn q):p=q:=by
 injection h with h1 h2;injection h2 with h2;exact gZ (oV (Atom.str.inj h1)).1 (dg (Atom.int.inj h2))
noncomputable def bK(l:List (U.Place×U.Tm)):List (List Atom×V):=l.map fun p=>(gn p.1,aC p.2)
noncomputable def encL(l:List Nat):List (Atom×V):=l.map fun(x:Nat)=>(Atom.int (x:Int),V.int (-2))
section
variable{l:List (U.Place×U.Tm)}{L:List Nat}{p:U.Place}{t:U.Tm}{x:Nat}
theorem xT:aR (bK l) (gn p)=(aR l p).map aC:=by
 unfold bK
 induction l with
 |nil=>rfl
 |cons q l ih=>
  obtain⟨k,u⟩:=q;by_cases e:k=p
  ·subst e;exact iD.trans (aE (Option.map aC) iD.symm)
  ·exact(gA fun q=>e (yn q)).trans (ih.trans (aE (Option.map aC) (gA e).symm))
theorem DH:bc (bK l) (gn p) (aC t)=bK (bc l p t):=by
 have e:((bK l).any fun q=>decide (q.1=gn p))=l.any fun q=>decide (q.1=p):=by
  unfold bK;rw[List.any_map];exact aE (l.any ·) (funext fun q=>l5.mpr ⟨yn,aE gn⟩)
 unfold bc;rw[e]
 cases l.any fun q=>decide (q.1=p) with
 |true=>
  rw[aG rfl,aG rfl];unfold bK;rw[fJ,fJ];refine g8 fun q _=>?_;obtain⟨k,u⟩:=q;show(if gn k=gn p then _ else _)=(gn (if k=p then(k,t) else(k,u)).1,aC (if k=p then(k,t) else(k,u)).2)
  by_cases h:k=p
  ·rw[aG h,aG (aE gn h)]
  ·rw[aD h,aD fun q=>h (yn q)]
 |false=>
  rw[aD ax,aD ax];unfold bK;rw[bt];rfl
theorem uK:aR (encL L) (.int (x:Int))=if x∈L then some (.int (-2)) else none:=by
 unfold encL
 induction L with
 |nil=>exact(aD dM).symm
 |cons y L ih=>
  by_cases e:y=x
  ·subst e;exact iD.trans (aG (.head _)).symm
  ·refine(gA fun q=>e (dg (Atom.int.inj q))).trans (ih.trans ?_);by_cases m:x∈L
   ·rw[aG m,aG (.tail _ m)]
   ·rw[aD m,aD fun q=>(a8.mp q).elim (fun q=>e q.symm) m]
theorem LI:nV (encL L) (.int (x:Int))=encL (L.filter fun n=>decide (U.Tm.v x≠.v n)):=by
 unfold nV encL;rw[List.filter_map];refine aE (List.map _) (List.filter_congr fun y _=>l5.mpr ⟨fun h q=>h (aE (fun n:Nat=>Atom.int (n:Int)) (U.Tm.v.inj q).symm),fun h q=>h (aE U.Tm.v (dg (Atom.int.inj q)).symm)⟩)
end
structure Fx where
 c1:Cell
 c2:Cell
 fs:List (Nat×Nat)
 c4:Cell
 code:List U.ak
 call:List U.Tm
 picks:List Nat
@[reducible] noncomputable def hF(X:Fx)(b:U.Bd)(st:Nat)(evs:List U.Ev)(ks:List U.Tm)(G:AH):AH:=.inst 0 [(1599430227059,.obj 1),(109388970062261371602777502323,.obj 2),(25829672611287626355,.obj 3),(1861224063156749765404099319326667379,.obj 4)]::X.c1::X.c2::.lst (X.fs.map l7)::X.c4::.lst (X.code.map hY)::.dict (dH b) st::.lst (X.call.map aC)::.lst (evs.map eM)::.lst (ks.map aC)::G
@[reducible] noncomputable def fF(X:Fx)(h r sp:Nat)(lv:Int)(x8 x10 x11:Option V)(t:Fa):Fa:=some (.obj 0)::some (.obj 5)::some (.obj 6)::some (.obj 7)::some (.lst (eD X.picks))::some (.obj 8)::some (.obj 9)::some (.obj (h+10))::x8::some (.obj 11)::x10::x11::some (.obj (r+10))::some (.int sp)::some (.int lv)::t
structure Sd(G:AH)(h r:Nat)(l:List (U.Place×U.Tm))(hd:U.Place→Option U.Tm)(L:List Nat)(rs:List U.Tm):Prop where
 hh:∃s,aB G h=some (.aY (bK l) s)
 hk:∀p,hd p=aR l p
 ll:∃s,aB G 1=some (.dict (encL L) s)
 rr:aB G r=some (.lst (rs.map aC))
section
variable{W:Wd}{n:Nat}{X:Fx}{b:U.Bd}{st:Nat}{evs:List U.Ev}{ks:List U.Tm}{G:AH}{h r:Nat}{l:List (U.Place×U.Tm)}{hd:U.Place→Option U.Tm}{L:List Nat}{rs rs':List U.Tm}{p:U.Place}{t:U.Tm}{x:Nat}
theorem j0{i j:Nat}{c d:Cell}(h1:aB G i=some c)(h2:aB G j=some d)(h:c≠d):i≠j:=fun e=>h (av (h1.symm.trans (e▸h2)))
theorem Sd.put(s:Sd G h r l hd L rs){k:Nat}:Sd (aq G (.aY (bK (bc l p t)) k) h) h r (bc l p t) (U.pt hd p t) L rs:=
 let ⟨_,h1⟩:=s.hh
 let ⟨_,h2⟩:=s.ll
 ⟨⟨_,dD h1⟩,fun q=>by unfold U.pt;rw[ri,s.hk],⟨_,gO h2 (j0 h1 h2 Cell.noConfusion)⟩,gO s.rr (j0 h1 s.rr Cell.noConfusion)⟩
theorem Sd.app(s:Sd G h r l hd L rs){g:AH}:Sd (app G g) h r l hd L rs:=⟨let ⟨_,a⟩:=s.hh;⟨_,dQ a⟩,s.hk,let ⟨_,a⟩:=s.ll;⟨_,dQ a⟩,dQ s.rr⟩
theorem Sd.new(s:Sd G h r l hd L rs):Sd (Mine.app G [.lst (rs'.map aC)]) h (aH G) l hd L rs':=⟨(s.app).hh,s.hk,(s.app).ll,dG (k:=0)⟩
theorem Sd.rest(s:Sd G h r l hd L rs):Sd (aq G (.lst (rs'.map aC)) r) h r l hd L rs':=
 let ⟨_,h1⟩:=s.hh
 let ⟨_,h2⟩:=s.ll
 ⟨⟨_,gO h1 (j0 s.rr h1 Cell.noConfusion)⟩,s.hk,⟨_,gO h2 (j0 s.rr h2 Cell.noConfusion)⟩,dD s.rr⟩
theorem Sd.pop(s:Sd G h r l hd L rs){L':List Nat}{k:Nat}:Sd (aq G (.dict (encL L') k) 1) h r l hd L' rs:=
 let ⟨_,h1⟩:=s.hh
 let ⟨_,h2⟩:=s.ll
 ⟨⟨_,gO h1 (j0 h2 h1 Cell.noConfusion)⟩,s.hk,⟨_,dD h2⟩,gO s.rr (j0 h2 s.rr Cell.noConfusion)⟩
section
variable{Q:K1}
theorem iu(s:Sd G h r l hd L rs)(e:hd p=some t)(q:Q (aC t) (hF X b st evs ks G)):gc W (.obj (h+10)) (cK p) (hF X b st evs ks G) Q:=by
 obtain⟨_,h1⟩:=s.hh;show ob (aB G h) _ _;rw[h1];show fN (aR (bK l) (gn p)) _ _;rw[xT,←s.hk,e];exact q
theorem FL(s:Sd G h r l hd L rs)(e:hd p=some t)(q:Q (.bool false) (hF X b st evs ks G)):gU W .NotIn (cK p) (.obj (h+10)) (hF X b st evs ks G) Q:=by
 obtain⟨_,h1⟩:=s.hh;have z:uD .NotIn (hF X b st evs ks G) (cK p) (.obj (h+10))=some false:=by
  show ob (ob (aB G h) none _) none _=_;rw[h1];show some (!(aR (bK l) (gn p)).isSome)=_;rw[xT,←s.hk,e];rfl
 unfold gU;rw[z];exact q
theorem uj{F:Fa}{Q:K2}(s:Sd G h r l hd L rs)(z:l.length≤aJ)(q:∀{G'},Sd G' h r (bc l p t) (U.pt hd p t) L rs→Q .aL F (hF X b st evs ks G')):nF W (.obj (h+10)) (cK p) (aC t) F (hF X b st evs ks G) Q:=by
 obtain⟨k,h1⟩:=s.hh;have q:=q (s.put (p:=p) (t:=t) (k:=k+1));rw[←DH] at q;show ob (aB G h) _ _;rw[h1];exact⟨by unfold bK;rw[aN];exact z,q⟩
theorem rp(s:Sd G h r l hd L rs)(q:Q (.bool (decide (x∈L))) (hF X b st evs ks G)):gU W .In (.int x) (.obj 11) (hF X b st evs ks G) Q:=by
 obtain⟨_,h1⟩:=s.ll;have z:uD .In (hF X b st evs ks G) (.int x) (.obj 11)=some (decide (x∈L)):=by
  show ob (aB G 1) none _=_;rw[h1];show some (aR (encL L) (.int (x:Int))).isSome=_;rw[uK];by_cases m:x∈L
  ·rw[aG m,a9 m];rfl
  ·rw[aD m,a7 m];rfl
 unfold gU;rw[z];exact q
theorem Ql(s:Sd G h r l hd L rs)(m:x∈L)(q:Q (.int (-2)) (hF X b st evs ks G)):gc W (.obj 11) (.int x) (hF X b st evs ks G) Q:=by
 obtain⟨_,h1⟩:=s.ll;show ob (aB G 1) _ _;rw[h1];show fN (aR (encL L) (.int (x:Int))) _ _;rw[uK,aG m];exact q
theorem yv(s:Sd G h r l hd L rs)(q:Q (.int (if x∈L then -2 else -3)) (hF X b st evs ks G)):iW W .eP (.obj 11) Q [.int x,.int (-3)] (hF X b st evs ks G):=by
 obtain⟨_,h1⟩:=s.ll;show ob (aB G 1) _ _;rw[h1];show Q ((aR (encL L) (.int (x:Int))).getD (.int (-3))) _;rw[uK];by_cases m:x∈L
 ·rw[aG m] at q ⊢;exact q
 ·rw[aD m] at q ⊢;exact q
theorem Qk(s:Sd G h r l hd L rs)(m:x∈L)(z:L.length≤aJ)(q:∀{G'},Sd G' h r l hd (L.filter fun n=>decide (U.Tm.v x≠.v n)) rs→Q (.int (-2)) (hF X b st evs ks G')):iW W .fV (.obj 11) Q [.int x] (hF X b st evs ks G):=by
 obtain⟨k,h1⟩:=s.ll;have q:=q (s.pop (k:=k+1));rw[←LI] at q;show ob (aB G 1) _ _;rw[h1];refine⟨by unfold encL;rw[aN];exact z,?_⟩
 show fN (aR (encL L) (.int (x:Int))) _ _;rw[uK,aG m];exact q
end
end
noncomputable def GQ:U.ak→List U.Place
 | .getVar _ q=>[q]
 | .il p q=>[p,q]
 | .jR _ _ q=>[q]
 | .pP q=>[q]
 | .pQ _ q=>[q]
 | .kO p=>[p]
 | .kN p=>[p]
 | .kE p=>[p]
 | .ja p=>[p]
 | .iK p _=>[p]
 |_=>[]
noncomputable def yR:U.ak→Bool
 | .gQ _=>true
 | .kN _=>true
 | .kO _=>true
 | .i5 _ _=>true
 | .iO _=>true
 | .ja _=>true
 | .kE _=>true
 |_=>false
noncomputable def FX(i:U.ak):V:=(lA (.str (nz i)::rE i)).getD .none
theorem Qw{i:U.ak}:aB (V.str (nz i)::rE i) (rE i).length=some (FX i):=by cases i<;>rfl
theorem XQ{i:U.ak}:(d5 ((nz i).take 6) [117,110,105,102,121,95]||d5 ((nz i).take 4) [115,101,116,95])=yR i:=by cases i<;>rfl
theorem mP{i:U.ak}:(nz i).length≤aJ:=by cases i<;>exact lz rfl
structure Nk(l:List (U.Place×U.Tm))(F:U.FS)(m:Nat):Prop where
 sp:F.aI+2*m≤140000
 hz:l.length+m≤4000
 kz:F.kept.length+100*m≤1000000
 ez:F.evs.length+m<1000
 rz:F.rest.length≤2
 oz:F.loose.length≤1000
 lv:-1≤F.living
theorem HF{k:Nat}:((k+1:Nat):Int)-1=k:=by rw[Int.natCast_add];exact BA _ _
section
variable{W:Wd}(pr:bA W){n:Nat}{X:Fx}{QQ:K2}{i:U.ak}{is:List U.ak}{F:U.FS}
theorem Qi{l:List V}{z:Int}{j:Nat}{v:V}{H:AH}{Q:K1}(e:z=j)(h:aB l j=some v)(q:Q v H):gc W (.tup l) (.int z) H Q:=by rw[e];exact bH h q
noncomputable def Rd(W:Wd)(n:Nat)(X:Fx)(QQ:K2)(is:List U.ak)(F:U.FS):Prop:=∀{l h r a st G x8 x10 x11 x15 x16 x17 x18 x19 x20 x21 x22 x23 x24 x25 x26 x27 x28 x29 x30},Sd G h r l F.hold F.loose F.rest→Nk l F is.length→X.code.drop a=is→
 cf 15 (aQ W (n+155) ue) ((List.range' a is.length).map fun i:Nat=>V.int (i:Int)) (fF X h r F.aI F.living x8 x10 x11 [x15,x16,x17,x18,x19,x20,x21,x22,x23,x24,x25,x26,x27,x28,x29,x30]) (hF X F.b st F.evs F.kept G) QQ
include pr
theorem S9{H:AH}{Q:K1}(q:Q (.lst ((GQ i).map cK)) H):Fi W (n+1) 74 [hY i] H Q:=by
 refine pr.fe Mz rfl ?_;cases i<;>exact kD (lz rfl) q
theorem Fc{k:Bool}{z:Int}{H:AH}{Q:K1}(q:Q (aC (.c k z)) H):Fi W (n+1) 75 [encC k z] H Q:=by
 refine pr.fe M0 rfl ?_;cases k<;>exact q
omit pr
theorem TA{b:U.Bd}{st:Nat}{evs:List U.Ev}{ks:List U.Tm}{G:AH}{h r sp:Nat}{l:List (U.Place×U.Tm)}{hd:U.Place→Option U.Tm}{L:List Nat}{rs:List U.Tm}{lv:Int}{x8 x10 x11 x15 x16 x17 x18 x19 x21 x22 x23 x24 x25 x26 x27 x28 x29 x30:Option V}{Q:K2}(s:Sd G h r l hd L rs){ps:List U.Place}:∀{x20:Option V},(∀p∈ps,∃t,hd p=some t)→(∀{x20},Q .aL (fF X h r sp lv x8 x10 x11 [x15,x16,x17,x18,x19,x20,x21,x22,x23,x24,x25,x26,x27,x28,x29,x30]) (hF X b st evs ks G))→cf 20 (aQ W n Ee) (ps.map cK) (fF X h r sp lv x8 x10 x11 [x15,x16,x17,x18,x19,x20,x21,x22,x23,x24,x25,x26,x27,x28,x29,x30]) (hF X b st evs ks G) Q:=by
 induction ps with
 |nil=>exact fun _ q=>q
 |cons p ps ih=>
  intro x20 hp q;obtain⟨t,ht⟩:=hp p (.head _);exact eO fun K k=>FL s ht (k (ih (fun p m=>hp p (.tail _ m)) q))
include pr
theorem fD(nd:∀p∈GQ i,∃t,F.hold p=some t)(ru:yR i=!e6 F.rest)
  (q:∀{l h r a st G x8 x10 x11 x20 x21 x22 x23 x24 x25 x26 x27 x28 x29 x30} (K:BT),Sd G h r l F.hold F.loose F.rest→Nk l F (is.length+1)→aB X.code a=some i→X.code.drop (a+1)=is→(∀{Fr H},cf 15 (aQ W (n+155) ue) ((List.range' (a+1) is.length).map fun i:Nat=>V.int (i:Int)) Fr H QQ→K Fr H QQ)→aQ W (n+155) (dp 6 ue) (fF X h r F.aI F.living x8 x10 x11 [some (.int a),some (hY i),some (.str (nz i)),some (FX i),some (.bool true),x20,x21,x22,x23,x24,x25,x26,x27,x28,x29,x30]) (hF X F.b st F.evs F.kept G) (f9 K QQ)):Rd W n X QQ (i::is) F:=by
 intro l h r a st G x8 x10 x11 x15 x16 x17 x18 x19 x20 x21 x22 x23 x24 x25 x26 x27 x28 x29 x30 s nk hd;obtain⟨d1,d2⟩:=xQ hd;refine eO fun K k=>cM 1 (bH (n7 d1) (bJ (cM 4 ?_)));refine Qi (j:=(rE i).length) HF Qw (S9 pr (TA s nd fun{x20}=>bJ (cM 1 ?_)));refine oB (dw.sb mP) ?_;have rn:aB (hF X F.b st F.evs F.kept G) (r+10)=some (.lst (F.rest.map aC)):=s.rr;have e:=XQ (i:=i);have fin:∀{x:Bool},x=yR i→(!(x == !e6 (F.rest.map aC)))=false:=fun h=>by rw[h,ru,zW];cases e6 F.rest<;>rfl
 refine cY (fun e1=>?_) fun e1=>?_
 ·rw[e1,Bool.true_or] at e;refine yx rn (lJ jK.bool (aX (fin e) (bJ (q K s nk d1 d2 k))))
 ·rw[e1,Bool.false_or] at e;refine oB (dw.sb mP) (yx rn (lJ jK.bool (aX (fin e) (bJ (q K s nk d1 d2 k)))))
end
theorem Sd.eq{G:AH}{h r:Nat}{l:List (U.Place×U.Tm)}{hd:U.Place→Option U.Tm}{L:List Nat}{rs rs':List U.Tm}(s:Sd G h r l hd L rs)(e:rs=rs'):Sd G h r l hd L rs':=e▸s
section
variable{l:List (U.Place×U.Tm)}{F:U.FS}{m:Nat}{p:U.Place}{t:U.Tm}{h:U.Place→Option U.Tm}{b:U.Bd}{rs:List U.Tm}{L:List Nat}
theorem Nk.lt(k:Nk l F (m+1)):l.length≤aJ:=aA (aT _ _) (aA k.hz (lz rfl))
theorem Nk.put(k:Nk l F (m+1)):Nk (bc l p t) {F with hold:=h} m:=⟨aA (cq (dO 2 (cB m)) _) k.sp,aA (bp rj m) (aA (bS (ta _ _)) k.hz),aA (cq (dO 100 (cB m)) _) k.kz,Be k.ez,k.rz,k.oz,k.lv⟩
theorem Nk.le(k:Nk l F (m+1)):Nk l F m:=⟨aA (cq (dO 2 (cB m)) _) k.sp,fK k.hz,aA (cq (dO 100 (cB m)) _) k.kz,Be k.ez,k.rz,k.oz,k.lv⟩
theorem Nk.tl{t:U.Tm}{r:List U.Tm}(k:Nk l F m)(h:F.rest=t::r):r.length≤2:=fK (aA (bS (aE List.length h.symm)) k.rz)
theorem Nk.set(k:Nk l F m)(hr:rs.length≤2)(hL:L.length≤1000):Nk l {F with b:=b,rest:=rs,loose:=L} m:=⟨k.sp,k.hz,k.kz,k.ez,hr,hL,k.lv⟩
end
section
variable{W:Wd}(pr:bA W){n:Nat}{X:Fx}{QQ:K2}{is:List U.ak}{F:U.FS}{p q:U.Place}{t u:U.Tm}{r:List U.Tm}
include pr
theorem Us(hr:F.rest=[])(hq:F.hold q=some t)(hR:Rd W n X QQ is {F with hold:=U.pt F.hold p t}):Rd W n X QQ (.getVar p q::is) F:=
 fD pr (F:=F) (i:=.getVar p q) (fun x m=>a6.mp m▸⟨t,hq⟩) (by rw[hr];rfl) fun K s nk d1 d2 k=>iu s hq (uj s nk.lt fun s=>k (hR s nk.put d2))
theorem Uv(hr:F.rest=[])(hq:F.hold p=some t)(hR:Rd W n X QQ is {F with hold:=U.pt F.hold q t}):Rd W n X QQ (.iK p q::is) F:=
 fD pr (F:=F) (i:=.iK p q) (fun x m=>a6.mp m▸⟨t,hq⟩) (by rw[hr];rfl) fun K s nk d1 d2 k=>iu s hq (uj s nk.lt fun s=>k (hR s nk.put d2))
theorem Uo(hr:F.rest=[])(hR:Rd W n X QQ is {F with living:=-1}):Rd W n X QQ (.hV::is) F:=
 fD pr (F:=F) (i:=.hV) (fun _ m=>nomatch m) (by rw[hr];rfl) fun K s nk d1 d2 k=>k (hR s ⟨nk.le.sp,nk.le.hz,nk.le.kz,nk.le.ez,nk.le.rz,nk.le.oz,Int.le_refl _⟩ d2)
omit pr in
theorem du{H:AH}{i j:Nat}{l:List U.Tm}{Q:K1}(hc:aB H i=some (.lst (l.map aC)))(q:Q (.obj (aH H)) (app H [.lst ((l.drop j).map aC)])):Seq (Prim W .gj [.obj i,.int j] H) Q:=by
 rw[cT,cJ,List.map_drop] at q;exact vO (dw.Rv (.cell (aj▸hc)) .cell) q
theorem Ux(hr:F.rest=t::r)(hR:Rd W n X QQ is {F with hold:=U.pt F.hold p t,rest:=r}):Rd W n X QQ (.gQ p::is) F:=
 fD pr (F:=F) (i:=.gQ p) (fun _ m=>nomatch m) (by rw[hr];rfl) fun K s nk d1 d2 k=>by
  have s:=s.eq hr;exact eV (j:=0) s.rr rfl (uj s nk.lt fun s=>du s.rr (k (hR (s.new (rs':=r)) (nk.put.set (nk.tl hr) nk.oz) d2)))
theorem Uy{m:Nat}(h0:F.rest≠[])(hm:m≤F.rest.length)(hR:Rd W n X QQ is {F with rest:=F.rest.drop m}):Rd W n X QQ (.iO m::is) F:=
 fD pr (F:=F) (i:=.iO m) (fun _ m=>nomatch m) (by cases h:F.rest with|nil=>exact absurd h h0|cons=>rfl) fun K s nk d1 d2 k=>by
  exact ff s.rr (aX (by rw[aN];exact mJ.trans (a7 (fL.mpr hm))) (du s.rr (k (hR (s.new (rs':=F.rest.drop m)) (nk.le.set (aA (bS oZ) (aA (nA _ _) nk.rz)) nk.oz) d2))))
theorem er{s t:U.Tm}{S:U.Sb}{st:Nat}{G:AH}{Q:K1}(M:U.ah F.b S)(hq:U.BQ (U.af F.aI) F.b)(z:F.aI≤140000)(hs:U.af F.aI s)(ht:U.af F.aI t)(q1:∀{b' S' st g},U.Met F.b S s t b' S'→Q (.bool true) (hF X b' st F.evs F.kept (app G g)))(q0:U.eg F.b s t→∀{b st g},Q (.bool false) (hF X b st F.evs F.kept (app G g))):Fi W (n+3) 71 [.obj 6,aC s,aC t] (hF X F.b st F.evs F.kept G) Q:=
 have z':F.aI≤150000:=aA z (by decide)
 have lt:6<(hF X F.b st F.evs F.kept G).length:=bj (by decide:6<10) (b9 10 G.length)
 GC pr (a:=6) lt (fun p m=>⟨(hq p m).1.mono z',(hq p m).2.mono z'⟩) (hs.mono z') (ht.mono z') M rfl (fun m _=>q1 m) q0
omit pr in
theorem Nk.z{l:List (U.Place×U.Tm)}{m:Nat}(k:Nk l F m):F.aI≤140000:=aA (aT _ _) k.sp
variable{S:U.Sb}{Fl:List U.Ev→Prop}(hF:∀{evs},Fl evs→∀{b st ks G Fr},QQ (.ret (.tup [.obj 8,.obj 9,.str [102,97,105,108,101,100]])) Fr (Mine.hF X b st evs ks G))
include hF
theorem Uq{c:Bool}{z:Int}(hr:F.rest=[])(hq:F.hold q=some t)(M:U.ah F.b S)(bq:U.BQ (U.af F.aI) F.b)(ht:U.af F.aI t)(q1:∀{b' S'},U.Met F.b S t (.c c z) b' S'→Rd W n X QQ is {F with b:=b'})(q0:U.eg F.b t (.c c z)→Fl F.evs):Rd W n X QQ (.jR c z q::is) F:=
 fD pr (F:=F) (i:=.jR c z q) (fun x m=>a6.mp m▸⟨t,hq⟩) (by rw[hr];rfl) fun K s nk d1 d2 k=>
  iu s hq (Fc pr (er pr (t:=.c c z) M bq nk.z ht .c (fun m=>k (q1 m s.app (nk.le.set (rs:=F.rest) nk.rz nk.oz) d2)) fun u=>hF (q0 u)))
theorem Uw{c:Bool}{z:Int}(hr:F.rest=t::r)(M:U.ah F.b S)(bq:U.BQ (U.af F.aI) F.b)(ht:U.af F.aI t)(q1:∀{b' S'},U.Met F.b S t (.c c z) b' S'→Rd W n X QQ is {F with b:=b',rest:=r})(q0:U.eg F.b t (.c c z)→Fl F.evs):Rd W n X QQ (.i5 c z::is) F:=
 fD pr (F:=F) (i:=.i5 c z) (fun _ m=>nomatch m) (by rw[hr];rfl) fun K s nk d1 d2 k=>by
  have s:=s.eq hr;exact eV (j:=0) s.rr rfl (Fc pr (er pr (t:=.c c z) M bq nk.z ht .c (fun m=>du s.app.rr (k (q1 m (s.app.new (rs':=r)) (nk.le.set (nk.tl hr) nk.oz) d2))) fun u=>du s.app.rr (hF (q0 u))))
end
section
variable{W:Wd}{H:AH}{i k m:Nat}{u:U.Tm}{Q:K1}
theorem U0{kvs:List (Atom×V)}(hc:aB H i=some (.dict kvs k)):at_ false H (.obj i) (fun _ c=>kB .fV c)=true:=by
 show ob (aB H i) false _=true;rw[hc];rfl
theorem gP(e:u=.v m)(q:Q (.int (m:Nat)) H):gc W (aC u) (.int 1) H Q:=by rw[e];exact q
theorem vA{L:List Nat}(h:∀m,u=.v m→m∉L):(L.filter fun n=>decide (u≠.v n))=L:=List.filter_eq_self.mpr fun n m=>a9 fun e=>h n e m
theorem sG(h:u.bN=false)(m:Nat)(e:u=.v m){P:Prop}:P:=nomatch h.symm.trans (aE U.Tm.bN e)
theorem Sd.uL{G:AH}{h r:Nat}{l:List (U.Place×U.Tm)}{hd:U.Place→Option U.Tm}{L L':List Nat}{rs:List U.Tm}(s:Sd G h r l hd L rs)(e:L'=L):Sd G h r l hd L' rs:=e▸s
theorem IX{X:Fx}{b:U.Bd}{st:Nat}{evs:List U.Ev}{ks:List U.Tm}{G:AH}{h r:Nat}{l:List (U.Place×U.Tm)}{hd:U.Place→Option U.Tm}{L:List Nat}{rs:List U.Tm}(e:u=.v m)(s:Sd G h r l hd L rs)(hm:m∈L)(z:L.length≤1000)(q:∀{G'},Sd G' h r l hd (L.filter fun n=>decide (u≠.v n)) rs→Q (.int (-2)) (hF X b st evs ks G')):iW W .fV (.obj 11) Q [.int m] (hF X b st evs ks G):=Qk s hm (aA z (lz rfl)) (e▸q)
theorem HQ{X:Fx}{b:U.Bd}{st:Nat}{evs:List U.Ev}{ks:List U.Tm}{G:AH}{h r:Nat}{l:List (U.Place×U.Tm)}{hd:U.Place→Option U.Tm}{L:List Nat}{rs:List U.Tm}(s:Sd G h r l hd L rs):at_ false (hF X b st evs ks G) (.obj 11) (fun _ c=>kB .fV c)=true:=let ⟨_,e⟩:=s.ll;U0 (i:=11) e
end
section
variable{W:Wd}(pr:bA W){n:Nat}{X:Fx}{QQ:K2}{is:List U.ak}{F:U.FS}{p q:U.Place}{t u x:U.Tm}{r:List U.Tm}{S:U.Sb}{Fl:List U.Ev→Prop}(hF:∀{evs},Fl evs→∀{b st ks G Fr},QQ (.ret (.tup [.obj 8,.obj 9,.str [102,97,105,108,101,100]])) Fr (Mine.hF X b st evs ks G))
include pr hF
theorem Uz{i:U.Place→U.ak}(hi:i=.kO∨i=.kE)(hr:F.rest=x::r)(hp:F.hold p=some t)(w:U.Walk F.b t u)(nl:∀n,u=.v n→n∉F.loose)(M:U.ah F.b S)(bq:U.BQ (U.af F.aI) F.b)(hu:U.af F.aI u)(hx:U.af F.aI x)(q1:∀{b' S'},U.Met F.b S x u b' S'→Rd W n X QQ is {F with b:=b',rest:=r})(q0:U.eg F.b x u→Fl F.evs):Rd W n X QQ (i p::is) F:=by
 rcases hi with rfl|rfl
 ·exact fD pr (F:=F) (i:=.kO p) (fun x m=>a6.mp m▸⟨t,hp⟩) (by rw[hr];rfl) fun K s nk d1 d2 k=>iu s hp (gy pr rfl w (dZ (cY
   (fun e1=>U.fc (cZ.symm.trans e1) fun m e=>gP e (rp s (aX (a7 (nl m e)) (eV (j:=0) (s.eq hr).rr rfl (er pr M bq nk.z hx hu (fun m=>du (s.eq hr).app.rr (k (q1 m (s.app.new (rs':=r)) (nk.le.set (nk.tl hr) nk.oz) d2))) fun u=>du (s.eq hr).app.rr (hF (q0 u)))))))
   fun e0=>eV (j:=0) (s.eq hr).rr rfl (er pr M bq nk.z hx hu (fun m=>du (s.eq hr).app.rr (k (q1 m (s.app.new (rs':=r)) (nk.le.set (nk.tl hr) nk.oz) d2))) fun u=>du (s.eq hr).app.rr (hF (q0 u))))))
 ·exact fD pr (F:=F) (i:=.kE p) (fun x m=>a6.mp m▸⟨t,hp⟩) (by rw[hr];rfl) fun K s nk d1 d2 k=>iu s hp (gy pr rfl w (dZ (cY
   (fun e1=>U.fc (cZ.symm.trans e1) fun m e=>gP e (rp s (aX (a7 (nl m e)) (eV (j:=0) (s.eq hr).rr rfl (er pr M bq nk.z hx hu (fun m=>du (s.eq hr).app.rr (k (q1 m (s.app.new (rs':=r)) (nk.le.set (nk.tl hr) nk.oz) d2))) fun u=>du (s.eq hr).app.rr (hF (q0 u)))))))
   fun e0=>eV (j:=0) (s.eq hr).rr rfl (er pr M bq nk.z hx hu (fun m=>du (s.eq hr).app.rr (k (q1 m (s.app.new (rs':=r)) (nk.le.set (nk.tl hr) nk.oz) d2))) fun u=>du (s.eq hr).app.rr (hF (q0 u))))))
theorem Ut{i:U.Place→U.ak}(hi:i=.kN∨i=.ja)(hr:F.rest=x::r)(hp:F.hold p=some t)(w:U.Walk F.b t u)(M:U.ah F.b S)(bq:U.BQ (U.af F.aI) F.b)(hu:U.af F.aI u)(hx:U.af F.aI x)(q1:∀{b' S'},U.Met F.b S x u b' S'→Rd W n X QQ is {F with b:=b',rest:=r,loose:=F.loose.filter fun n=>decide (u≠.v n)})(q0:U.eg F.b x u→Fl F.evs):Rd W n X QQ (i p::is) F:=by
 rcases hi with rfl|rfl
 ·exact fD pr (F:=F) (i:=.kN p) (fun x m=>a6.mp m▸⟨t,hp⟩) (by rw[hr];rfl) fun K s nk d1 d2 k=>iu s hp (gy pr rfl w (dZ (cY
   (fun e1=>U.fc (cZ.symm.trans e1) fun m e=>gP e (rp s (cY
    (fun i1=>aa (HQ s) (gP e (IX e s (c6 i1) nk.oz fun s=>eV (j:=0) (s.eq hr).rr rfl (er pr M bq nk.z hx hu (fun m=>du (s.eq hr).app.rr (k (q1 m ((s).app.new (rs':=r)) (nk.le.set (nk.tl hr) (aA (oa _ _) nk.oz)) d2))) fun u=>du (s.eq hr).app.rr (hF (q0 u))))))
    fun i0=>eV (j:=0) (s.eq hr).rr rfl (er pr M bq nk.z hx hu (fun m=>du (s.eq hr).app.rr (k (q1 m ((s.uL (vA fun m' e'=>U.Tm.v.inj (e.symm.trans e')▸sJ i0)).app.new (rs':=r)) (nk.le.set (nk.tl hr) (aA (oa _ _) nk.oz)) d2))) fun u=>du (s.eq hr).app.rr (hF (q0 u))))))
   fun e0=>eV (j:=0) (s.eq hr).rr rfl (er pr M bq nk.z hx hu (fun m=>du (s.eq hr).app.rr (k (q1 m ((s.uL (vA fun m' e'=>sG (cZ.symm.trans e0) m' e')).app.new (rs':=r)) (nk.le.set (nk.tl hr) (aA (oa _ _) nk.oz)) d2))) fun u=>du (s.eq hr).app.rr (hF (q0 u))))))
 ·exact fD pr (F:=F) (i:=.ja p) (fun x m=>a6.mp m▸⟨t,hp⟩) (by rw[hr];rfl) fun K s nk d1 d2 k=>iu s hp (gy pr rfl w (dZ (cY
   (fun e1=>U.fc (cZ.symm.trans e1) fun m e=>gP e (rp s (cY
    (fun i1=>aa (HQ s) (gP e (IX e s (c6 i1) nk.oz fun s=>eV (j:=0) (s.eq hr).rr rfl (er pr M bq nk.z hx hu (fun m=>du (s.eq hr).app.rr (k (q1 m ((s).app.new (rs':=r)) (nk.le.set (nk.tl hr) (aA (oa _ _) nk.oz)) d2))) fun u=>du (s.eq hr).app.rr (hF (q0 u))))))
    fun i0=>eV (j:=0) (s.eq hr).rr rfl (er pr M bq nk.z hx hu (fun m=>du (s.eq hr).app.rr (k (q1 m ((s.uL (vA fun m' e'=>U.Tm.v.inj (e.symm.trans e')▸sJ i0)).app.new (rs':=r)) (nk.le.set (nk.tl hr) (aA (oa _ _) nk.oz)) d2))) fun u=>du (s.eq hr).app.rr (hF (q0 u))))))
   fun e0=>eV (j:=0) (s.eq hr).rr rfl (er pr M bq nk.z hx hu (fun m=>du (s.eq hr).app.rr (k (q1 m ((s.uL (vA fun m' e'=>sG (cZ.symm.trans e0) m' e')).app.new (rs':=r)) (nk.le.set (nk.tl hr) (aA (oa _ _) nk.oz)) d2))) fun u=>du (s.eq hr).app.rr (hF (q0 u))))))
end
noncomputable def old(L:List Nat)(x:Nat):Int:=if x∈L then -2 else -3
theorem Gm{L:List Nat}{x:Nat}{o:Int}(h:o<old L x)(ho:-3≤o):x∈L:=qX fun m=>by unfold old at h;rw[aD m] at h;exact absurd h (kU.mpr ho)
theorem Tu{L:List Nat}{x y:Nat}(h:¬old L y<old L x)(m:x∈L):y∈L:=qX fun m'=>h (by unfold old;rw[aG m,aD m'];decide)
theorem Tt{L:List Nat}{x x':Nat}(e:x'=x)(h:¬(-3:Int)<old L x):x'∉L:=fun m=>h (by unfold old;rw[aG (e▸m)];decide)
theorem Tr{L:List Nat}{y:Nat}:-3≤old L y:=by
 unfold old;by_cases m:y∈L
 ·rw[aG m];decide
 ·rw[aD m];decide
theorem z8{X:Fx}{b:U.Bd}{st:Nat}{evs:List U.Ev}{ks:List U.Tm}{G:AH}{h r:Nat}{l:List (U.Place×U.Tm)}{hd:U.Place→Option U.Tm}{L:List Nat}{rs:List U.Tm}(s:Sd G h r l hd L rs):at_ false (hF X b st evs ks G) (.obj 11) (fun _ c=>kB .eP c)=true:=let ⟨_,e⟩:=s.ll;HP (a:=11) e
section
variable{W:Wd}(pr:bA W){n:Nat}{X:Fx}{QQ:K2}{is:List U.ak}{F:U.FS}{p q:U.Place}{t t' u u':U.Tm}{r:List U.Tm}{S:U.Sb}{Fl:List U.Ev→Prop}(hF:∀{evs},Fl evs→∀{b st ks G Fr},QQ (.ret (.tup [.obj 8,.obj 9,.str [102,97,105,108,101,100]])) Fr (Mine.hF X b st evs ks G))
include pr hF
theorem Ur(hr:F.rest=[])(hp:F.hold p=some t)(hq:F.hold q=some u)(w1:U.Walk F.b t t')(w2:U.Walk F.b u u')(M:U.ah F.b S)(bq:U.BQ (U.af F.aI) F.b)(b1:U.af F.aI t')(b2:U.af F.aI u')
  (k0:∀{s1 s2},(s1=u'∧s2=t'∧∃x,u'=.v x∧x∈F.loose)∨(s1=t'∧s2=u'∧∀x,u'=.v x→x∈F.loose→∃y,t'=.v y∧y∈F.loose)→(∀{b' S'},U.Met F.b S s1 s2 b' S'→Rd W n X QQ is {F with b:=b'})∧(U.eg F.b s1 s2→Fl F.evs)):Rd W n X QQ (.il p q::is) F:=
 fD pr (F:=F) (i:=.il p q) (fun x m=>(a8.mp m).elim (fun e=>e▸⟨t,hp⟩) fun m=>a6.mp m▸⟨u,hq⟩) (by rw[hr];rfl) fun K s nk d1 d2 k=>
  iu s hp (gy pr rfl w1 (iu s hq (gy pr rfl w2 (dZ (cY
   (fun e1=>U.fc (cZ.symm.trans e1) fun y ey=>aa (z8 s) (gP ey (yv s (dZ (cY
    (fun f1=>U.fc (cZ.symm.trans f1) fun x ex=>aa (z8 s) (gP ex (yv s (cY
     (fun h=>have z:=k0 (.inl ⟨rfl,rfl,x,ex,Gm (c6 h) (Tr (y:=y))⟩);er pr M bq nk.z b2 b1 (fun m=>k (z.1 m s.app (nk.le.set (rs:=F.rest) nk.rz nk.oz) d2)) fun u=>hF (z.2 u))
     fun h=>have z:=k0 (.inr ⟨rfl,rfl,fun x' e' m'=>⟨y,ey,Tu (sJ h) (U.Tm.v.inj (e'.symm.trans ex)▸m')⟩⟩);er pr M bq nk.z b1 b2 (fun m=>k (z.1 m s.app (nk.le.set (rs:=F.rest) nk.rz nk.oz) d2)) fun u=>hF (z.2 u)))))
    fun f0=>have z:=k0 (.inr ⟨rfl,rfl,fun x' e' _=>sG (cZ.symm.trans f0) x' e'⟩);er pr M bq nk.z b1 b2 (fun m=>k (z.1 m s.app (nk.le.set (rs:=F.rest) nk.rz nk.oz) d2)) fun u=>hF (z.2 u))))))
   fun e0=>dZ (cY
    (fun f1=>U.fc (cZ.symm.trans f1) fun x ex=>aa (z8 s) (gP ex (yv s (cY
     (fun h=>have z:=k0 (.inl ⟨rfl,rfl,x,ex,Gm (o:=-3) (c6 h) (Int.le_refl _)⟩);er pr M bq nk.z b2 b1 (fun m=>k (z.1 m s.app (nk.le.set (rs:=F.rest) nk.rz nk.oz) d2)) fun u=>hF (z.2 u))
     fun h=>have z:=k0 (.inr ⟨rfl,rfl,fun x' e' m'=>absurd m' (Tt (U.Tm.v.inj (e'.symm.trans ex)) (sJ h))⟩);er pr M bq nk.z b1 b2 (fun m=>k (z.1 m s.app (nk.le.set (rs:=F.rest) nk.rz nk.oz) d2)) fun u=>hF (z.2 u)))))
    fun f0=>have z:=k0 (.inr ⟨rfl,rfl,fun x' e' _=>sG (cZ.symm.trans f0) x' e'⟩);er pr M bq nk.z b1 b2 (fun m=>k (z.1 m s.app (nk.le.set (rs:=F.rest) nk.rz nk.oz) d2)) fun u=>hF (z.2 u)))))))
end
theorem DL{f k:Nat}:V.tup [.str [115],.int f,.tup ((U.bT (U.cC f k)).map aC)]=aC (U.cC f k):=by
 unfold U.cC;by_cases e:f=32
 ·rw[aG e];rfl
 ·rw[aD e];rfl
section
variable{W:Wd}{H:AH}{i:Nat}{l:List V}{Q:K1}
theorem y5(hc:aB H i=some (.lst l))(q:Q (.tup l) H):oS W .tuple (.obj i) H Q:=by
 show ob (ob (aB H i) none _) _ _;rw[hc];exact q
theorem FP(q:Q (.obj (aH H)) (app H [.lst l])):Seq (Prim W (.f1 .list) [.tup l] H) Q:=by rw[cT,cJ] at q;exact iM (lp.tup .cell) q
end
section
variable{W:Wd}(pr:bA W){n:Nat}{X:Fx}{QQ:K2}{is:List U.ak}{F:U.FS}{p q:U.Place}{t u:U.Tm}{f m:Nat}{r:List U.Tm}{b:U.Bd}{st:Nat}{evs:List U.Ev}{ks:List U.Tm}{G:AH}
noncomputable def Ar(X:Fx):Prop:=∀{f},(f=32∨f=0∨f=33)→∃a,aB X.fs f=some (a,U.ar f)
theorem Qf{h:Nat}{rr:Nat}{l:List (U.Place×U.Tm)}{hd:U.Place→Option U.Tm}{L:List Nat}{rs:List U.Tm}{v:V}{Fr:Fa}{Q:K2}(e:v=aC t)(s:Sd G h rr l hd L rs)(z:l.length≤aJ)(q:∀{G'},Sd G' h rr (bc l p t) (U.pt hd p t) L rs→Q .aL Fr (hF X b st evs ks G')):nF W (.obj (h+10)) (cK p) v Fr (hF X b st evs ks G) Q:=e▸uj s z q
theorem FK{v:V}{Fr:Fa}{Q:K2}(e:v=aC t)(hb:b.at m=none)(z:b.length≤aJ)(q:Q .aL Fr (hF X (b++[(m,t)]) (st+1) evs ks G)):nF W (.obj 6) (.int m) v Fr (hF X b st evs ks G) Q:=by
 rw[e];refine⟨by unfold dH;rw[aN];exact z,?_⟩
 rw[xR hb];exact q
include pr
theorem rD{a k:Nat}{Q:K1}(h:aB X.fs f=some (a,k))(q:Q (.int (k:Nat)) (hF X b st evs ks G)):Fi W (n+1) 9 [.obj 0,.int (f:Nat)] (hF X b st evs ks G) Q:=by
 refine pr.fe g9 rfl ?_;exact bH (n7 h) q
omit pr
theorem zQ{h rr sp:Nat}{lv:Int}{x8 x10 x11 x15 x16 x17 x18 x19 x20 x21 x22 x23 x24 x25 x26 x27 x28 x29 x30:Option V}{l:List (U.Place×U.Tm)}{hd:U.Place→Option U.Tm}{L:List Nat}{Q:K2}(s:Sd G h rr l hd L [])(q:∀{x8 G'},Sd G' h rr l hd L (U.bT (U.cC f sp))→Q .aL (fF X h rr (sp+U.ar f) lv x8 x10 x11 [x15,x16,x17,x18,x19,x20,x21,x22,x23,x24,x25,x26,x27,x28,x29,x30]) (hF X b st evs ks G')):cf 8 (aQ W n Ef) (jV (U.ar f)) (fF X h rr sp lv x8 x10 x11 [x15,x16,x17,x18,x19,x20,x21,x22,x23,x24,x25,x26,x27,x28,x29,x30]) (hF X b st evs ks G) Q:=by
 unfold U.ar U.cC at*;by_cases e:f=32
 ·rw[aG e,aG e] at q;rw[aG e];exact aa (iL s.rr) (iF s.rr (lz rfl) (q (s.rest (rs':=[.v (sp+1)]))))
 ·rw[aD e,aD e] at q;rw[aD e];have s1:=s.rest (rs':=[.v (sp+1)]);exact aa (iL s.rr) (iF s.rr (lz rfl) (aa (iL s1.rr) (iF s1.rr (lz rfl) (q (s1.rest (rs':=[.v (sp+1),.v (sp+2)]))))))
theorem Nk.new{l l':List (U.Place×U.Tm)}{h:U.Place→Option U.Tm}{k:Nat}(z:Nk l F (k+1))(hl:l'.length≤l.length+1){rs:List U.Tm}(hr:rs.length≤2){b:U.Bd}:Nk l' {F with b:=b,hold:=h,rest:=rs,aI:=F.aI+U.ar f} k:=⟨by
 have h:=z.sp;unfold U.ar
 have:F.aI+2+2*k≤140000:=by rw[bP,bR 2];exact h
 by_cases e:f=32
 ·rw[aG e];exact aA (bp (cB _) _) this
 ·rw[aD e];exact this,aA (bp hl k) (aA (bS (ta _ _)) z.hz),z.le.kz,z.le.ez,hr,z.oz,z.lv⟩
theorem Nk.zb{l:List (U.Place×U.Tm)}{k:Nat}(z:Nk l F k){S:U.Sb}(M:U.ah F.b S)(bq:U.BQ (U.af F.aI) F.b):F.b.length≤aJ:=aA (z4 M fun p m=>have z':=aA z.z (by decide:140000≤150000);⟨(bq p m).1.mono z',(bq p m).2.mono z'⟩) (lz rfl)
theorem GU{k:Nat}:(U.bT (U.cC f k)).length≤2:=by
 unfold U.cC;by_cases e:f=32
 ·rw[aG e];exact cB 1
 ·rw[aD e];exact ai 2
include pr
theorem Uu(har:Ar X)(hr:F.rest=[])(hR:Rd W n X QQ is {F with hold:=U.pt F.hold q (.s1 32 (.v (F.aI+1))),rest:=[.v (F.aI+1)],aI:=F.aI+1}):Rd W n X QQ (.putStr 32 q::is) F:=
 fD pr (F:=F) (i:=.putStr 32 q) (fun _ m=>nomatch m) (by rw[hr];rfl) fun K s nk d1 d2 k=>by
  obtain⟨a,ha⟩:=har (f:=32) (.inl rfl);refine vO (dw.AU mP) (rD pr (f:=32) ha ⟨lz rfl,zQ (f:=32) (s.eq hr) fun s=>?_⟩);exact y5 s.rr (oB (dw.sb mP) (Qf (p:=q) (t:=.s1 32 (.v (F.aI+1))) rfl s nk.lt fun s=>k (hR s (nk.new (f:=32) (rs:=[.v (F.aI+1)]) rj (cB 1)) d2)))
omit pr in
theorem CL:U.ar f≤aJ:=by
 unfold U.ar;by_cases e:f=32
 ·rw[aG e];exact lz rfl
 ·rw[aD e];exact lz rfl
omit pr in
theorem CM(u:U.Tm):(U.bT u).length≤2:=by cases u<;>exact lz rfl
variable{Fl:List U.Ev→Prop}(hF:∀{evs},Fl evs→∀{b st ks G Fr},QQ (.ret (.tup [.obj 8,.obj 9,.str [102,97,105,108,101,100]])) Fr (Mine.hF X b st evs ks G))(har:Ar X)
include hF har
theorem z5(hr:F.rest=[])(hq:F.hold q=some t)(w:U.Walk F.b t u)(hf:f=32∨f=0∨f=33){S:U.Sb}(M:U.ah F.b S)(bq:U.BQ (U.af F.aI) F.b)(k1:∀m,u=.v m→Rd W n X QQ is {F with b:=F.b++[(m,U.cC f F.aI)],rest:=U.bT (U.cC f F.aI),aI:=F.aI+U.ar f})(k2:U.bQ u=true→U.fnOf u=f→Rd W n X QQ is {F with rest:=U.bT u,aI:=F.aI+U.ar f})(k3:u.bN=false→¬(U.bQ u=true∧U.fnOf u=f)→Fl F.evs):Rd W n X QQ (U.k8 f q::is) F:=by
 unfold U.k8;by_cases e0:f=0
 ·subst e0;rw[aG rfl];exact fD pr (F:=F) (i:=.pP q) (fun x m=>a6.mp m▸⟨t,hq⟩) (by rw[hr];rfl) fun K s nk d1 d2 k=>by
   obtain⟨a,ha⟩:=har hf;have zb:=nk.zb M bq;refine vO (dw.AU mP) (rD pr ha ⟨CL,zQ (s.eq hr) fun s=>?_⟩);exact y5 s.rr (oB (dw.sb mP) (iu (p:=q) s hq (gy pr rfl w (dZ (cY
    (fun e1=>U.fc (cZ.symm.trans e1) fun m e=>gP e (FK DL (w.free m e) zb (k (k1 m e s (nk.new (cB _) GU) d2))))
    fun e0=>dZ (cY
     (fun s1=>have s1:=eF.symm.trans s1;vY s1 (cY
      (fun e=>have e:=dg (c6 e);AX s1 (FP (k (k2 s1 e (s.new (rs':=U.bT u)) (nk.new (cB _) (CM u)) d2))))
      fun e=>hF (k3 (cZ.symm.trans e0) fun z=>sJ e (aE Int.ofNat z.2))))
     fun s0=>hF (k3 (cZ.symm.trans e0) fun z=>ax ((eF.symm.trans s0).symm.trans z.1))))))))
 ·rw[aD e0];exact fD pr (F:=F) (i:=.pQ f q) (fun x m=>a6.mp m▸⟨t,hq⟩) (by rw[hr];rfl) fun K s nk d1 d2 k=>by
   obtain⟨a,ha⟩:=har hf;have zb:=nk.zb M bq;refine vO (dw.AU mP) (rD pr ha ⟨CL,zQ (s.eq hr) fun s=>?_⟩);exact y5 s.rr (oB (dw.sb mP) (iu (p:=q) s hq (gy pr rfl w (dZ (cY
    (fun e1=>U.fc (cZ.symm.trans e1) fun m e=>gP e (FK DL (w.free m e) zb (k (k1 m e s (nk.new (cB _) GU) d2))))
    fun e0=>dZ (cY
     (fun s1=>have s1:=eF.symm.trans s1;vY s1 (cY
      (fun e=>have e:=dg (c6 e);AX s1 (FP (k (k2 s1 e (s.new (rs':=U.bT u)) (nk.new (cB _) (CM u)) d2))))
      fun e=>hF (k3 (cZ.symm.trans e0) fun z=>sJ e (aE Int.ofNat z.2))))
     fun s0=>hF (k3 (cZ.symm.trans e0) fun z=>ax ((eF.symm.trans s0).symm.trans z.1))))))))
end
theorem eq1{a b:Nat}:d5 [a] [b]=decide (a=b):=by
 show Bool.rec (motive:=fun _=>Bool) false true (Nat.beq a b)=_;by_cases e:a=b
 ·rw[a9 e,show Nat.beq a b=true from Nat.beq_eq.mpr e]
 ·rw[a7 e,show Nat.beq a b=false from jA.mpr fun q=>e (Nat.beq_eq.mp q)]
section
variable{W:Wd}{H:AH}{i s:Nat}{l:List (U.Place×U.Tm)}{p:U.Place}{t:U.Tm}
theorem FV{Q:K1}(hc:aB H i=some (.aY (bK l) s))(e:aR l p=some t)(q:Q (aC t) H):gc W (.obj i) (cK p) H Q:=by
 show ob (aB H i) _ _;rw[hc];show fN (aR (bK l) (gn p)) _ _;rw[xT,e];exact q
theorem FW{F:Fa}{Q:K2}(hc:aB H i=some (.aY (bK l) s))(z:l.length≤aJ)(q:Q .aL F (aq H (.aY (bK (bc l p t)) (s+1)) i)):nF W (.obj i) (cK p) (aC t) F H Q:=by
 rw[←DH] at q;show ob (aB H i) _ _;rw[hc];exact⟨by unfold bK;rw[aN];exact z,q⟩
end
structure Pa(G:AH)(r c:Nat)(ts:List U.Tm):Prop where
 at_:aB G c=some (.lst (ts.map aC))
 ne:r≠c
section
variable{W:Wd}{n:Nat}{X:Fx}{b:U.Bd}{st:Nat}{evs:List U.Ev}{ks:List U.Tm}{G:AH}{h r c sp:Nat}{lv:Int}{l:List (U.Place×U.Tm)}{hd:U.Place→Option U.Tm}{L:List Nat}{rs ts:List U.Tm}{x8 x10 x11 x15 x16 x17 x18 x19 x20 x21 x22 x23 x24 x25 x26 x27 x28 x29 x30:Option V}{Q:K2}
theorem Sd.Vc(s:Sd G h r l hd L rs)(p:Pa G r c ts){y:Cell}:Sd (aq G y c) h r l hd L rs:=
 let ⟨_,h1⟩:=s.hh
 let ⟨_,h2⟩:=s.ll
 ⟨⟨_,gO h1 (j0 p.at_ h1 Cell.noConfusion)⟩,s.hk,⟨_,gO h2 (j0 p.at_ h2 Cell.noConfusion)⟩,gO s.rr p.ne.symm⟩
theorem Pa.new(s:Sd G h r l hd L rs):Pa (app G [.lst []]) r (aH G) []:=⟨dG (k:=0),fun e=>eA _ (cT (l:=G)▸e▸eQ s.rr)⟩
theorem T9{ps:List U.Tm}(hz:ps.length≤1000)(ha:∀i t,ps[i]?=some t→hd (U.aP (i+1))=some t):∀{k i G x8},i+k=ps.length→Sd G h r l hd L rs→Pa G r c (ps.take i)→(∀{G x8},Sd G h r l hd L rs→Pa G r c ps→Q .aL (fF X h r sp lv x8 x10 x11 [x15,x16,x17,x18,x19,x20,x21,x22,x23,x24,x25,x26,x27,some (.obj (c+10)),x29,x30]) (hF X b st evs ks G))→
  cf 8 (aQ W n yZ) ((List.range' i k).map fun i:Nat=>V.int (i:Int)) (fF X h r sp lv x8 x10 x11 [x15,x16,x17,x18,x19,x20,x21,x22,x23,x24,x25,x26,x27,some (.obj (c+10)),x29,x30]) (hF X b st evs ks G) Q:=by
 intro k
 induction k with
 |zero=>exact fun{i G x8} e s p q=>q s (by rw[qo (show ps.length≤i from bS e.symm)] at p;exact p)
 |succ k ih=>
  intro i G x8 e s p q;have lt:i<ps.length:=e▸qy (nB k);have at_:=bh lt;have hi:=ha i _ at_;have lz:((ps.take i).map aC).length≤1000:=by rw[aN];exact aA (List.length_take_le _ _) (aA (dk lt) hz)
  refine eO fun K kk=>FL (p:=U.aP (i+1)) s hi (aa (iL (i:=c+10) p.at_) (iu (p:=U.aP (i+1)) s hi (iF (i:=c+10) p.at_ (bb lz (by decide)) (kk ?_))))
  rw[show(ps.take i).map aC++[aC ps[i]]=(ps.take (i+1)).map aC by rw[List.take_succ,at_,bt];rfl]
  exact ih (by rw[←e,hE];rfl) (s.Vc p) ⟨dD p.at_,p.ne⟩ q
structure Lf(l l2:List (U.Place×U.Tm))(lv:Int)(ps:List U.Place):Prop where
 a:∀p t,aR l2 p=some t→U.ir lv p=true∧aR l p=some t
 b:∀p t,aR l p=some t→U.ir lv p=true→p∈ps∨aR l2 p=some t
 z:l2.length+ps.length≤l.length
theorem yl{p:U.Place}:U.ir lv p=(decide (p.1=121)&&decide ((p.2:Int)≤lv)):=Bool.decide_and _ _
theorem Lf.skip{l2:List (U.Place×U.Tm)}{p:U.Place}{ps:List U.Place}(f:Lf l l2 lv (p::ps))(h:U.ir lv p=false):Lf l l2 lv ps:=⟨f.a,fun q t e k=>(f.b q t e k).imp (fun m=>(a8.mp m).resolve_left fun e=>by rw[e,h] at k;exact ax k) id,fK f.z⟩
theorem Lf.take{l2:List (U.Place×U.Tm)}{p:U.Place}{ps:List U.Place}{t:U.Tm}(f:Lf l l2 lv (p::ps))(h:U.ir lv p=true)(e:aR l p=some t):Lf l (bc l2 p t) lv ps:=⟨fun q u g=>by
 rw[ri] at g;by_cases x:q=p
 ·rw[aG x] at g;rw[x];exact⟨h,g▸e⟩
 ·rw[aD x] at g;exact f.a q u g,fun q u g k=>by
 rw[ri];by_cases x:q=p
 ·rw[aG x];rw[x,e] at g;exact .inr g
 ·rw[aD x];exact(f.b q u g k).imp (fun m=>(a8.mp m).resolve_left x) id,aA (bp rj _) (aA (bS (ta _ _)) f.z)⟩
theorem Q7{s c2:Nat}(hz:l.length≤4000){nm:List Nat}(hb:d5 nm [98,117,105,108,116,105,110]=false){all:List V}(ne:c2≠h):∀{ps l2 s2 G x30},(∀p∈ps,∃t,aR l p=some t)→aB G h=some (.aY (bK l) s)→all=(bK l).map (fun p=>.tup (p.1.map cG))→aB G c2=some (.aY (bK l2) s2)→Lf l l2 lv ps→(∀{l2 s2 x30},Lf l l2 lv []→Q .aL (fF X h r sp lv x8 x10 x11 [x15,x16,some (.str nm),x18,x19,x20,x21,x22,x23,x24,x25,x26,x27,x28,some (.obj (c2+10)),x30]) (hF X b st evs ks (aq G (.aY (bK l2) s2) c2)))→
  gV (It (.aY s) (.obj (h+10)) all) 30 (aQ W n ya) (ps.map cK) (fF X h r sp lv x8 x10 x11 [x15,x16,some (.str nm),x18,x19,x20,x21,x22,x23,x24,x25,x26,x27,x28,some (.obj (c2+10)),x30]) (hF X b st evs ks G) Q:=by
 intro ps
 induction ps with
 |nil=>
  intro l2 s2 G x30 _ h1 ea h2 f q;have q:=q (s2:=s2) (x30:=x30) f;rw[kG h2] at q;exact⟨ea▸.aY (i:=h+10) (aj▸h1),q⟩
 |cons p ps ih=>
  intro l2 s2 G x30 hp h1 ea h2 f q;obtain⟨t,ht⟩:=hp p (.head _);have hp':=fun p m=>hp p (.tail _ m);refine k7 (ea▸.aY (i:=h+10) (aj▸h1)) fun K k=>aX hb (cY (fun e1=>?_) fun e1=>?_)
  ·rw[eq1] at e1;refine cY (fun e2=>?_) fun e2=>?_
   ·refine FV (i:=h+10) h1 ht (FW (i:=c2+10) h2 (aA (aT _ _) (aA f.z (aA hz (lz rfl)))) (k ?_));exact ih (G:=aq G (.aY (bK (bc l2 p t)) (s2+1)) c2) hp' (gO h1 ne) ea (dD h2) (f.take (yl.trans (by rw[e1,e2];rfl)) ht) fun{l2 s2 x30} f=>by rw[gv];exact q f
   ·exact k (ih hp' h1 ea h2 (f.skip (yl.trans (by rw[e2,Bool.and_false]))) q)
  ·rw[eq1] at e1;exact k (ih hp' h1 ea h2 (f.skip (yl.trans (by rw[e1,Bool.false_and]))) q)
end
section
variable{W:Wd}(pr:bA W){n:Nat}{X:Fx}{b:U.Bd}{S:U.Sb}{st:Nat}{evs:List U.Ev}{ks:List U.Tm}{G:AH}{h r c sp:Nat}{lv:Int}{l:List (U.Place×U.Tm)}{hd:U.Place→Option U.Tm}{L:List Nat}{rs ts:List U.Tm}{x8 x10 x15 x16 x17 x18 x19 x20 x21 x22 x23 x24 x25 x26 x28 x29 x30:Option V}
theorem Q6{c2 s2:Nat}{l2:List (U.Place×U.Tm)}{C:AH→Prop}{F:Fa}(h2:aB G c2=some (.aY (bK l2) s2))(hF:∀{v},ob (aB (dT F 30 v) 29) none id=some (.obj (c2+10))∧ob (aB (dT F 30 v) 30) none id=some v)(cc:C (Mine.hF X b st evs ks G)){ps:List U.Place}:∀{Q:fw},(∀p∈ps,∃t,aR l2 p=some t)→(∀{ts:List U.Tm},ts.length=ps.length→Q (ts.map aC) (Mine.hF X b st evs ks G))→oP C (bC W n yg) 30 F (ps.map cK) (Mine.hF X b st evs ks G) Q:=by
 induction ps with
 |nil=>exact fun _ q=>⟨cc,q (ts:=[]) rfl⟩
 |cons p ps ih=>
  intro Q hp q;obtain⟨t,ht⟩:=hp p (.head _);exact⟨cc,bH hF.1 (bH hF.2 (FV (i:=c2+10) h2 ht (ih (fun p m=>hp p (.tail _ m)) fun{ts} e=>q (ts:=t::ts) (aE Nat.succ e))))⟩
include pr
theorem F3{Q:K2}(s:Sd G h r l hd L rs)(M:U.ah b S)(hv:-1≤lv){ts:List U.Tm}:∀{x11 x27},(∀{x11 x27},Q .aL (fF X h r sp lv x8 x10 x11 [x15,x16,x17,x18,x19,x20,x21,x22,x23,x24,x25,x26,x27,x28,x29,x30]) (hF X b st evs ks G))→cf 11 (aQ W (n+1) Eg) (ts.map aC) (fF X h r sp lv x8 x10 x11 [x15,x16,x17,x18,x19,x20,x21,x22,x23,x24,x25,x26,x27,x28,x29,x30]) (hF X b st evs ks G) Q:=by
 induction ts with
 |nil=>exact fun q=>q
 |cons t ts ih=>
  intro x11 x27 q;obtain⟨u,w⟩:=M.walks t;exact eO fun K k=>gy pr rfl w (dZ (cY (fun e1=>U.fc (cZ.symm.trans e1) fun m e=>gP e (rp s (cY (fun i1=>gP e (Ql s (c6 i1) (aX (a7 (kU.mpr (jF (by decide:(-2:Int)≤-1) hv))) (k (ih q))))) fun i0=>k (ih q)))) fun e0=>k (ih q)))
omit pr
theorem FJ{H:AH}{i j:Nat}{l l':List V}{Q:K1}(h1:aB H i=some (.lst l))(h2:aB H j=some (.lst l'))(z:l.length+l'.length≤aJ)(q:Q (.obj i) (aq H (.lst (l++l')) i)):qV .Add (.obj i) H (.obj j) Q:=by
 show ob (aB H i) _ _;rw[h1];show ob (ob (aB H j) none _) _ _;rw[h2];exact⟨z,q⟩
theorem Lf.hk{l2:List (U.Place×U.Tm)}(f:Lf l l2 lv [])(hk:∀p,hd p=aR l p)(p:U.Place):(if U.ir lv p=true then hd p else none)=aR l2 p:=by
 cases e:aR l2 p with
 |some t=>
  have z:=f.a p t e;rw[aG z.1,hk,z.2]
 |none=>
  by_cases k:U.ir lv p=true
  ·rw[aG k,hk]
   cases e':aR l p with
   |none=>rfl
   |some t=>exact absurd ((f.b p t e' k).resolve_left dM) (by rw[e];exact Option.some_ne_none t ∘ Eq.symm)
  ·rw[aD k]
end
noncomputable def sU(X:Fx)(f:Nat):Nat:=((aB X.fs f).map Prod.snd).getD 2000
theorem Ho{X:Fx}{f k:Nat}(h:sU X f=k∧k≤100):∃a,aB X.fs f=some (a,k):=by
 obtain⟨h1,h2⟩:=h;unfold sU at h1
 cases e:aB X.fs f with
 |none=>rw[e] at h1;rw[←h1] at h2;exact absurd h2 (by decide)
 |some p=>rw[e] at h1;exact⟨p.1,aE some (gZ rfl h1)⟩
theorem keys_eq{l:List (U.Place×U.Tm)}:(bK l).map (fun p=>V.tup (p.1.map cG))=(l.map Prod.fst).map cK:=by
 unfold bK;rw[fJ,fJ];rfl
theorem QN{l:List (U.Place×U.Tm)}{p:U.Place}{t:U.Tm}(h:aR l p=some t):p∈l.map Prod.fst:=by
 induction l with
 |nil=>exact nomatch h
 |cons q l ih=>
  obtain⟨k,u⟩:=q;by_cases e:k=p
  ·exact e▸.head _
  ·exact .tail _ (ih ((gA e).symm.trans h))
theorem FD{l:List (U.Place×U.Tm)}{p:U.Place}(m:p∈l.map Prod.fst):∃t,aR l p=some t:=by
 induction l with
 |nil=>exact nomatch m
 |cons q l ih=>
  obtain⟨k,t⟩:=q;by_cases e:k=p
  ·subst e;exact⟨t,iD⟩
  ·obtain⟨u,hu⟩:=ih ((a8.mp m).resolve_left fun q=>e q.symm);exact⟨u,(gA e).trans hu⟩
section
variable{W:Wd}{n:Nat}{X:Fx}{b:U.Bd}{st:Nat}{evs:List U.Ev}{ks:List U.Tm}{G:AH}{h r c sp:Nat}{lv:Int}{l:List (U.Place×U.Tm)}{hd:U.Place→Option U.Tm}{L:List Nat}{rs ts:List U.Tm}{x8 x10 x11 x15 x16 x17 x18 x19 x20 x21 x22 x23 x24 x25 x26 x27 x28 x29 x30:Option V}{Q:K2}
theorem G0{ps:List U.Tm}(hz:ps.length≤100)(ha:∀i t,ps[i]?=some t→hd (U.aP (i+1))=some t)(s:Sd G h r l hd L rs)(q:∀{G x8 c},Sd G h r l hd L rs→Pa G r c ps→Q .aL (fF X h r sp lv x8 x10 x11 [x15,x16,x17,x18,x19,x20,x21,x22,x23,x24,x25,x26,x27,some (.obj (c+10)),x29,x30]) (hF X b st evs ks G)):
  cf 8 (aQ W n yZ) (jV ps.length) (fF X h r sp lv x8 x10 x11 [x15,x16,x17,x18,x19,x20,x21,x22,x23,x24,x25,x26,x27,some (.obj (aH G+10)),x29,x30]) (hF X b st evs ks (app G [.lst []])) Q:=by
 rw[pj];exact T9 (aA hz (by decide)) ha (cP _) s.app (Pa.new s) fun s p=>q s p
theorem Fd{nm:List Nat}(hb:d5 nm [98,117,105,108,116,105,110]=false)(s:Sd G h r l hd L rs)(hz:l.length≤4000)(q:∀{l2 s2 x30},Lf l l2 lv []→Q .aL (fF X h r sp lv x8 x10 x11 [x15,x16,some (.str nm),x18,x19,x20,x21,x22,x23,x24,x25,x26,x27,x28,some (.obj (aH G+10)),x30]) (hF X b st evs ks (app G [.aY (bK l2) s2]))):
  qi (.obj (h+10)) (hF X b st evs ks (app G [.aY [] 0])) (E0 30 (aQ W n ya) (fF X h r sp lv x8 x10 x11 [x15,x16,some (.str nm),x18,x19,x20,x21,x22,x23,x24,x25,x26,x27,x28,some (.obj (aH G+10)),x30]) (hF X b st evs ks (app G [.aY [] 0])) Q):=by
 obtain⟨s0,h1⟩:=s.hh;have h1':=dQ (r:=[.aY [] 0]) h1;refine⟨.aY (i:=h+10) (aj▸h1'),?_⟩;show gV _ 30 _ ((bK l).map _) _ _ _;rw[keys_eq];exact Q7 (c2:=aH G) (G:=app G [.aY [] 0]) (l2:=[]) hz hb (fun e=>eA _ (cT (l:=G)▸e▸eQ h1)) (fun p=>FD) h1' keys_eq.symm (dG (k:=0)) ⟨(fun _ _ e=>nomatch e),fun p t e _=>.inl (QN e),by rw[aN];exact bS (cP _)⟩ fun{l2 s2 x30} f=>by
  have e:aq (app G [.aY [] 0]) (.aY (bK l2) s2) (aH G)=app G [.aY (bK l2) s2]:=o5 (k:=0);rw[e];exact q f
end
section
variable{W:Wd}{n:Nat}{X:Fx}{b:U.Bd}{st:Nat}{evs:List U.Ev}{ks:List U.Tm}{G:AH}
theorem Cw{F:Fa}{Q:K1}{c2 s2:Nat}{l2:List (U.Place×U.Tm)}(h2:aB G c2=some (.aY (bK l2) s2))(z:l2.length≤4000)(hF:∀{v},ob (aB (dT F 30 v) 29) none id=some (.obj (c2+10))∧ob (aB (dT F 30 v) 30) none id=some v)(q:∀{ts:List U.Tm},ts.length≤4000→Q (.lst (ts.map aC)) (Mine.hF X b st evs ks G)):yi (bC W n yg) 30 F Q (.obj (c2+10)) (Mine.hF X b st evs ks G):=by
 refine⟨.aY (i:=c2+10) (aj▸h2),?_⟩;show au (List.length ((bK l2).map _)≤aJ) (oP _ _ 30 _ ((bK l2).map _) _ (uf Q));rw[keys_eq];exact⟨by rw[aN,aN];exact aA z (lz rfl),Q6 h2 hF (keys_eq▸.aY (i:=c2+10) (aj▸h2)) (fun p=>FD) fun{ts} e=>⟨.val,q (aA (bS (e.trans (aN _))) z)⟩⟩
theorem FI{H:AH}{i:Nat}{ps ts:List U.Tm}{Q:K1}(hc:aB H i=some (.lst (ps.map aC)))(z1:ps.length≤100)(z2:ts.length≤4000)(q:Q (.lst ((ps++ts).map aC)) H):Seq (Prim W (.bin .Add) [.obj i,.lst (ts.map aC)] H) Q:=by
 rw[bt] at q;exact fC (nC.lst (.cell (aj▸hc)) .val (by rw[a5,aN,aN];exact aA (d9 z1 z2) (lz rfl)) .val) q
end
theorem Nk.goal{l l2:List (U.Place×U.Tm)}{F:U.FS}{k f:Nat}{S:U.Sb}{parts:List U.Tm}{lv:Int}{picks:List Nat}(z:Nk l F (k+1))(h:l2.length≤l.length)(hp:parts.length≤100)(hl:-1≤lv):Nk l2 (U.mB F S parts f lv picks) k:=⟨z.le.sp,aA (bp h k) z.le.hz,by
 show(F.kept++parts).length+100*k≤1000000;rw[a5,bP];exact aA (cq (aA (bp hp _) (bS ((bR _ _).trans (kb 100 k).symm))) _) z.kz,by
 show(F.evs++[_]).length+k<1000;rw[a5,bP,bR _ k];exact z.ez,z.rz,z.oz,hl⟩
section
variable{W:Wd}(pr:bA W){n:Nat}{X:Fx}{QQ:K2}{is:List U.ak}{F:U.FS}{f m:Nat}{parts:List U.Tm}{S:U.Sb}
include pr
theorem Un(hr:F.rest=[])(hs:sU X f=parts.length∧parts.length≤100)(ha:∀i t,parts[i]?=some t→F.hold (U.aP (i+1))=some t∧U.af F.aI t)(hl:(m:Int)≤F.living)(M:U.ah F.b S)(bq:U.BQ (U.af F.aI) F.b)(sh:U.fk S parts)(hp:0<X.picks.length)(hR:Rd W n X QQ is (U.mB F S parts f m X.picks)):Rd W n X QQ (.call f m::is) F:=
 fD pr (F:=F) (i:=.call f m) (fun _ m=>nomatch m) (by rw[hr];rfl) fun K s nk d1 d2 k=>by
  obtain⟨a,hf⟩:=Ho hs;have zp:parts.length≤aJ:=aA hs.2 (lz rfl);refine dB (lz rfl) (rD pr hf ⟨zp,G0 hs.2 (fun i t e=>(ha i t e).1) s fun{G x8 c} s p=>?_⟩);refine aX (a7 (kU.mpr hl)) (uu (Fd (lv:=(m:Int)) rfl s (aA (aT _ _) nk.hz) fun{l2 s2 x30} f'=>?_));have h2:aB (app G [.aY (bK l2) s2]) (aH G)=some (.aY (bK l2) s2):=dG (k:=0);have pa:aB (app G [.aY (bK l2) s2]) c=some (.lst (parts.map aC)):=dQ p.at_;have z3:l2.length≤_:=f'.z;have z2:l2.length≤4000:=aA z3 (aA (aT _ _) nk.hz);refine Cw h2 z2 ⟨rfl,rfl⟩ fun{ts} zt=>FI (i:=c+10) pa hs.2 zt ?_;refine F3 pr s.app M (jF (by decide:(-1:Int)≤0) (eH m)) fun{x11 x27}=>?_
  have kz:=nk.kz;refine FJ (i:=9) (j:=c+10) rfl (show aB (hF X F.b _ F.evs F.kept (app G [.aY (bK l2) s2])) (c+10)=_ from pa) ?_ ?_
  ·rw[aN,aN];exact aA (d9 (aA (aT _ _) kz) hs.2) (lz rfl)
  ·rw[←bt];have z':F.aI≤150000:=aA nk.z (by decide)
   have ez:=nk.ez;refine xW (a:=6) (e:=8) pr M (fun p m=>⟨(bq p m).1.mono z',(bq p m).2.mono z'⟩) (src:=.obj (c+10)) (evs:=F.evs) (ts:=parts) rfl rfl (.inr ⟨c+10,rfl,pa⟩) (fun t m=>let ⟨i,hi⟩:=iR.mp m;(ha i t hi).2.mono z') sh (aA hs.2 (by decide)) hp (bb (aT _ _) ez) fun{st g}=>k (hR ⟨⟨s2,dQ h2⟩,f'.hk s.hk,s.app.app.ll,s.app.app.rr⟩ (nk.goal z3 hs.2 (jF (by decide:(-1:Int)≤0) (eH m))) d2)
theorem Up(hr:F.rest=[])(hs:sU X f=parts.length∧parts.length≤100)(ha:∀i t,parts[i]?=some t→F.hold (U.aP (i+1))=some t∧U.af F.aI t)(hl:F.living=-1)(M:U.ah F.b S)(bq:U.BQ (U.af F.aI) F.b)(sh:U.fk S parts)(hp:0<X.picks.length)(hD:∀{st G Fr},QQ (.ret (.tup [.obj 8,.obj 9,.str [100,111,110,101]])) Fr (hF X (U.mB F S parts f (-1) X.picks).b st (U.mB F S parts f (-1) X.picks).evs (U.mB F S parts f (-1) X.picks).kept G)):Rd W n X QQ [.exec f] F:=
 fD pr (F:=F) (i:=.exec f) (is:=[]) (fun _ m=>nomatch m) (by rw[hr];rfl) fun{l h r a0 st G x8 x10 x11 x20 x21 x22 x23 x24 x25 x26 x27 x28 x29 x30} K s nk d1 d2 k=>by
  obtain⟨a,hf⟩:=Ho hs;have zp:parts.length≤aJ:=aA hs.2 (lz rfl);refine dB (lz rfl) (rD pr hf ⟨zp,G0 hs.2 (fun i t e=>(ha i t e).1) s fun{G x8 c} s p=>?_⟩);refine uu (Fd (lv:=F.living) rfl s (aA (aT _ _) nk.hz) fun{l2 s2 x30} f'=>?_);have h2:aB (app G [.aY (bK l2) s2]) (aH G)=some (.aY (bK l2) s2):=dG (k:=0);have pa:aB (app G [.aY (bK l2) s2]) c=some (.lst (parts.map aC)):=dQ p.at_;have z3:l2.length≤_:=f'.z;have z2:l2.length≤4000:=aA z3 (aA (aT _ _) nk.hz);refine Cw h2 z2 ⟨rfl,rfl⟩ fun{ts} zt=>FI (i:=c+10) pa hs.2 zt ?_;refine F3 pr s.app M nk.lv fun{x11 x27}=>?_;have kz:=nk.kz;refine FJ (i:=9) (j:=c+10) rfl (show aB (hF X F.b _ F.evs F.kept (app G [.aY (bK l2) s2])) (c+10)=_ from pa) ?_ ?_
  ·rw[aN,aN];exact aA (d9 (aA (aT _ _) kz) hs.2) (lz rfl)
  ·rw[←bt];have z':F.aI≤150000:=aA nk.z (by decide)
   have ez:=nk.ez;refine xW (a:=6) (e:=8) pr M (fun p m=>⟨(bq p m).1.mono z',(bq p m).2.mono z'⟩) (src:=.obj (c+10)) (evs:=F.evs) (ts:=parts) rfl rfl (.inr ⟨c+10,rfl,pa⟩) (fun t m=>let ⟨i,hi⟩:=iR.mp m;(ha i t hi).2.mono z') sh (aA hs.2 (by decide)) hp (bb (aT _ _) ez) fun{st g}=>?_
   have e1:((a0:Nat):Int)=((X.code.map hY).length:Int)-1:=by
    have z:=aE List.length d2;have lt:=eQ d1;rw[oZ,lX] at z;rw[aN,show X.code.length=a0+1 from tX (Nat.le_of_sub_eq_zero z) lt]
    exact HF.symm
   exact aa (a9 e1) (aa (a9 hl) hD)
end
noncomputable def jE(QQ:K2)(X:Fx)(evs:List U.Ev):Prop:=∀{b st ks G Fr},QQ (.ret (.tup [.obj 8,.obj 9,.str [102,97,105,108,101,100]])) Fr (hF X b st evs ks G)
noncomputable def vv(QQ:K2)(X:Fx)(F:U.FS):Prop:=∀{st G Fr},QQ (.ret (.tup [.obj 8,.obj 9,.str [100,111,110,101]])) Fr (hF X F.b st F.evs F.kept G)
theorem l9{QQ:K2}{X:Fx}{evs:List U.Ev}(h:jE QQ X evs){b:U.Bd}{st:Nat}{ks:List U.Tm}{G:AH}{Fr:Fa}:QQ (.ret (.tup [.obj 8,.obj 9,.str [102,97,105,108,101,100]])) Fr (hF X b st evs ks G):=h
theorem K5{QQ:K2}{X:Fx}{F:U.FS}(h:vv QQ X F){st:Nat}{G:AH}{Fr:Fa}:QQ (.ret (.tup [.obj 8,.obj 9,.str [100,111,110,101]])) Fr (hF X F.b st F.evs F.kept G):=h
section
variable{W:Wd}(pr:bA W){n:Nat}{X:Fx}{QQ:K2}{is:List U.ak}{F:U.FS}
include pr
theorem Um{m:Nat}(hc:X.code=.alloc m::is)(hr:F.rest=[])(hl:F.living=-1)(hR:Rd W n X QQ is {F with living:=m}):Rd W n X QQ (.alloc m::is) F:=
 fD pr (F:=F) (i:=.alloc m) (fun _ m=>nomatch m) (by rw[hr];rfl) fun{l h r a st G x8 x10 x11 x20 x21 x22 x23 x24 x25 x26 x27 x28 x29 x30} K s nk d1 d2 k=>by
  have e:a=0:=by
   have z:=aE List.length d2;have lt:=eQ d1;rw[oZ,hc,dK,Nat.succ_sub_succ] at z;rw[hc] at lt;exact Nat.eq_zero_of_not_pos fun p=>eA _ (z▸Nat.sub_lt (bj p (oh lt)) p)
  subst e;exact aX (a7 (by rw[hl];decide)) (k (hR s ⟨nk.le.sp,nk.le.hz,nk.le.kz,nk.le.ez,nk.le.rz,nk.le.oz,jF (by decide:(-1:Int)≤0) (eH m)⟩ d2))
theorem rules(har:Ar X)(hp:0<X.picks.length):U.Rules (Rd W n X QQ) (jE QQ X) (vv QQ X) (sU X) X.picks where
 getVar:=fun hr hq _ hR=>Us pr hr hq hR
 il:=fun hr hp hq w1 w2 M bq b1 b2 k=>Ur pr (Fl:=jE QQ X) l9 hr hp hq w1 w2 M bq b1 b2 k
 jR:=fun hr hq M bq ht q1 q0=>Uq pr (Fl:=jE QQ X) l9 hr hq M bq ht q1 q0
 Dy:=fun hr hq w M bq _ hf hR=>z5 pr (Fl:=jE QQ X) l9 har hr hq w hf M bq (fun m e=>U.Tm.v.inj e▸hR) (fun s=>nomatch s) (fun v=>nomatch v)
 Dx:=fun hr hq w M bq _ hf hs he hR=>z5 pr (Fl:=jE QQ X) l9 har hr hq w hf M bq (fun m e=>nomatch (aE U.bQ e).symm.trans hs) (fun _ _=>hR) (fun _ h=>absurd ⟨hs,he⟩ h)
 Dw:=fun hr hq w M bq _ hf hv hn q0=>z5 pr (Fl:=jE QQ X) l9 har hr hq w hf M bq (fun m e=>sG hv m e) (fun s e=>absurd ⟨s,e⟩ hn) (fun _ _=>q0)
 gQ:=fun hr _ hR=>Ux pr hr hR
 i5:=fun hr M bq ht q1 q0=>Uw pr (Fl:=jE QQ X) l9 hr M bq ht q1 q0
 iO:=fun h0 hm hR=>Uy pr h0 hm hR
 val:=fun hi hr hp w nl M bq _ hu hx q1 q0=>Uz pr (Fl:=jE QQ X) l9 hi hr hp w nl M bq hu hx q1 q0
 loc:=fun hi hr hp w M bq _ hu hx q1 q0=>Ut pr (Fl:=jE QQ X) l9 hi hr hp w M bq hu hx q1 q0
 putStr:=fun hr hR=>Uu pr har hr hR
 iK:=fun hr hp _ hR=>Uv pr hr hp hR
 hV:=fun hr hR=>Uo pr hr hR
 call:=fun hr hs ha hl M bq sh hR=>Un pr hr hs ha hl M bq sh hp hR
 exec:=fun hr hs ha hl M bq sh hD=>Up pr hr hs ha hl M bq sh hp (K5 hD)
end
@[reducible] noncomputable def f0(X:Fx)(x8:Option V)(t:Fa):Fa:=some (.obj 0)::some (.obj 5)::some (.obj 6)::some (.obj 7)::some (.lst (eD X.picks))::some (.obj 8)::some (.obj 9)::some (.obj 10)::x8::t
theorem LJ{L:List Nat}{x:Nat}:bc (encL L) (.int (x:Int)) (.int (-2))=encL (cQ L x):=by
 unfold cQ;have e:((encL L).any fun q=>decide (q.1=.int (x:Int)))=decide (x∈L):=mi.mpr (by
  rw[tN,xN];exact⟨fun⟨p,m,h⟩=>(let ⟨y,my,ey⟩:=cg.mp m;dg (Atom.int.inj ((aE Prod.fst ey).trans (c6 h)))▸my),fun m=>⟨_,qm m,a9 rfl⟩⟩)
 unfold bc;rw[e];by_cases m:x∈L
 ·rw[a9 m,aG rfl,aG m];unfold encL;rw[fJ];exact g8 fun y _=>by by_cases q:Atom.int (y:Int)=.int (x:Int);exact(aG q);exact aD q
 ·rw[a7 m,aD ax,aD m];unfold encL;rw[bt];rfl
section
variable{W:Wd}(pr:bA W){n:Nat}{X:Fx}{Q:K2}
theorem Ni{t:Fa}(z:X.call.length≤100):∀{k i l s x8},i+k=X.call.length→(∀j T,j<i→X.call[j]?=some T→aR l (U.aP (1+j))=some T)→l.length≤i→(∀{l s x8},(∀j T,X.call[j]?=some T→aR l (U.aP (1+j))=some T)→l.length≤100→Q .aL (f0 X x8 t) (hF X [] 0 [] X.call [.aY (bK l) s]))→
  cf 8 (aQ W n Eb) ((List.range' i k).map fun i:Nat=>V.int (i:Int)) (f0 X x8 t) (hF X [] 0 [] X.call [.aY (bK l) s]) Q:=by
 intro k
 induction k with
 |zero=>exact fun{i l s x8} e h hl q=>q (fun j T hj=>h j T (bj (dE.mp hj).1 (bS e.symm)) hj) (aA hl (aA (bS e) z))
 |succ k ih=>
  intro i l s x8 e h hl q;have lt:i<X.call.length:=e▸qy (nB k);have at_:=bh lt;refine eO fun K kk=>bH (n7 (aj▸at_)) (FW (W:=W) (i:=10) (p:=U.aP (i+1)) (show aB (hF X [] 0 [] X.call [.aY (bK l) s]) 10=some (.aY (bK l) s) from rfl) (aA hl (aA (dk lt) (aA z (lz rfl)))) (kk ?_))
  refine ih (by rw[←e,hE];rfl) (fun j T hj he=>?_) (aA rj (cI hl)) q
  rw[ri];by_cases q:j=i
  ·subst q;rw[aG (aE U.aP (bR 1 j))];exact at_.symm.trans he
  ·rw[aD fun e=>q (Nat.add_left_cancel ((nE e).2.trans (bR i 1)))];exact h j T (Nat.lt_of_le_of_ne (oh hj) q) he
noncomputable def A5(call:List U.Tm)(tb:List Nat)(ts:List U.Tm):Prop:=tb.Nodup∧(∀x∈tb,x≤100000)∧∀T∈call,U.bQ T=true→(∀x,T.has x→x∈tb)∨T∈ts
include pr
theorem Nv{l:List (U.Place×U.Tm)}{s:Nat}{t:Fa}(ha:∀T∈X.call,U.af 100000 T):∀{ts:List U.Tm} {tb x8 x11},(∀T∈ts,T∈X.call)→A5 X.call tb ts→(∀{tb x11},A5 X.call tb []→Q .aL (f0 X x8 (some (.obj 11)::some (.obj 12)::x11::t)) (hF X [] 0 [] X.call [.aY (bK l) s,.dict [] 0,.lst (aZ tb)]))→
  gV (It .lst (.obj 7) (X.call.map aC)) 11 (aQ W (n+101) Ec) (ts.map aC) (f0 X x8 (some (.obj 11)::some (.obj 12)::x11::t)) (hF X [] 0 [] X.call [.aY (bK l) s,.dict [] 0,.lst (aZ tb)]) Q:=by
 intro ts
 induction ts with
 |nil=>exact fun{tb x8 x11} _ i q=>⟨cF rfl,q i⟩
 |cons T ts ih=>
  intro tb x8 x11 hs i q;have hT:=ha T (hs T (.head _));have hs':=fun T m=>hs T (.tail _ m);refine k7 (cF rfl) fun K k=>dZ (cY (fun e1=>?_) fun e1=>?_)
  ·have nd:(U.bL tb T).2.Nodup:=y7 i.1;have lo:∀x∈(U.bL tb T).2,x≤100000:=fun x m=>(U.pY.mp m).elim (i.2.1 x) (hT.lo x);have z:(U.bL tb T).2.length≤100001:=by
    have:=U.mQ (r:=List.range 100001) nd fun x m=>m7.mpr (jI (lo x m))
    rw[jH] at this;exact this
   exact zN pr (a:=12) (d:=n+100) (aA hT.dp (b9 _ _)) rfl (bb z (lz rfl)) (k (ih hs' ⟨nd,lo,fun V m h=>(i.2.2 V m h).elim (fun h=>.inl fun x q=>U.pY.mpr (.inl (h x q))) fun m=>(a8.mp m).elim (fun e=>.inl fun x q=>U.pY.mpr (.inr (e▸q))) .inr⟩ q))
  ·exact k (ih hs' ⟨i.1,i.2.1,fun V m h=>(i.2.2 V m h).imp id fun m=>(a8.mp m).resolve_left fun e=>ax (e1.symm.trans (eF.trans (show U.bQ T=true from(show V=T from e)▸h)))⟩ q)
omit pr
noncomputable def A6(call:List U.Tm)(tb L:List Nat):Prop:=∀x∈L,U.Tm.v x∈call∧x∉tb
theorem Rq{l:List (U.Place×U.Tm)}{s:Nat}{tb:List Nat}{t:Fa}:∀{ts:List U.Tm} {L s' x8 x11},(∀T∈ts,T∈X.call)→L.length+ts.length≤100→A6 X.call tb L→(∀{L s' x11},L.length≤100→A6 X.call tb L→Q .aL (f0 X x8 (some (.obj 11)::some (.obj 12)::x11::t)) (hF X [] 0 [] X.call [.aY (bK l) s,.dict (encL L) s',.lst (aZ tb)]))→
  gV (It .lst (.obj 7) (X.call.map aC)) 11 (aQ W n Ed) (ts.map aC) (f0 X x8 (some (.obj 11)::some (.obj 12)::x11::t)) (hF X [] 0 [] X.call [.aY (bK l) s,.dict (encL L) s',.lst (aZ tb)]) Q:=by
 intro ts
 induction ts with
 |nil=>exact fun{L s' x8 x11} _ z i q=>⟨cF rfl,q z i⟩
 |cons T ts ih=>
  intro L s' x8 x11 hs z i q;have hs':=fun T m=>hs T (.tail _ m);have z':L.length+ts.length≤100:=fK z;refine k7 (cF rfl) fun K k=>dZ (cY (fun e1=>?_) fun e1=>k (ih hs' z' i q));refine U.fc (cZ.symm.trans e1) fun m e=>gP e (FU (W:=W) (a:=12) (l:=bX tb) (show aB (hF X [] 0 [] X.call [.aY (bK l) s,.dict (encL L) s',.lst (aZ tb)]) 12=some (.lst ((bX tb).map V.int)) from rfl) (cY (fun i1=>?_) fun i1=>k (ih hs' z' i q)))
  refine gP e ⟨by unfold encL;rw[aN];exact aA (Nat.le_of_add_right_le z') (lz rfl),?_⟩
  rw[LJ];have nm:m∉tb:=fun h=>by
   rw[show(bX tb).any (· == (m:Int))=true from tN.mpr ⟨_,qm h,ig _⟩] at i1
   exact nomatch i1
  exact k (ih hs' (by
   unfold cQ;by_cases q:m∈L
   ·rw[aG q];exact z'
   ·rw[aD q,a5,hE];exact z) (fun x h=>by
   unfold cQ at h;by_cases q:m∈L
   ·rw[aG q] at h;exact i x h
   ·rw[aD q] at h;exact(b6.mp h).elim (i x) fun h=>(a6.mp h).symm▸⟨e▸hs T (.head _),nm⟩) q)
end
@[reducible] noncomputable def hC(X:Fx):AH:=.inst 0 [(1599430227059,.obj 1),(109388970062261371602777502323,.obj 2),(25829672611287626355,.obj 3),(1861224063156749765404099319326667379,.obj 4)]::X.c1::X.c2::.lst (X.fs.map l7)::X.c4::.lst (X.code.map hY)::.dict [] 0::.lst (X.call.map aC)::[]
noncomputable def fQ(W:Wd)(n:Nat)(Q:K1):K2:=jw (aQ W (n+155) (dp 12 Ea)) (gM Q)
section
variable{W:Wd}(pr:bA W){n N:Nat}{X:Fx}{Q:K1}
include pr
theorem Lu(hc:∀T∈X.call,U.af 100000 T∧∀k,T.has k→N≤k)(z:X.call.length≤100)(zc:X.code.length≤900)(hR:∀F,U.Start N 100000 X.call F→F.living=-1→Rd W n X (fQ W n Q) X.code F):Fi W (n+156) 76 [.obj 0,.obj 5,.obj 6,.obj 7,.lst (eD X.picks)] (hC X) Q:=by
 have zm:(X.call.map aC).length≤aJ:=by rw[aN];exact aA z (lz rfl)
 refine pr.fe M1 rfl ?_;refine dB (lz rfl) (FQ pr (i:=7) rfl (uu ⟨zm,?_⟩));rw[aN,pj];refine Ni (l:=[]) z (cP _) (fun _ _ h=>absurd h (q5 _)) (ai _) fun{l s x8} hl zl=>?_;refine jx (dB (lz rfl) ⟨cF rfl,?_⟩);refine Nv pr (n:=n+54) (tb:=[]) (fun T m=>(hc T m).1) (fun _ m=>m) ⟨dF,(fun _ m=>nomatch m),fun T m _=>.inr m⟩ fun{tb x11} i=>⟨cF rfl,?_⟩;refine Rq (L:=[]) (fun _ m=>m) (aA (bS (cP _)) z) (fun _ m=>nomatch m) fun{L s' x11} zL i2=>?_;refine dB (lz rfl) ⟨?_,?_⟩
 ·rw[aN];exact aA zc (lz rfl)
 ·rw[aN,pj];refine hR ⟨[],fun p=>aR l p,L,[],100000,-1,[],X.call⟩ ⟨rfl,rfl,rfl,rfl,rfl,fun j T e=>hl j T e,hc,fun x m=>⟨(hc _ (i2 x m).1).1.lo x rfl,fun T mT h q=>(i2 x m).2 (((i.2.2 T mT h).resolve_right dM) x q)⟩⟩ rfl (G:=[.aY (bK l) s,.dict (encL L) s',.lst (aZ tb),.lst []]) (h:=0) (r:=3) (a:=0) ⟨⟨s,rfl⟩,fun _=>rfl,⟨s',rfl⟩,rfl⟩ ⟨?_,aA (d9 zl zc) (by decide),?_,?_,bW _,aA zL (by decide),Int.le_refl _⟩ rfl
  ·exact aA (cq (dO 2 zc) 100000) (by decide)
  ·exact aA (d9 z (dO 100 zc)) (by decide)
  ·exact bb (bS (cP _)) (bb zc (by decide))
end
theorem j5{a c k:Nat}(h:k<c):a+c≠k:=eb (bj h (b9 c a))
theorem dC{x y:Nat}{l:List Nat}(h:x≠y)(n:x∉l):x∉y::l:=fun m=>(a8.mp m).elim h n
theorem S5{a:Nat}{l:List Nat}(h:∀x∈l,5≤x∧x<a+5)(n:l.Nodup):((a+7)::4::(a+6)::0::1::2::l).Nodup:=by
 have lo:∀{k},k<5→k∉l:=fun q m=>eA _ (bj q (h _ m).1);have hi:∀{k},a+5≤k→k∉l:=fun q m=>eA _ (bj (h _ m).2 q);have s67:a+7≠a+6:=eb (dY _);exact ba.mpr ⟨dC (j5 (by decide)) (dC s67 (dC (j5 (by decide)) (dC (j5 (by decide)) (dC (j5 (by decide)) (hi (aT (a+5) 2)))))),ba.mpr ⟨dC (jJ (j5 (by decide))) (dC (by decide) (dC (by decide) (dC (by decide) (lo (by decide))))),ba.mpr ⟨dC (j5 (by decide)) (dC (j5 (by decide)) (dC (j5 (by decide)) (hi (cB (a+5))))),ba.mpr ⟨dC (by decide) (dC (by decide) (lo (by decide))),ba.mpr ⟨dC (by decide) (lo (by decide)),ba.mpr ⟨lo (by decide),n⟩⟩⟩⟩⟩⟩
theorem Gb{f:Nat→Nat}{l:List Nat}(n:l.Nodup)(h:∀a b,a∈l→b∈l→f a=f b→a=b):(l.map f).Nodup:=by
 induction l with
 |nil=>exact dF
 |cons x l ih=>
  have n:=ba.mp n;exact ba.mpr ⟨fun m=>let ⟨y,my,e⟩:=cg.mp m;n.1 (h y x (.tail _ my) (.head _) e▸my),ih n.2 fun a b ma mb=>h a b (.tail _ ma) (.tail _ mb)⟩
section
variable{z gl m:Nat}
theorem VC{σ:List Nat}(hs:∀i∈σ,i<m)(nd:σ.Nodup){i j:Nat}(e:rn σ m i=rn σ m j):i=j:=(zf hs nd).1.symm.trans ((aE (nr σ m) e).trans (zf hs nd).1)
variable{H H':AH}{N es st:Nat}{fn:Int}{ne:Bool}{args:List U.Tm}{goals:List (Nat×List U.Tm)}{od lives chs K:List Nat}{C L Sl A:Nat→Nat}{Kd:Nat→List Nat}{r:AH}
theorem G1(b:Bg [z,gl] H (hD (mD (.int fn) (.int (N:Nat)) args) (.lst (goals.map bE)) (.lst (aZ chs)) (bD A K) st (app r [.lst (aZ od),.lst (aZ lives),.inst 8 (sN ne es (aH r+6))])) H')(s:Sv K C L Kd Sl A r)(hs:∀i∈[z,gl],i<H.length)(nd:[z,gl].Nodup):
  Pc H' z gl (rn [z,gl] H.length (aH r+7)) (rn [z,gl] H.length 4) (rn [z,gl] H.length (aH r+6)) (rn [z,gl] H.length 2) st N es fn ne args goals lives chs K C L Kd Sl (fun k=>rn [z,gl] H.length (A k+5)) where
 uh:=(aj▸b.fZ (j:=0) rfl).trans (aE (fun l=>some (Cell.inst 6 [(100897158637842290,.int fn),(5929854835,.tup l),(1543761914995,.obj gl),(1526583357044,.int (N:Nat))])) (d0 fun _=>lE))
 xw:=(aj▸b.fZ (j:=1) rfl).trans (aE (fun l=>some (Cell.lst l)) (d0 fun _=>pe))
 zw:=aj▸b.fZ (j:=aH r+7) (c:=.inst 8 (sN ne es (aH r+6))) (aj▸(show aB (hD _ _ _ _ _ (app r _)) (aH r+7)=_ from dG (k:=2)))
 xM:=(aj▸b.fZ (j:=4) rfl).trans (aE (fun l=>some (Cell.dict l st)) (by unfold bD fW gr;rw[fJ];rfl))
 y9:=(aj▸b.fZ (j:=aH r+6) (c:=.lst (aZ lives)) (aj▸(show aB (hD _ _ _ _ _ (app r _)) (aH r+6)=_ from dG (k:=1)))).trans (aE (fun l=>some (Cell.lst l)) u3)
 rN:=(aj▸b.fZ (j:=2) rfl).trans (aE (fun l=>some (Cell.lst l)) u3)
 inf:=fun k hk=>let ⟨f,_,h⟩:=s.at_ hk
  ⟨f,aj▸b.fZ (j:=A k+5) (c:=.inst 7 (fY k (Kd k) (Sl k) f (L k) (C k))) (aj▸(show aB (hD _ _ _ _ _ (app r _)) (A k+5)=_ from dQ h))⟩
 nd:=by
  have n6:=S5 (a:=aH r) (l:=K.map fun k=>A k+5) (fun x m=>by
   obtain⟨k,hk,rfl⟩:=cg.mp m;obtain⟨_,_,h⟩:=s.at_ hk;exact⟨b9 _ _,Nat.add_lt_add_right (cT (l:=r)▸eQ h) 5⟩) (Gb s.nd fun a b ha hb e=>s.inj ha hb (BY e))
  have z:=Gb (f:=rn [z,gl] H.length) n6 fun _ _ _ _ e=>VC hs nd e;rw[cO,cO,cO,cO,cO,cO,fJ] at z;exact z
end
@[reducible] noncomputable def kK(fn:Int)(N gl:Nat)(args:List U.Tm):Cell:=.inst 6 [(100897158637842290,.int fn),(5929854835,.tup (args.map aC)),(1543761914995,.obj gl),(1526583357044,.int (N:Nat))]
inductive Ax(sig:Nat→Nat)(H H1:AH)(z gl p N:Nat)(fn:Int)(args:List U.Tm)(goals:List (Nat×List U.Tm)):Prop
 |mk {d lv ch st la:Nat} {ne:Bool} {lives chs K:List Nat} {C L Sl A:Nat→Nat} {Kd:Nat→List Nat} {pl:U.Pl} (pc:Pc H1 z gl p d lv ch st N la fn ne args goals lives chs K C L Kd Sl A) (pk:Pk pl K L Kd Sl) (hla:1<goals.length→aB (aZ lives) 0=some (.int la)) (hne:ne=decide (goals.length=2)) (pn:U.Plan pl N sig la args goals) (ka:∀k,U.bZ k args≠0→k∈K) (keep:∀{i x},aB H i=some x→aB H1 i=some x∧∀k,A k≠i)
section
variable{z gl:Nat}{H H':AH}{N es st:Nat}{fn:Int}{args:List U.Tm}{goals:List (Nat×List U.Tm)}{H1':AH}
theorem GA{r:Nat→Nat}:mc r (mD (.int fn) (.int (N:Nat)) args)=kK fn N (r 1) args:=aE (fun l=>Cell.inst 6 [(100897158637842290,.int fn),(5929854835,.tup l),(1543761914995,.obj (r 1)),(1526583357044,.int (N:Nat))]) (d0 fun _=>lE)
theorem F9{r:Nat→Nat}:mc r (.lst (goals.map bE))=.lst (goals.map bE):=aE Cell.lst (d0 fun _=>pe)
theorem FC(hz:aB H z=some (kK fn N gl args))(hg:aB H gl=some (.lst (goals.map bE)))(b:Bg [z,gl] H H1' H')(e0:H1'[0]?=some (mD (.int fn) (.int (N:Nat)) args))(e1:H1'[1]?=some (.lst (goals.map bE))){i:Nat}{x:Cell}(h:aB H i=some x):aB H' i=some x∧∀j,rn [z,gl] H.length (j+5)≠i:=by
 refine⟨?_,fun j e=>?_⟩
 ·by_cases m:i∈[z,gl]
  ·rcases a8.mp m with rfl|m
   ·exact((aj▸b.fZ e0:aB H' _=_).trans (aE some GA)).trans (hz.symm.trans h)
   ·cases a6.mp m;exact((aj▸b.fZ e1:aB H' _=_).trans (aE some F9)).trans (hg.symm.trans h)
  ·rw[aj];exact b.out m (aj▸h)
 ·have l:=eQ h;exact om.mpr l (e▸(show H.length≤rn [z,gl] H.length (j+5) from aT H.length (j+5-2)))
end
section
variable{sig:Nat→Nat}{args:List U.Tm}{g g':Nat×List U.Tm}{goals:List (Nat×List U.Tm)}{N z gl:Nat}{fn:Int}{H:AH}{Q:K1}
theorem Gt.sm(h:Gt sig args g)(ha:∀t∈args,∀k,t.has k→k<N)(hN:N≤60):∀t∈g.2,(∀k,t.has k→k<60)∧t.aU<aJ:=fun t m=>⟨fun k q=>by
 obtain⟨u,mu,hu⟩:=n8 (h.sub k (eb (U.p5 m q)));exact bj (ha u mu k hu) hN,(h.e t m).elim (fun e=>by rw[e];exact lz rfl) fun e=>by rw[e];exact lz rfl⟩
variable{W:Wd}(pr:bA W){n:Nat}(hz:aB H z=some (kK fn N gl args))(hg:aB H gl=some (.lst (goals.map bE)))(ha:∀t∈args,t.WT∧∀k,t.has k→k<N)(hN:N≤60)(hs:∀t∈args,t.aU<aJ)(gt:∀g∈goals,Gt sig args g)
include hz hg in
theorem Xr:(∀i∈[z,gl],i<H.length)∧[z,gl].Nodup:=⟨fun i m=>(a8.mp m).elim (fun e=>e▸eQ hz) fun m=>a6.mp m▸eQ hg,ba.mpr ⟨fun m=>j0 hz hg Cell.noConfusion (a6.mp m),ba.mpr ⟨dM,dF⟩⟩⟩
include pr hz hg ha hN hs gt
theorem Co(hgs:goals=[g]∨goals=[g',g])(q:∀{H1 p},Ax sig H H1 z gl p N fn args goals→Q (.obj p) H1):Fi W (n+6) 63 [.obj z] H Q:=by
 obtain⟨hl,nd⟩:=Xr hz hg;have ha':∀t∈args,(∀k,t.has k→k<60)∧t.aU<aJ:=fun t m=>⟨fun k q=>bj ((ha t m).2 k q) hN,hs t m⟩;have all:gD (fun i c=>aB H i=some (mc (rn [z,gl] H.length) c)) [z,gl] [mD (.int fn) (.int (N:Nat)) args,.lst (goals.map bE)]:=⟨hz.trans (aE some (GA (r:=rn [z,gl] H.length)).symm),hg.trans (aE some F9.symm),bx⟩;rcases hgs with rfl|rfl
 ·have g1:=gt g (.head _);exact pN (vs:=[.obj 0]) nd all (KW pr ha' (g1.sm (fun t m=>(ha t m).2) hN) g1.sub fun{K A Sl r st} s hsl {H'} b=>q ⟨G1 (goals:=[g]) (lives:=[(cU (ek args [g]) (cV K)).length]) (chs:=[0]) b s hl nd,G7 s hsl,(fun h=>absurd h (eA 1)),rfl,UM ha (fun{k}=>s.mem) g1,fun k h=>s.mem.mpr fun e=>h (qx (tx.symm.trans e)),fun h=>have z:=FC (goals:=[g]) hz hg b rfl rfl h;⟨z.1,fun k=>z.2 (A k)⟩⟩)
 ·have g1:=gt g' (.head _);have g2:=gt g (.tail _ (.head _));exact pN (vs:=[.obj 0]) nd all (KX pr ha' (g1.sm (fun t m=>(ha t m).2) hN) g1.sub (g2.sm (fun t m=>(ha t m).2) hN) g2.sub fun{K A Sl r st} s hsl {H'} b=>q ⟨G1 (goals:=[g',g]) (lives:=[(cU (ek args [g',g]) (cV K)).length,0]) (chs:=[0,1]) b s hl nd,G7 s hsl,(fun _=>rfl),rfl,UN ha (fun{k}=>s.mem) g1 g2,fun k h=>s.mem.mpr fun e=>h (qx (qx (t4.symm.trans e))),fun h=>have z:=FC (goals:=[g',g]) hz hg b rfl rfl h;⟨z.1,fun k=>z.2 (A k)⟩⟩)
end
theorem tC{n:Nat}{s:List Nat}:Vd n (.str s):=by cases n<;>exact bx
theorem tB{n:Nat}{i:Int}:Vd n (.int i):=by cases n<;>exact bx
theorem Xb{t:U.Tm}:∀{d m:Nat},t.dep≤d→Vd (m+(2*d+2)) (aC t):=by
 induction t with
 |v=>exact fun _=>⟨tC,tB,bx⟩
 |c=>exact fun _=>⟨tC,tB,bx⟩
 |s1 f x ih=>
  intro d m h
  cases d with
  |zero=>exact absurd h (iV _)
  |succ d=>exact⟨tC,tB,⟨ih (gY h),bx⟩,bx⟩
 |s2 f x y i1 i2=>
  intro d m h
  cases d with
  |zero=>exact absurd h (iV _)
  |succ d=>
   have h:=tY.mp (gY h);exact⟨tC,tB,⟨i1 h.1,i2 h.2,bx⟩,bx⟩
theorem Il{α:Type}{f:α→V}{n:Nat}{l:List α}(h:∀x∈l,Vd n (f x)):kj n (l.map f):=by
 induction l with
 |nil=>exact bx
 |cons x l ih=>exact⟨h x (.head _),ih fun y m=>h y (.tail _ m)⟩
theorem RK{t:U.Tm}:∀{tb:List Nat},(U.bL tb t).1.dep=t.dep:=by
 induction t with
 |v n=>
  intro tb;rw[U.iv];by_cases m:n∈tb
  ·rw[aG m];rfl
  ·rw[aD m];rfl
 |c=>exact rfl
 |s1 f x ih=>exact aE Nat.succ ih
 |s2 f x y i1 i2=>exact aE Nat.succ (congr (aE max i1) i2)
theorem RH{d:Nat}{ts:List U.Tm}:∀{tb:List Nat},(∀t∈ts,t.dep≤d)→∀t∈(U.bB tb ts).1,t.dep≤d:=by
 induction ts with
 |nil=>exact fun _ _ m=>nomatch m
 |cons t ts ih=>exact fun h u m=>(a8.mp m).elim (fun e=>e▸RK.symm▸h t (.head _)) fun m=>ih (fun u m=>h u (.tail _ m)) u m
theorem Ik{ts:List U.Tm}(h:∀t∈ts,t.dep≤150){m:Nat}:kj (m+302) ((U.iw ts).map aC):=Il fun t mt=>Xb (d:=150) (RH h t mt)
theorem AJ{S:U.Sb}{ts:List U.Tm}(h:U.fk S ts):∀t∈ts.map (U.Tm.app S),t.dep≤150:=fun t m=>let ⟨u,mu,e⟩:=cg.mp m;e▸h u mu
theorem KH{picks:List Nat}{gs:List (Nat×List U.Tm)}:∀{p q:U.PS},U.Calls picks gs p q→(∀e∈p.evs,Vd 1200 (eM e))→∀e∈q.evs,Vd 1200 (eM e):=by
 induction gs with
 |nil=>exact fun C h=>by cases C;exact h
 |cons g gs ih=>
  intro p q ⟨sh,S2,_,C⟩ h;exact ih C fun e m=>(b6.mp m).elim (h e) fun m=>a6.mp m▸⟨tC,tB,Ik (m:=896) (AJ sh),bx⟩
section
variable{pl:U.Pl}{la:Nat}{e:Bool}
theorem RV{as:List U.Tm}:∀{n:Nat} {c:U.Cs},(U.gp pl as n c).1.length≤2*as.length:=by
 induction as with
 |nil=>exact ai _
 |cons t as ih=>
  intro n c;show((U.lB pl t n c).1++_).length≤2*(as.length+1);have one:(U.lB pl t n c).1.length≤2:=by
   unfold U.lB U.iy;split
   ·split<;>exact ai _
   ·exact cB 1
  rw[a5,wO,bR];exact d9 ih one
theorem NN{gs:List (Nat×List U.Tm)}(h:∀g∈gs,g.2.length≤100):∀{c:U.Cs},(U.jS pl la e gs c).length≤202*gs.length:=by
 induction gs with
 |nil=>exact ai _
 |cons g gs ih=>
  intro c;show((U.gp pl g.2 1 c).1++if gs.isEmpty=true then(if e=true then[.hV] else[])++[.exec g.1] else .call g.1 la::U.jS pl la e gs _).length≤202*(gs.length+1)
  have l1:(U.gp pl g.2 1 c).1.length≤200:=aA RV (dO 2 (h g (.head _)));rw[a5,wO,bR];have l2:(if gs.isEmpty=true then(if e=true then[U.ak.hV] else[])++[U.ak.exec g.1] else .call g.1 la::U.jS pl la e gs (U.gp pl g.2 1 c).2).length≤202*gs.length+2:=by
   split
   ·cases e
    ·exact aA (cB 1) (b9 2 _)
    ·exact b9 2 _
   ·exact cI (eI (ih fun g m=>h g (.tail _ m)))
  exact aA (d9 l2 l1) (bS (by rw[bP]))
theorem xI{N es:Nat}{args:List U.Tm}{gs:List (Nat×List U.Tm)}(h:∀g∈gs,g.2.length≤100)(ha:U.jc args≤50)(h2:gs.length≤2):(U.gf pl N la e es args gs).length≤705:=by
 unfold U.gf;rw[a5,a5];have l1:(if e=true then[U.ak.alloc es] else[]).length≤1:=by cases e;exact bW _;exact ai _
 exact d9 l1 (d9 (aA (U.yI (k:=0)).2 (dO 6 ha)) (aA (NN h) (dO 202 h2)))
end
theorem Hr{t:U.Tm}{ts:List U.Tm}(m:t∈ts):t.aU≤U.jc ts:=by
 induction ts with
 |nil=>exact nomatch m
 |cons u ts ih=>exact(a8.mp m).elim (fun e=>e▸aT _ _) fun m=>aA (ih m) (b9 _ _)
theorem Cv{sig:Nat→Nat}{H H1:AH}{z gl p N:Nat}{fn:Int}{args:List U.Tm}{goals:List (Nat×List U.Tm)}{W:Wd}(pr:bA W){n:Nat}{s:V}{Q:K1}(c:Ax sig H H1 z gl p N fn args goals)(h1:goals≠[])(h2:goals.length≤2)(ha:U.jc args≤50)(hg:∀g∈goals,g.2.length≤100)(q:∀{H2 cd la pl},H.length≤cd→aB H2 cd=some (.lst ((U.gf pl N la (decide (goals.length=2)) la args goals).map hY))→U.Plan pl N sig la args goals→(∀{i x},aB H i=some x→aB H2 i=some x)→Q (.obj cd) H2):Fi W (n+9) 46 [s,.obj z,.obj p] H1 Q:=by
 obtain⟨pc,pk,hla,hne,pn,ka,keep⟩:=c;subst hne;have br:∀t∈args,∀x,t.has x→U.bZ x args≠0:=fun t m x h=>eb (U.p5 m h);have aU:∀t∈args,t.aU≤50:=fun t m=>aA (Hr m) ha;exact Kg pr pc pk hla h1 h2 (aA (xI hg ha h2) (lz rfl)) (fun t m=>⟨fun x h=>ka x (br t m x h),aA (cq (dO 2 (aU t m)) 1) (lz rfl)⟩) (fun g m t mt=>have z:=(pn.goal g m).2 t mt;⟨z.1,(let ⟨u,mu,hu⟩:=z.2.2;ka _ (br u mu _ hu)),z.2.1,z.2.2⟩) fun{H2} hc hk=>q (eI (cT (l:=H1)▸lh fun lt=>eA _ (eQ (keep (aj▸bh lt)).1))) hc pn fun h=>hk (keep h).1 fun m=>let ⟨k,_,e⟩:=cg.mp m;(keep h).2 k e
theorem Sj{r:Nat→Nat}{e:U.Ev}:mv r (eM e)=eM e:=aE (fun l=>V.tup [.str [99,97,108,108],.int e.1,.lst l]) (d0 fun _=>lE)
theorem SU{r:Nat→Nat}{b:U.Bd}:gr r (dH b)=dH b:=by
 unfold gr dH;rw[fJ];exact g8 fun p _=>aE (Prod.mk _) lE
noncomputable def gC(c:Cell):Prop:=∀r:Nat→Nat,mc r c=c
theorem CB{ts:List U.Tm}:gC (.lst (ts.map aC)):=fun _=>aE Cell.lst (d0 fun _=>lE)
theorem JQ{es:List U.Ev}:gC (.lst (es.map eM)):=fun _=>aE Cell.lst (d0 fun _=>Sj)
theorem JR{is:List U.ak}:gC (.lst (is.map hY)):=fun _=>aE Cell.lst (d0 fun _=>GN)
theorem JP{b:U.Bd}{st:Nat}:gC (.dict (dH b) st):=fun _=>aE (Cell.dict · st) SU
theorem B7{fs:List (Nat×Nat)}:gC (.lst (fs.map l7)):=fun _=>aE Cell.lst (d0 fun _=>rfl)
@[reducible] noncomputable def Hn:Cell:=.inst 0 [(1599430227059,.obj 1),(109388970062261371602777502323,.obj 2),(25829672611287626355,.obj 3),(1861224063156749765404099319326667379,.obj 4)]
@[reducible] noncomputable def fS(cd hd:Nat):List Nat:=[0,1,2,3,4,cd,hd,7]
structure Fo(X:Fx)(H:AH)(cd hd:Nat):Prop where
 h0:aB H 0=some Hn
 h1:aB H 1=some X.c1
 h2:aB H 2=some X.c2
 h3:aB H 3=some (.lst (X.fs.map l7))
 h4:aB H 4=some X.c4
 hc:aB H cd=some (.lst (X.code.map hY))
 hh:aB H hd=some (.dict [] 0)
 h7:aB H 7=some (.lst (X.call.map aC))
 cd:8≤cd
 hd:8≤hd
 a1:gC X.c1
 a2:gC X.c2
 a4:gC X.c4
section
variable{X:Fx}{H H':AH}{cd hd:Nat}(f:Fo X H cd hd)
include f
theorem Fo.nd:(fS cd hd).Nodup:=by
 have n1:cd≠hd:=j0 f.hc f.hh Cell.noConfusion;have c:∀{k},k<8→k≠cd:=fun q e=>eA _ (bj q (e▸f.cd));have d:∀{k},k<8→k≠hd:=fun q e=>eA _ (bj q (e▸f.hd));have z:∀{k} {l:List Nat},k<8→k∉l→k∉cd::hd::l:=fun q n=>dC (c q) (dC (d q) n);have s:∀{k j:Nat},k≠j→k∉[j]:=fun h m=>h (a6.mp m);exact ba.mpr ⟨dC (show(0:Nat)≠1 by decide) (dC (show(0:Nat)≠2 by decide) (dC (show(0:Nat)≠3 by decide) (dC (show(0:Nat)≠4 by decide) (z (by decide) (s (show(0:Nat)≠7 by decide)))))),ba.mpr ⟨dC (show(1:Nat)≠2 by decide) (dC (show(1:Nat)≠3 by decide) (dC (show(1:Nat)≠4 by decide) (z (by decide) (s (show(1:Nat)≠7 by decide))))),ba.mpr ⟨dC (show(2:Nat)≠3 by decide) (dC (show(2:Nat)≠4 by decide) (z (by decide) (s (show(2:Nat)≠7 by decide)))),ba.mpr ⟨dC (show(3:Nat)≠4 by decide) (z (by decide) (s (show(3:Nat)≠7 by decide))),ba.mpr ⟨z (by decide) (s (show(4:Nat)≠7 by decide)),ba.mpr ⟨dC n1 (s (c (by decide)).symm),ba.mpr ⟨s (d (by decide)).symm,ba.mpr ⟨dM,dF⟩⟩⟩⟩⟩⟩⟩⟩
theorem Fo.all:gD (fun i c=>aB H i=some (mc (rn (fS cd hd) H.length) c)) (fS cd hd) (hC X):=⟨f.h0,f.h1.trans (aE some (f.a1 _).symm),f.h2.trans (aE some (f.a2 _).symm),f.h3.trans (aE some (B7 _).symm),f.h4.trans (aE some (f.a4 _).symm),f.hc.trans (aE some (JR _).symm),f.hh,f.h7.trans (aE some (CB _).symm),bx⟩
theorem Fo.bg{b:U.Bd}{st:Nat}{evs:List U.Ev}{ks:List U.Tm}{G:AH}(g:Bg (fS cd hd) H (hF X b st evs ks G) H'):aB H' (rn (fS cd hd) H.length 8)=some (.lst (evs.map eM))∧aB H' (rn (fS cd hd) H.length 9)=some (.lst (ks.map aC))∧aB H' hd=some (.dict (dH b) st)∧∀{i x},aB H i=some x→i≠hd→aB H' i=some x:=by
 have at_:∀{j c},(hF X b st evs ks G)[j]?=some c→gC c→aB H' (rn (fS cd hd) H.length j)=some c:=fun h a=>by rw[aj,g.fZ h,a]
 refine⟨at_ (j:=8) rfl JQ,at_ (j:=9) rfl CB,at_ (j:=6) rfl JP,fun{i x} h n=>?_⟩;by_cases m:i∈fS cd hd
 ·obtain⟨j,hj⟩:=iR.mp m;have same:∀{c},(hF X b st evs ks G)[j]?=some c→aB H i=some (mc (rn (fS cd hd) H.length) c)→aB H' i=some x:=fun a e=>by
   have z:=g.fZ a;rw[mY hj] at z;rw[aj,z,←e,h]
  rcases j with _|_|_|_|_|_|_|_|j
  ·exact same rfl (av hj▸f.all.1)
  ·exact same rfl (av hj▸f.all.2.1)
  ·exact same rfl (av hj▸f.all.2.2.1)
  ·exact same rfl (av hj▸f.all.2.2.2.1)
  ·exact same rfl (av hj▸f.all.2.2.2.2.1)
  ·exact same rfl (av hj▸f.all.2.2.2.2.2.1)
  ·exact absurd (av hj).symm n
  ·exact same rfl (av hj▸f.all.2.2.2.2.2.2.2.1)
  ·exact nomatch hj
 ·rw[aj];exact g.out m (aj▸h)
theorem De{W:Wd}(pr:bA W){n N:Nat}{Q:K1}(hc:∀T∈X.call,U.af 100000 T∧∀k,T.has k→N≤k)(z:X.call.length≤100)(zc:X.code.length≤900)(hR:∀F,U.Start N 100000 X.call F→F.living=-1→Rd W n X (fQ W n fun v H1'=>∀{H'},Bg (fS cd hd) H H1' H'→Q (mv (rn (fS cd hd) H.length) v) H') X.code F):Fi W (n+156) 76 [.obj 0,.obj cd,.obj hd,.obj 7,.lst (eD X.picks)] H Q:=by
 have e:d6 (rn (fS cd hd) H.length) [.obj 0,.obj 5,.obj 6,.obj 7,.lst (eD X.picks)]=[.obj 0,.obj cd,.obj hd,.obj 7,.lst (eD X.picks)]:=aE (fun l=>[V.obj 0,.obj cd,.obj hd,.obj 7,.lst l]) (d0 fun _=>rfl);exact e▸pN f.nd f.all (Lu pr hc z zc hR)
end
theorem KJ{picks:List Nat}{P:U.Tm→Prop}{gs:List (Nat×List U.Tm)}:∀{p q:U.PS},U.Calls picks gs p q→(∀t∈p.ks,P t)→(∀g∈gs,(∀t∈g.2,P t)∧g.2.length≤100)→(∀t∈q.ks,P t)∧q.ks.length≤p.ks.length+100*gs.length:=by
 induction gs with
 |nil=>exact fun C h _=>by cases C;exact⟨h,ai _⟩
 |cons g gs ih=>
  intro p q ⟨sh,S2,_,C⟩ h hg;have z:=ih C (fun t m=>(b6.mp m).elim (h t) ((hg g (.head _)).1 t)) fun g m=>hg g (.tail _ m);refine⟨z.1,aA z.2 ?_⟩;rw[show(p.ev g picks S2).ks=p.ks++g.2 from rfl,a5,dK,wO,bP,bR (100*_)]
  exact cq (bp (hg g (.head _)).2 _) _
theorem Hw{N n0:Nat}{call:List U.Tm}{F:U.FS}{m:Int}(I:U.Start N n0 call F):U.Start N n0 call {F with living:=m}:=⟨I.b,I.rest,I.kept,I.evs,I.sp,I.args,I.bI,I.loose⟩
structure Ag(fs:List (Nat×Nat))(N:Nat)(args:List U.Tm)(goals:List (Nat×List U.Tm))(call:List U.Tm)(picks:List Nat)(sig:Nat→Nat)(g g':Nat×List U.Tm):Prop where
 ar:∀{f},(f=32∨f=0∨f=33)→∃a,aB fs f=some (a,U.ar f)
 a:∀t∈args,t.WT∧(∀k,t.has k→k<N)∧t.dep≤3
 N:N≤5
 sz:U.jc args≤50
 c:∀t∈call,t.WT∧(∀k,t.has k→500≤k∧k≤502)∧t.dep≤3
 hl:args.length=call.length
 h3:call.length≤3
 gs:goals=[g]∨goals=[g',g]
 gt:∀g∈goals,Gt sig args g
 p:0<picks.length
noncomputable abbrev mN:List Nat:=[0,1,2,3,4,500,501,502]
section
variable{fs:List (Nat×Nat)}{N:Nat}{args:List U.Tm}{goals:List (Nat×List U.Tm)}{call:List U.Tm}{picks:List Nat}{sig:Nat→Nat}{g g':Nat×List U.Tm}(h:Ag fs N args goals call picks sig g g')
include h
theorem Ag.la:∀t∈args,U.Lt mN 3 t:=fun t m=>⟨fun k q=>by
 have l:=bj ((h.a t m).2.1 k q) h.N;rcases k with _|_|_|_|_|k
 ·exact .head _
 ·exact .tail _ (.head _)
 ·exact .tail _ (.tail _ (.head _))
 ·exact .tail _ (.tail _ (.tail _ (.head _)))
 ·exact .tail _ (.tail _ (.tail _ (.tail _ (.head _))))
 ·exact absurd l (fL.mpr (b9 5 k)),(h.a t m).2.2⟩
theorem Ag.lc:∀t∈call,U.Lt mN 3 t:=fun t m=>⟨fun k q=>by
 obtain⟨l1,l2⟩:=(h.c t m).2.1 k q;obtain⟨j,rfl⟩:=wK l1;rcases j with _|_|_|j
 ·exact .tail _ (.tail _ (.tail _ (.tail _ (.tail _ (.head _)))))
 ·exact .tail _ (.tail _ (.tail _ (.tail _ (.tail _ (.tail _ (.head _))))))
 ·exact .tail _ (.tail _ (.tail _ (.tail _ (.tail _ (.tail _ (.tail _ (.head _)))))))
 ·exact absurd l2 (om.mpr (show 502<500+(j+3) from bj (by decide:502<503) (cq (b9 3 j) 500))),(h.c t m).2.2⟩
theorem Ag.lg:∀x∈goals,∀t∈x.2,U.Lt mN 3 t:=fun x mx t m=>by
 obtain⟨u,mu,hu⟩:=n8 ((h.gt x mx).arg m);have z:=(h.la u mu).1 _ hu;have e:=(h.gt x mx).e t m;generalize U.b5 t=k at z e;rcases e with rfl|rfl
 ·exact⟨fun n q=>(show k=n from q)▸z,bW _⟩
 ·exact⟨fun n q=>(show k=n from q)▸z,(by decide:1≤3)⟩
end
structure Sc where
 c1:Cell
 c2:Cell
 fs:List (Nat×Nat)
 c4:Cell
 a1:gC c1
 a2:gC c2
 a4:gC c4
@[reducible] noncomputable def pX(s:Sc)(fn:Int)(N:Nat)(args:List U.Tm)(goals:List (Nat×List U.Tm))(call:List U.Tm):Px:=⟨Hn,s.c1,s.c2,.lst (s.fs.map l7),s.c4,.int fn,.int (N:Nat),args,goals,call⟩
@[reducible] noncomputable def fX(s:Sc)(code:List U.ak)(call:List U.Tm)(picks:List Nat):Fx:=⟨s.c1,s.c2,s.fs,s.c4,code,call,picks⟩
noncomputable def sV(fs:List (Nat×Nat))(f:Nat):Nat:=((aB fs f).map Prod.snd).getD 2000
theorem Lh{QQ:K2}{X:Fx}{evs:List U.Ev}(h:∀{b st ks G Fr},QQ (.ret (.tup [.obj 8,.obj 9,.str [102,97,105,108,101,100]])) Fr (hF X b st evs ks G)):jE QQ X evs:=h
theorem K6{QQ:K2}{X:Fx}{F:U.FS}(h:∀{st G Fr},QQ (.ret (.tup [.obj 8,.obj 9,.str [100,111,110,101]])) Fr (hF X F.b st F.evs F.kept G)):vv QQ X F:=h
theorem Dk{W:Wd}{n:Nat}{Q:K1}{v:V}{F:Fa}{H:AH}(h:Q v H):fQ W n Q (.ret v) F H:=h
theorem Qa{W:Wd}{A B:List V}{H:AH}{Q:K1}(e:A=B)(vd:kj 1200 A)(q:Q (.bool true) H):Seq (Prim W (.cmp .Eq) [.lst A,.lst B] H) Q:=e▸lJ (lj.lst .val .val vd) q
section
variable{s:Sc}{N:Nat}{args:List U.Tm}{goals:List (Nat×List U.Tm)}{call:List U.Tm}{picks:List Nat}{g g':Nat×List U.Tm}(h:Ag s.fs N args goals call picks (sV s.fs) g g')
include h
theorem Ag.qa:∀t∈args,Qz t:=fun t m=>⟨fun k q=>aA (dk ((h.a t m).2.1 k q)) (aA h.N (by decide)),(h.a t m).1,aA (h.a t m).2.2 (by decide)⟩
theorem Ag.ic:∀T∈call,U.af 100000 T∧∀k,T.has k→N≤k:=fun t m=>⟨⟨fun k q=>aA ((h.c t m).2.1 k q).2 (by decide),(h.c t m).1,aA (h.c t m).2.2 (by decide)⟩,fun k q=>aA h.N (aA (by decide:5≤500) ((h.c t m).2.1 k q).1)⟩
theorem Ag.qc:∀t∈call,Qz t:=fun t m=>(h.ic t m).1.mono (by decide)
theorem Ag.qg:∀x∈goals,(∀t∈x.2,Qz t)∧x.2.length≤100:=fun x mx=>⟨fun t m=>by
 have l:=h.lg x mx t m;have e:=(h.gt x mx).e t m;refine⟨fun k q=>?_,?_,aA l.2 (by decide)⟩
 ·obtain⟨u,mu,hu⟩:=n8 ((h.gt x mx).sub k (eb (U.p5 m q)));exact(h.qa u mu).lo k hu
 ·exact e.elim (fun e=>by rw[e];exact bx) fun e=>by rw[e];exact⟨rfl,bx⟩,(h.gt x mx).sg.2⟩
theorem Ag.g2:goals.length≤2∧goals≠[]:=h.gs.elim (fun e=>by rw[e];exact⟨cB 1,oW _ _⟩) fun e=>by rw[e];exact⟨ai 2,oW _ _⟩
variable{W:Wd}(pr:bA W){n:Nat}{Q:K1}
theorem Ha{code:List U.ak}{QQ:K2}{F:U.FS}{pl:U.Pl}{la:Nat}(e:code=U.gf pl N la (decide (goals.length=2)) la args goals)(pr:bA W)(st:U.Start N 100000 call F)(hv:F.living=-1)(hR:Rd W n (fX s code call picks) QQ ((U.gL pl args 1 ⟨[],[],N⟩).1++U.jS pl la (decide (goals.length=2)) goals (U.gL pl args 1 ⟨[],[],N⟩).2) {F with living:=if decide (goals.length=2)=true then(la:Int) else -1}):Rd W n (fX s code call picks) QQ code F:=by
 subst e;unfold U.gf;generalize decide (goals.length=2)=b at hR ⊢
 cases b with
 |true=>exact Um pr (X:=fX s (U.ak.alloc la::_) call picks) rfl st.rest hv hR
 |false=>exact(show {F with living:=-1}=F by rw[←hv])▸hR
include pr
theorem JV{fn:Int}(q:∀{H'},Q (.bool true) H'):Fi W (n+158) 77 [.obj 0,.obj 5,.obj 7,.lst (eD picks)] (hA (pX s fn N args goals call) []) Q:=by
 have ha:∀t∈args,t.WT∧∀k,t.has k→k<N:=fun t m=>⟨(h.a t m).1,(h.a t m).2.1⟩;have N60:N≤60:=aA h.N (by decide)
 have hs:∀t∈args,t.aU<aJ:=fun t m=>bb (Hr m) (bb h.sz (lz rfl));have nS:∀g∈goals,g.2.length≤100:=fun x m=>(h.qg x m).2;have zc:call.length≤100:=aA h.h3 (by decide)
 refine pr.fe M3 rfl (cM 2 (jx (UI pr (n:=n+2) (X:=pX s fn N args goals call) (R:=U.Lt mN 3) (U.Ry _ _) (fun t m=>⟨h.qa t m,h.la t m⟩) (fun t m=>⟨h.qc t m,h.lc t m⟩) h.qg h.hl zc h.g2.1 h.p (fun no {b st g0}=>bJ (cM 1 (jx (bJ (cM 1 ?_))))) fun{b S} M bl sat=>?_)))
 ·refine Co pr (n:=n+151) (z:=5) (gl:=6) (sig:=sV s.fs) rfl rfl ha N60 hs h.gt h.gs fun{H1 p} c=>Cv pr (n:=n+148) c h.g2.2 h.g2.1 h.sz nS fun{H2 cd la pl} lcd hcd pn keep=>?_;have fo:Fo (fX s _ call picks) H2 cd (aH (hR (pX s fn N args goals call) b st [] call g0)):=⟨keep (i:=0) rfl,keep (i:=1) rfl,keep (i:=2) rfl,keep (i:=3) rfl,keep (i:=4) rfl,hcd,keep (dG (k:=0)),keep (i:=7) rfl,aA (show 8≤((app g0 [.dict [] 0]).length+3)+8 from b9 8 _) lcd,b9 8 (aH g0+3),s.a1,s.a2,s.a4⟩
  refine De fo pr (n:=n+1) (N:=N) h.ic zc (aA (xI nS h.sz h.g2.1) (by decide)) fun F st hv=>Ha h rfl pr st hv (U.Nc (rules pr (X:=fX s _ call picks) h.ar h.p) (Hw st) h.hl pn no (Lh fun{b st ks G Fr}=>Dk fun{H'} bg=>?_))
  obtain⟨e8,e9,eh,k3⟩:=fo.bg bg;have h9:=k3 (keep (i:=9) rfl) (j5 (a:=aH g0) (c:=11) (k:=9) (by decide)).symm
  refine bJ (lJ (jK.lst (l:=([]:List U.Ev).map eM) (.cell (aj▸e8)) (.cell (aj▸h9)) bx) ?_);exact q
 ·obtain⟨qs,C,Mq,bl⟩:=U.KI (picks:=picks) (gs:=goals) (L:=mN) (d:=3) (by decide:3+3*8≤150) (p:=⟨b,S,call,[]⟩) M bl h.lg
  have ck:=KJ (P:=U.Lt mN 3) C h.lc fun x m=>⟨h.lg x m,nS x m⟩;have shq:U.fk qs.S qs.ks:=fun t m=>aA (U.zA Mq bl t) (aA (bp (ck.1 t m).2 _) (by decide))
  have lk:qs.ks.length≤300:=aA ck.2 (aA (d9 h.h3 (dO 100 h.g2.1)) (by decide))
  refine⟨qs,C,fun{st g0} M4 hq4=>bJ (cM 1 (jx (bJ (cM 1 ?_))))⟩;refine Co pr (n:=n+151) (z:=5) (gl:=6) (sig:=sV s.fs) rfl rfl ha N60 hs h.gt h.gs fun{H1 p} c=>Cv pr (n:=n+148) c h.g2.2 h.g2.1 h.sz nS fun{H2 cd la pl} lcd hcd pn keep=>?_;have fo:Fo (fX s _ call picks) H2 cd (aH (hR (pX s fn N args goals call) qs.b st qs.evs qs.ks g0)):=⟨keep (i:=0) rfl,keep (i:=1) rfl,keep (i:=2) rfl,keep (i:=3) rfl,keep (i:=4) rfl,hcd,keep (dG (k:=0)),keep (i:=7) rfl,aA (show 8≤((app g0 [.dict [] 0]).length+3)+8 from b9 8 _) lcd,b9 8 (aH g0+3),s.a1,s.a2,s.a4⟩
  refine De fo pr (n:=n+1) (N:=N) h.ic zc (aA (xI nS h.sz h.g2.1) (by decide)) fun F st' hv=>Ha h rfl pr st' hv (U.KZ (rules pr (X:=fX s _ call picks) h.ar h.p) (Hw st') h.hl pn h.gs rfl rfl M sat C fun{G S2 τ ω} ev M2 V=>K6 fun{st G' Fr}=>Dk fun{H'} bg=>?_)
  obtain⟨e8,e9,eh,k3⟩:=fo.bg bg;have nh:∀{k},k<11→k≠aH (hR (pX s fn N args goals call) qs.b st qs.evs qs.ks g0):=fun q=>(j5 (a:=aH g0) (c:=11) q).symm;have h8:=k3 (keep (i:=8) rfl) (nh (by decide))
  have h9:=k3 (keep (i:=9) rfl) (nh (by decide))
  have h10:=k3 (keep (i:=10) rfl) (nh (by decide))
  rw[ev] at e8;refine bJ (lJ (jK.lst (l:=qs.evs.map eM) (.cell (aj▸e8)) (.cell (aj▸h9)) (Il (KH C fun _ m=>nomatch m))) ?_);have zn:(U.bG (qs.ks.map (U.Tm.app qs.S))).length≤8:=U.mQ (r:=mN) (y6 (ts:=qs.ks.map (U.Tm.app qs.S)) dF) fun x m=>U.zO Mq (N:=(·∈mN)) (fun p m=>⟨(bl p m).1.1,(bl p m).2.1⟩) (fun t m=>(ck.1 t m).1) m;have sh2:=V.fk shq;have l2:G.kept.length≤300:=by
   have e:=aE List.length V.to;rw[aN,aN,aN] at e;exact e▸lk
  have z:∀{l:List U.Tm},l.length≤300→l.length≤aJ:=fun h=>aA h (lz rfl);have dq:∀{S:U.Sb} {l:List U.Tm},U.fk S l→∀t∈l.map (U.Tm.app S),t.dep≤n+155:=fun h t m=>aA (AJ h t m) (aA (by decide:150≤155) (b9 _ _))
  have d1:∀{S:U.Sb} {l:List U.Tm},U.fk S l→∀t∈l,(t.app S).dep≤n+155:=fun h t m=>dq h _ (qm m);refine Am pr Mq h8 (d:=n+155) rfl rfl (d1 shq) (z lk) (.inr ⟨10,rfl,h10⟩) (y8 pr (d:=n+155) (dq shq) (by rw[aN];exact z lk) (aA zn (lz rfl)) fun{c}=>?_)
  refine Am pr M2 (dQ eh) (d:=n+155) rfl rfl (d1 sh2) (z l2) (.inr ⟨_,rfl,dQ e9⟩) (y8 pr (d:=n+155) (dq sh2) (by rw[aN];exact z l2) (V.names.len▸aA zn (lz rfl)) fun{c'}=>Qa (aE (List.map aC) V.iw) (Ik (m:=898) (AJ shq)) q)
end
noncomputable def fB(tb:List Nat)(t:U.Tm):U.Tm:=(U.bL tb t).1
noncomputable def gT:List (Nat×List U.Tm)→List U.Tm
 | []=>[]
 |g::gs=>g.2++gT gs
theorem Fj{t:U.Tm}:∀{tb:List Nat},(∀n,t.has n→n∈tb)→(U.bL tb t).2=tb:=by
 induction t with
 |v n=>exact fun h=>by rw[U.iv];rw[aG (h n rfl)]
 |c=>exact fun _=>rfl
 |s1 _ x ih=>exact fun h=>ih h
 |s2 _ x y i1 i2=>
  intro tb h;show(U.bL (U.bL tb x).2 y).2=tb;rw[i1 fun n q=>h n (.inl q)];exact i2 fun n q=>h n (.inr q)
theorem RF{tb:List Nat}{ts:List U.Tm}:(∀t∈ts,∀n,t.has n→n∈tb)→U.bB tb ts=(ts.map (fB tb),tb):=by
 induction ts with
 |nil=>exact fun _=>rfl
 |cons t ts ih=>
  intro h;have e:=Fj (h t (.head _));show((U.bL tb t).1::(U.bB (U.bL tb t).2 ts).1,(U.bB (U.bL tb t).2 ts).2)=_;rw[e,ih fun t m=>h t (.tail _ m)];rfl
theorem RD{b:List U.Tm}{a:List U.Tm}:∀{tb:List Nat},U.bB tb (a++b)=((U.bB tb a).1++(U.bB (U.bB tb a).2 b).1,(U.bB (U.bB tb a).2 b).2):=by
 induction a with
 |nil=>exact rfl
 |cons t a ih=>
  intro tb;show((U.bL tb t).1::(U.bB (U.bL tb t).2 (a++b)).1,(U.bB (U.bL tb t).2 (a++b)).2)=_;rw[ih];rfl
theorem Fh{ts:List U.Tm}:∀{tb:List Nat},(U.bB tb ts).1.length=ts.length:=by
 induction ts with
 |nil=>exact rfl
 |cons t ts ih=>exact fun{tb}=>aE (·+1) ih
noncomputable def mX(tb:List Nat)(gs:List (Nat×List U.Tm)):List (Nat×List U.Tm):=gs.map fun g=>(g.1,g.2.map (fB tb))
theorem Vi{α:Type}{pre a b:List α}:((pre++(a++b)).take (pre.length+a.length)).drop pre.length=a:=by
 rw[List.take_append,qo (aT _ _),og,List.take_append_of_le_length (ai _),wH,List.drop_append_of_le_length (ai _),BG,List.nil_append]
section
variable{W:Wd}{n:Nat}(pr:bA W){hd:V}{all:List (Nat×List U.Tm)}
include pr
theorem QT{Q:K2}:∀{gs:List (Nat×List U.Tm)} {acc:List U.Tm} {o:Option V},acc.length+(gT gs).length≤1000→
  (∀{o},Q .aL [some hd,some (.obj 0),some (.obj 1),o,none,none,none,none] [.lst (all.map bE),.lst ((acc++gT gs).map aC)])→
  gV (It .lst (.obj 0) (all.map bE)) 3 (aQ W n Eh) (gs.map bE) [some hd,some (.obj 0),some (.obj 1),o,none,none,none,none] [.lst (all.map bE),.lst (acc.map aC)] Q:=by
 intro gs
 induction gs with
 |nil=>exact fun{acc o} _ q=>⟨cF rfl,by rw[show gT []=[] from rfl,eY] at q;exact q⟩
 |cons g gs ih=>
  intro acc o hz q;have e:gT (g::gs)=g.2++gT gs:=rfl;rw[e,←dX] at q;rw[e,a5,←bP,←a5] at hz;refine k7 (cF rfl) fun K k=>iM (lp.tup .val) ⟨?_,?_⟩
  ·rw[aN,aN,←a5];exact aA (aA (aT _ _) hz) (lz rfl)
  ·rw[←bt];exact k (ih hz q)
theorem QS{d:Nat}{C0:Cell}{l0:List V}(x0 x1 x2 x3 x6 x7:Option V):∀{ts:List U.Tm} {tb:List Nat} {st:Nat} {o:Option V} {Q:fw},(∀t∈ts,t.dep≤d)→(U.bB tb ts).2.length≤aJ→(∀{st},Q ((U.bB tb ts).1.map aC) [C0,.lst l0,.dict (c5 iC 0 (U.bB tb ts).2) st])→
  oP (It .lst (.obj 1) l0) (bC W (d+1) Et) 5 [x0,x1,x2,x3,some (.obj 2),o,x6,x7] (ts.map aC) [C0,.lst l0,.dict (c5 iC 0 tb) st] Q:=by
 intro ts
 induction ts with
 |nil=>exact fun{tb st o Q} _ _ q=>⟨cF rfl,q⟩
 |cons t ts ih=>exact fun{tb st o Q} hd hs q=>⟨cF rfl,Fq pr (hd t (.head _)) rfl (aA ry hs) fun{st'}=>ih (fun t m=>hd t (.tail _ m)) hs q⟩
theorem QE{tb:List Nat}{R:List U.Tm}{C1 C2:Cell}(hR:R.length≤1000){Q:K2}:∀{gs dd:List (Nat×List U.Tm)} {pre:List U.Tm} {o:Option V} {m:Nat},pre.length=m→R=pre++(gT gs).map (fB tb)→dd.length+gs.length≤1000→
  (∀{o o7},Q .aL [some hd,some (.obj 0),some (.lst (R.map aC)),o,some (.obj 2),none,some (.obj 3),o7] [.lst (all.map bE),C1,C2,.lst ((dd++mX tb gs).map bE)])→
  gV (It .lst (.obj 0) (all.map bE)) 3 (aQ W n Ei) (gs.map bE) [some hd,some (.obj 0),some (.lst (R.map aC)),o,some (.obj 2),none,some (.obj 3),some (.int (m:Nat))] [.lst (all.map bE),C1,C2,.lst (dd.map bE)] Q:=by
 intro gs
 induction gs with
 |nil=>exact fun{dd pre o m} _ _ _ q=>⟨cF rfl,by rw[show mX tb []=[] from rfl,eY] at q;exact q⟩
 |cons g gs ih=>
  intro dd pre o m hm eR hz q;subst hm;have e:(gT (g::gs)).map (fB tb)=g.2.map (fB tb)++(gT gs).map (fB tb):=by rw[show gT (g::gs)=g.2++gT gs from rfl,bt]
  rw[e] at eR;have lR:pre.length+(g.2.map aC).length≤(R.map aC).length:=by rw[eR,aN,aN,a5,a5,aN,←bP];exact aT _ _
  have es:((R.map aC).take (pre.length+(g.2.map aC).length)).drop pre.length=(g.2.map (fB tb)).map aC:=by
   rw[←List.map_take,←List.map_drop,eR,aN]
   have:=Vi (pre:=pre) (a:=g.2.map (fB tb)) (b:=(gT gs).map (fB tb))
   rw[aN] at this;rw[this]
  have zd:dd.length<1000:=bj (qy (nB _)) hz;rw[dK,bR gs.length,←bP] at hz;have q:∀{o o7},Q .aL [some hd,some (.obj 0),some (.lst (R.map aC)),o,some (.obj 2),none,some (.obj 3),o7] [.lst (all.map bE),C1,C2,.lst (((dd++[(g.1,g.2.map (fB tb))])++mX tb gs).map bE)]:=by rw[dX];exact q
  refine k7 (cF rfl) fun K k=>VL (rA.lst (j:=pre.length) (k:=pre.length+(g.2.map aC).length) .val (aT _ _) lR .val) ?_;rw[es];refine⟨by rw[aN];exact iU zd (by decide),?_⟩
  have I:=ih (dd:=dd++[(g.1,g.2.map (fB tb))]) (pre:=pre++g.2.map (fB tb)) (o:=some (bE g)) (m:=pre.length+(g.2.map aC).length) (by rw[a5,aN,aN]) (by rw[eR,dX]) (by rw[a5];exact hz) q
  rw[bt] at I;exact k I
theorem Qm{l:List V}{H:AH}{Q:K1}(q:Q (.obj (aH H)) (app H [.lst l])):Seq (Prim W (.f1 .list) [.tup l] H) Q:=by rw[cT,cJ] at q;exact iM (lp.tup .cell) q
theorem QH{Q:K1}{f:Int}{d:Nat}{args:List U.Tm}(hd:∀t∈args++gT all,t.dep≤d)(hc:∀t∈gT all,∀x,t.has x→x∈(U.bB [] args).2)(hz:args.length+(gT all).length≤1000)(hg:all.length≤1000)(ht:(U.bB [] args).2.length≤1000)
  (q:∀{C1 C2},Q (.obj 4) [.lst (all.map bE),C1,C2,.lst ((mX (U.bB [] args).2 all).map bE),.inst 6 [(100897158637842290,.int f),(5929854835,.tup ((U.bB [] args).1.map aC)),(1543761914995,.obj 3),(1526583357044,.int ((U.bB [] args).2.length:Nat))]]):
  Fi W (d+2) 78 [.tup [.int f,.tup (args.map aC)],.obj 0] [.lst (all.map bE)] Q:=by
 have eL:U.bB [] (args++gT all)=((U.bB [] args).1++(gT all).map (fB (U.bB [] args).2),(U.bB [] args).2):=by
  rw[RD,RF hc]
 have lL:(U.bB [] args).1.length=args.length:=Fh;generalize hX:(U.bB [] args).1=A at*;generalize (U.bB [] args).2=tb at*;have zR:(A++(gT all).map (fB tb)).length≤1000:=by rw[a5,aN,lL];exact hz
 refine pr.fe M5 rfl (Qm pr ⟨cF rfl,QT pr hz fun{o}=>jx ⟨cF rfl,by rw[aN,a5];exact aA hz (lz rfl),?_⟩⟩)
 refine QS pr (tb:=[]) _ _ _ _ _ _ hd (by rw[eL];exact aA ht (lz rfl)) fun{st}=>⟨.val,?_⟩
 rw[eL];refine dB (lz rfl) ?_;refine⟨cF rfl,QE pr (gs:=all) (dd:=[]) (pre:=A) zR (by rw[aN];exact lL) rfl (by rw[lX,cP];exact hg) fun{o o7}=>oB (dw.F4 (j:=(args.map aC).length) .val .val) (iM (ow.dict rfl (by rw[nO];exact aA ht (lz rfl))) ?_)⟩
 rw[←List.map_take,aN,←lL,List.take_left,nO];refine pr.fe Mc rfl ?_;exact⟨rfl,q⟩
end
noncomputable def lI(tb:List Nat):U.Sb:=fun n=>.v (tb.idxOf n)
theorem Fm{t:U.Tm}:∀{tb:List Nat},tb <+:(U.bL tb t).2:=by
 induction t with
 |v n=>
  intro tb;rw[U.iv];split
  ·exact m8
  ·exact oe _ _
 |c=>exact m8
 |s1 _ x ih=>exact fun{tb}=>ih
 |s2 _ x y i1 i2=>exact fun{tb}=>i1.trans i2
theorem RI{ts:List U.Tm}:∀{tb:List Nat},tb <+:(U.bB tb ts).2:=by
 induction ts with
 |nil=>exact m8
 |cons t ts ih=>exact fun{tb}=>Fm.trans ih
theorem D6{tb tf:List Nat}{n:Nat}(h:tb <+:tf)(m:n∈tb):tf.idxOf n=tb.idxOf n:=by
 obtain⟨e,rfl⟩:=h;rw[BL,aG m]
theorem Fp{tf:List Nat}{t:U.Tm}:∀{tb:List Nat},(U.bL tb t).2 <+:tf→(U.bL tb t).1=t.app (lI tf):=by
 induction t with
 |v n=>
  intro tb h;rw[U.iv] at h ⊢;by_cases m:n∈tb
  ·rw[aG m] at h ⊢;exact aE U.Tm.v (D6 h m).symm
  ·rw[aD m] at h ⊢;exact aE U.Tm.v (by rw[D6 h (jl _ (.head _)),D5 m])
 |c=>exact fun _=>rfl
 |s1 f x ih=>exact fun h=>aE (U.Tm.s1 f) (ih h)
 |s2 f x y i1 i2=>exact fun{tb} h=>congr (aE (U.Tm.s2 f) (i1 (Fm.trans h))) (i2 h)
theorem RJ{tf:List Nat}{ts:List U.Tm}:∀{tb:List Nat},(U.bB tb ts).2 <+:tf→(U.bB tb ts).1=ts.map (U.Tm.app (lI tf)):=by
 induction ts with
 |nil=>exact fun _=>rfl
 |cons t ts ih=>exact fun{tb} h=>congr (aE List.cons (Fp (RI.trans h))) (ih h)
theorem VD{t:U.Tm}{tb:List Nat}(h:∀n,t.has n→n∈tb):fB tb t=t.app (lI tb):=Fp (by rw[Fj h];exact m8)
section
variable{tb:List Nat}{t:U.Tm}
theorem U7:t.WT→(t.app (lI tb)).WT:=by
 induction t with
 |v=>exact id
 |c=>exact id
 |s1 _ x ih=>exact fun h=>⟨h.1,ih h.2⟩
 |s2 _ x y i1 i2=>exact fun h=>⟨h.1,i1 h.2.1,i2 h.2.2⟩
theorem U5:(t.app (lI tb)).dep=t.dep:=by
 induction t with
 |v=>rfl
 |c=>rfl
 |s1 _ x ih=>exact aE (·+1) ih
 |s2 _ x y i1 i2=>show max _ _+1=max _ _+1;rw[i1,i2]
theorem U6:(t.app (lI tb)).aU=t.aU:=by
 induction t with
 |v=>rfl
 |c=>rfl
 |s1 _ x ih=>exact aE (·+1) ih
 |s2 _ x y i1 i2=>show _+_+1=_+_+1;rw[i1,i2]
end
section
variable{α:Type}{l l':List α}{x:α}{i:Nat}
theorem HE(h:l <+:l')(e:aB l i=some x):aB l' i=some x:=by
 obtain⟨r,rfl⟩:=h;exact cJ (l:=l)▸dQ e
variable[DecidableEq α]
theorem B4:l <+:cQ l x:=by
 unfold cQ;split
 ·exact m8
 ·exact oe _ _
theorem JJ:x∈cQ l x:=by
 unfold cQ;split
 ·assumption
 ·exact jl _ (.head _)
theorem JI:aB (cQ l x) (gm (cQ l x) x)=some x:=by
 have h:=jG.mpr (JJ (l:=l) (x:=x));unfold gm;rw[aj,cP,bh h];exact aE some (mz _)
end
noncomputable abbrev Sy:=List (List Nat)×List (Nat×Nat)
noncomputable def sF(y:Sy)(r:List Nat×Nat):Nat:=gm (f6 y r).2 (gm (f6 y r).1 r.1,r.2)
theorem TL{y:Sy}{r:List Nat×Nat}:aB (f6 y r).2 (sF y r)=some (gm (f6 y r).1 r.1,r.2):=JI
noncomputable def yA:Sy:=(cQ sj.1 [97],sj.2)
noncomputable def yB:Sy:=f6 yA ([102],1)
noncomputable def yW:Sy:=f6 yB ([102],2)
theorem Xe:sF yA ([102],1)=32:=by kernel_rfl
theorem Xf:sF yB ([102],2)=33:=by kernel_rfl
theorem Xp:yW.1.length+yW.2.length≤100:=lz (by kernel_rfl)
theorem Au:((aB yW.2 0).map (·.2))=some 2∧((aB yW.2 32).map (·.2))=some 1∧((aB yW.2 33).map (·.2))=some 2:=⟨by kernel_rfl,by kernel_rfl,by kernel_rfl⟩
theorem vq:sj.1.length<1000∧yA.1.length<1000∧yA.2.length<1000∧yB.1.length<1000∧yB.2.length<1000:=⟨lz (by kernel_rfl),lz (by kernel_rfl),lz (by kernel_rfl),lz (by kernel_rfl),lz (by kernel_rfl)⟩
structure fO(y:Sy)(m:Nat):Prop where
 pre:yW.2 <+:y.2
 z:y.1.length+y.2.length+2*m≤900
theorem fO.lt{y:Sy}{m:Nat}(k:fO y m):y.1.length<1000∧y.2.length<1000:=⟨bb (aA (aA (aT _ _) (aT _ _)) k.z) (by decide),bb (aA (aA (b9 _ _) (aT _ _)) k.z) (by decide)⟩
theorem fO.func{y:Sy}{m:Nat}{r:List Nat×Nat}(k:fO y (m+1)):fO (f6 y r) m:=⟨k.pre.trans B4,by
 have h1:(f6 y r).1.length≤y.1.length+1:=o3;have h2:(f6 y r).2.length≤y.2.length+1:=o3
 have:=k.z
 omega⟩
noncomputable def Ask(ns:List Nat)(t:U.Tm):Prop:=∃k∈ns,t=.v k∨t=.s1 32 (.v k)
structure lV(fs:List (Nat×Nat))(ns:List Nat)(x:Nat×List U.Tm):Prop where
 ask:∀t∈x.2,Ask ns t
 len:x.2.length≤2*ns.length
 at_:∃b,aB fs x.1=some (b,x.2.length)
theorem lV.ext{fs fs':List (Nat×Nat)}{ns:List Nat}{x:Nat×List U.Tm}(h:lV fs ns x)(e:fs <+:fs'):lV fs' ns x:=⟨h.ask,h.len,let ⟨b,k⟩:=h.at_;⟨b,HE e k⟩⟩
theorem Ask.has{ns:List Nat}{t:U.Tm}{k:Nat}(h:Ask ns t)(q:t.has k):k∈ns:=by
 obtain⟨j,hj,e⟩:=h;exact(show j=k from e.elim (fun e=>by rw[e] at q;exact q) fun e=>by rw[e] at q;exact q)▸hj
structure oO(t:U.Tm):Prop where
 wt:t.WT
 vs:∀x,t.has x→x∈[500,501,502]
 dp:t.dep≤3
noncomputable abbrev pw:List Nat:=[0,1,2,3,4]
section
variable{ts:List U.Tm}(hts:∀t∈ts,Tz 2 pw t)
include hts
theorem names5:(U.bG ts).length≤5:=U.mQ (r:=pw) (y6 (ts:=ts) dF) fun x hx=>(U.mG.mp hx).elim (fun h=>nomatch h) fun⟨t,ht,h⟩=>(hts t ht).vs x h
theorem WE:U.jc ts≤7*ts.length:=by
 induction ts with
 |nil=>exact bW _
 |cons t ts ih=>
  have h1:t.aU+1≤7+1:=(hts t (.head _)).sz;rw[dK,kb,bR (7*_)];exact aA (bS (show U.jc (t::ts)=t.aU+U.jc ts from wG)) (d9 (gY h1) (ih fun u m=>hts u (.tail _ m)))
variable{fs:List (Nat×Nat)}{gg:List (Nat×List U.Tm)}(hg:∀x∈gg,lV fs (U.bG ts) x)
omit hts in
include hg in
theorem M7:∀t∈gT gg,Ask (U.bG ts) t:=by
 induction gg with
 |nil=>exact fun _ h=>nomatch h
 |cons g gg ih=>exact fun t m=>(b6.mp m).elim ((hg g (.head _)).ask t) (ih (fun x m=>hg x (.tail _ m)) t)
include hg in
theorem M8:(gT gg).length≤10*gg.length:=by
 induction gg with
 |nil=>exact bW _
 |cons g gg ih=>
  rw[show gT (g::gg)=g.2++gT gg from rfl,a5,dK,kb,bR (10*_)]
  exact d9 (aA (hg g (.head _)).len (dO 2 (names5 hts))) (ih fun x m=>hg x (.tail _ m))
include hg in
theorem JT{call:List U.Tm}{picks:List Nat}{y:Sy}{m:Nat}(yk:fO y m)(ef:y.2=fs)(l3:ts.length≤3){g g':Nat×List U.Tm}(gs:gg=[g]∨gg=[g',g])(hc:∀t∈call,oO t)(lc:ts.length=call.length)(p:0<picks.length):
  Ag fs (U.bG ts).length (U.bB [] ts).1 (mX (U.bG ts) gg) call picks (sV fs) (g.1,g.2.map (fB (U.bG ts))) (g'.1,g'.2.map (fB (U.bG ts))):=by
 subst ef;have ea:(U.bB [] ts).1=ts.map (U.Tm.app (lI (U.bG ts))):=RJ m8;have nm:∀{t x},t∈ts→t.has x→x∈U.bG ts:=fun ht hx=>U.mG.mpr (.inr ⟨_,ht,hx⟩);have get:∀{i r:Nat},((aB yW.2 i).map (·.2))=some r→∃a,aB y.2 i=some (a,r):=fun{i r} h=>by
  obtain⟨⟨a,b⟩,h1,h2⟩:=ou.mp h;exact⟨a,HE yk.pre ((show b=r from h2)▸h1)⟩
 refine⟨fun h=>?_,fun t ht=>?_,names5 hts,?_,fun t ht=>⟨(hc t ht).wt,fun k q=>?_,(hc t ht).dp⟩,Fh.trans lc,lc▸l3,?_,fun x hx=>?_,p⟩
 ·rcases h with rfl|rfl|rfl
  ·exact get Au.2.1
  ·exact get Au.1
  ·exact get Au.2.2
 ·rw[ea] at ht;obtain⟨u,hu,rfl⟩:=cg.mp ht;refine⟨U7 (hts u hu).wt,fun k hk=>?_,by rw[U5];exact eI (hts u hu).dp⟩
  obtain⟨j,hj,e⟩:=U.mC.mp hk;exact(show(U.bG ts).idxOf j=k from e)▸jG.mpr (nm hu hj)
 ·rw[ea,show U.jc (ts.map (U.Tm.app (lI (U.bG ts))))=U.jc ts from aE List.sum (by rw[fJ];exact g8 fun t _=>U6)]
  exact aA (WE hts) (aA (dO 7 l3) (by decide))
 ·have:=(hc t ht).vs k q
  simp only[a8,dM,or_false] at this;omega
 ·exact gs.imp (fun e=>by rw[e];rfl) fun e=>by rw[e];rfl
 ·obtain⟨x,hm,rfl⟩:=cg.mp hx;have go:=hg x hm;obtain⟨b,hb⟩:=go.at_;have as:∀{u:U.Tm},u∈x.2.map (fB (U.bG ts))→∃k∈U.bG ts,u=.v ((U.bG ts).idxOf k)∨u=.s1 32 (.v ((U.bG ts).idxOf k)):=fun hu=>by
   obtain⟨t,ht,rfl⟩:=cg.mp hu;obtain⟨k,hk,e⟩:=go.ask t ht;rw[VD fun n=>(go.ask t ht).has];exact⟨k,hk,e.imp (fun e=>by rw[e];rfl) fun e=>by rw[e];rfl⟩
  refine⟨⟨?_,?_⟩,fun t ht=>?_,fun k hk=>?_⟩
  ·show((aB y.2 x.1).map Prod.snd).getD 2000=(x.2.map _).length;rw[hb,aN];rfl
  ·show(x.2.map _).length≤100;rw[aN];exact aA go.len (aA (dO 2 (names5 hts)) (by decide))
  ·obtain⟨k,_,e⟩:=as ht;exact e.imp (fun e=>by rw[e];rfl) fun e=>by rw[e];rfl
  ·obtain⟨u,hu,hku⟩:=n8 hk;obtain⟨j,hj,e⟩:=as hu;have ej:(U.bG ts).idxOf j=k:=e.elim (fun e=>by rw[e] at hku;exact hku) fun e=>by rw[e] at hku;exact hku
   obtain⟨t2,ht2,h2⟩:=(U.mG.mp hj).resolve_left fun h=>nomatch h;exact eb (U.p5 (t:=t2.app (lI (U.bG ts))) (by rw[ea];exact qm ht2) (U.mC.mpr ⟨j,h2,ej⟩))
end
@[reducible] noncomputable def pC(S:List Int)(a:Int)(b:Nat):Cell:=.lst [.int a,.int (b:Int),.lst (S.map .int)]
@[reducible] noncomputable def hL(P:Cell)(y:Sy)(s s':Nat)(ns:List Nat)(gg:List (Nat×List U.Tm))(X:AH):AH:=dR P (.lst (aZ ns)::.lst (gg.map bE)::X) y.1 y.2 s s'
@[reducible] noncomputable def fG(na:Nat)(x0 x4 x6 x8 x10 x11 x12 x13 x14 x15:Option V):Fa:=[x0,some (.obj 0),some (.obj 1),some (i7 na),x4,none,x6,some (.obj 6),x8,some (.obj 7),x10,x11,x12,x13,x14,x15]
theorem uT{W:Wd}(pr:bA W){n s s':Nat}{P:Cell}{R:AH}{y:Sy}{m:Nat}{Q:K1}{t:List Nat}{k:Nat}(h:y.1.length<1000∧y.2.length<1000)(q:∀{s s'},Q (.int (sF y (t,k):Nat)) (dR P R (f6 y (t,k)).1 (f6 y (t,k)).2 s s')):Fi W (n+2) 7 [.obj 1,.str t,.int (k:Nat)] (dR P R y.1 y.2 s s') Q:=Dq pr h.1 h.2 q
section
variable{P:Cell}{y:Sy}{s s':Nat}{ns:List Nat}{gg:List (Nat×List U.Tm)}{X:AH}{l:List V}{W:Wd}
theorem o8:at_ false (hL P y s s' ns gg (app X [.lst l])) (.obj (aH X+8)) (fun _ c=>kB .append c)=true:=iL (i:=aH X+8) (l:=l) cW
theorem tn{v:V}{Q:K1}(z:l.length<aJ)(q:Q .none (hL P y s s' ns gg (app X [.lst (l++[v])]))):iW W .append (.obj (aH X+8)) Q [v] (hL P y s s' ns gg (app X [.lst l])):=by
 refine iF (i:=aH X+8) (l:=l) cW z ?_;have e:aq (hL P y s s' ns gg (app X [.lst l])) (.lst (l++[v])) (aH X+8)=hL P y s s' ns gg (app X [.lst (l++[v])]):=aE (hL P y s s' ns gg) iz;rw[e];exact q
end
theorem uw{α:Type}{P:α→Prop}{l:List α}{x:α}(h:∀t∈l,P t)(p:P x):∀t∈l++[x],P t:=fun t m=>(b6.mp m).elim (h t) fun m=>(a6.mp m)▸p
section
variable{W:Wd}(pr:bA W){n:Nat}{S:List Int}(hS:S≠[]){na:Nat}
include pr hS
theorem NX{R:AH}{x0 x2 x4:Option V}{t:Fa}:∀{l:List V} {a:Int} {b:Nat} {o:Option V} {Q:fw},b+12*l.length≤1000000→(∀{ts:List U.Tm} {a':Int} {b':Nat},ts.length=l.length→(∀t∈ts,Tz 2 pw t)→b'≤b+12*l.length→Q (ts.map aC) (dI R S a' b'))→
  oQ (bC W (n+4) Eu) 5 (x0::some (.obj 0)::x2::some (i7 na)::x4::o::t) l (dI R S a b) Q:=by
 intro l
 induction l with
 |nil=>exact fun{a b o Q} _ q=>q (ts:=[]) rfl (fun _ h=>nomatch h) (ai _)
 |cons v l ih=>
  intro a b o Q hb q;rw[dK,kb,bR (12*_),←bP] at hb q;refine kD (lz rfl) (Ab (n:=n) (d:=2) pr hS (ns:=pw) (oW _ _) (by decide) (aA (aT _ _) hb) fun{t a1 b1} ht h1=>?_)
  have h1:b1≤b+12:=fK h1;exact ih (aA (bp h1 _) hb) fun{ts a2 b2} hl hts h2=>q (ts:=t::ts) (aE Nat.succ hl) (fun u m=>(a8.mp m).elim (fun e=>e▸ht) (hts u)) (aA h2 (bp h1 _))
theorem Je{y:Sy}{s s':Nat}{ns:List Nat}{gg:List (Nat×List U.Tm)}{X:AH}{x0 x4 x6 x8 x10:Option V}{Q:K2}:∀{ks:List Nat} {acc:List U.Tm} {a:Int} {b:Nat} {o o':Option V},(∀k∈ks,k∈ns)→b+ks.length≤1000→acc.length+2*ks.length≤1000→(∀t∈acc,Ask ns t)→
  (∀{acc':List U.Tm} {a':Int} {b':Nat} {o o':Option V},(∀t∈acc',Ask ns t)→acc'.length≤acc.length+2*ks.length→b'≤b+ks.length→Q .aL (fG na x0 x4 x6 x8 x10 (some (.obj (aH X+8))) o o' none none) (hL (pC S a' b') y s s' ns gg (app X [.lst (acc'.map aC)])))→
  gV (It .lst (.obj 6) (aZ ns)) 12 (aQ W (n+1) yd) (ks.map fun(k:Nat)=>V.int (k:Int)) (fG na x0 x4 x6 x8 x10 (some (.obj (aH X+8))) o o' none none) (hL (pC S a b) y s s' ns gg (app X [.lst (acc.map aC)])) Q:=by
 intro ks
 induction ks with
 |nil=>exact fun{acc a b o o'} _ _ _ ha q=>⟨cF rfl,q ha (ai _) (ai _)⟩
 |cons k ks ih=>
  intro acc a b o o' hk hb hz ha q;have kn:=hk k (.head _);rw[dK,kb,bR (2*_),←bP] at hz q;rw[bR ks.length,←bP] at q;rw[dK,bR ks.length,←bP] at hb;refine k7 (cF rfl) fun K kk=>cM 2 (hW pr (m:=6) hS (aA (fK (aA (aT _ _) hb)) (by decide)) (by decide) (by decide) fun{r a1 b1} hr h1=>?_)
  have last:∀{acc':List U.Tm} {F:Fa},(F=fG na x0 x4 x6 x8 x10 (some (.obj (aH X+8))) (some (.int (k:Int))) (some (.int (r:Int))) none none)→(∀t∈acc',Ask ns t)→acc'.length≤acc.length+2→K F (hL (pC S a1 b1) y s s' ns gg (app X [.lst (acc'.map aC)])) Q:=fun{acc' F} e ha' l'=>e▸kk (ih (fun j m=>hk j (.tail _ m)) (aA (bp h1 _) hb) (aA (bp l' _) hz) ha' fun ha2 l2 h2=>q ha2 (aA l2 (bp l' _)) (aA h2 (bp h1 _)));have zm:∀{acc':List U.Tm},acc'.length≤acc.length+1→(acc'.map aC).length<aJ:=fun h=>by rw[aN];exact bb h (bj (dY _) (aA (aA (aT (acc.length+2) _) hz) (lz rfl)))
  have second:∀{acc':List U.Tm},(∀t∈acc',Ask ns t)→acc'.length≤acc.length+1→Stop (aQ W (n+1) (dp 2 yd)) (fG na x0 x4 x6 x8 x10 (some (.obj (aH X+8))) (some (.int (k:Int))) (some (.int (r:Int))) none none) (hL (pC S a1 b1) y s s' ns gg (app X [.lst (acc'.map aC)])) (f9 K Q):=fun{acc'} ha' l'=>by
   have A:=last (acc':=acc'++[.s1 32 (.v k)]) rfl (uw ha' ⟨k,kn,.inr rfl⟩) (by rw[a5];exact cI l')
   rw[bt] at A;refine bJ (cY (fun _=>aa o8 (tn (zm l') A)) fun _=>cY (fun _=>aa o8 (tn (zm l') A)) fun _=>last rfl ha' (eI l'))
  refine cY (fun _=>aa o8 (tn (zm (cB _)) ?_)) fun _=>second ha (cB _);have A:=second (acc':=acc++[.v k]) (uw ha ⟨k,kn,.inl rfl⟩) (by rw[a5];exact ai _)
  rw[bt] at A;exact A
end
theorem Lw{x:Nat}{b:BT}{v:V}{l:List V}{F:Fa}{H:AH}{Q:K2}(h:∀K:BT,(∀{F H},cf x b l F H Q→K F H Q)→b (dT F x v) H (f9 K Q)):cf x b (v::l) F H Q:=h _ id
theorem Qt{W:Wd}{H:AH}{i:Nat}{l:List V}{Q:K1}(hc:aB H i=some (.lst l))(q:Q (.tup l) H):oS W .tuple (.obj i) H Q:=by
 show ob (ob (aB H i) none _) _ _;rw[hc];exact q
section
variable{W:Wd}(pr:bA W){n:Nat}{S:List Int}(hS:S≠[]){na:Nat}
include pr hS
theorem NM{ns:List Nat}(hn:ns.length≤5){x0 x4 x6 x8:Option V}{Q:K2}:∀{l:List V} {gg:List (Nat×List U.Tm)} {y:Sy} {m a b s s' X o10 o11 o12 o13},fO y (m+l.length)→(∀x∈gg,lV y.2 ns x)→b+5*l.length≤900→gg.length+l.length≤1000→
  (∀{gg' y' a' b' s s' X o10 o11 o12 o13},fO y' m→gg'.length=gg.length+l.length→(∀x∈gg',lV y'.2 ns x)→b'≤b+5*l.length→Q .aL (fG na x0 x4 x6 x8 o10 o11 o12 o13 none none) (hL (pC S a' b') y' s s' ns gg' X))→
  cf 10 (aQ W (n+2) ye) l (fG na x0 x4 x6 x8 o10 o11 o12 o13 none none) (hL (pC S a b) y s s' ns gg X) Q:=by
 intro l
 induction l with
 |nil=>exact fun{gg y m a b s s' X o10 o11 o12 o13} yk hg _ _ q=>q yk rfl hg (ai _)
 |cons v l ih=>
  intro gg y m a b s s' X o10 o11 o12 o13 yk hg hb hz q;rw[dK,kb,bR (5*_),bR l.length,←bP,←bP] at q;rw[dK,kb,bR (5*_),←bP] at hb;rw[dK,bR l.length,←bP] at hz;refine Lw fun K k=>dB (lz rfl) ⟨cF rfl,?_⟩;have A:=@Je W pr (n+1) S hS na y s s' ns gg X x0 x4 x6 x8 (some v) (jw (aQ W (n+2) (dp 2 ye)) (f9 K Q)) ns [] a b o12 o13 (fun _ h=>h) (aA (cq hn b) (aA (aT _ _) (aA hb (by decide)))) (aA (cq (dO 2 hn) _) (lz rfl)) (fun _ h=>nomatch h) fun{acc a1 b1 o o'} ha hl h1=>?_
  ·rw[←nP] at A;exact A
  have hl:acc.length≤2*ns.length:=aA hl (bS (cP _));refine ff (i:=aH X+8) (l:=acc.map aC) cW (uT pr (m:=m) yk.lt fun{s s'}=>Qt (i:=aH X+8) (l:=acc.map aC) cW ⟨by rw[aN];exact bj (dY _) (aA (aA (aT _ _) hz) (lz rfl)),?_⟩)
  have B:=ih (gg:=gg++[(sF y ([107],(acc.map aC).length),acc)]) (m:=m) (a:=a1) (b:=b1) (s:=s) (s':=s') (X:=app X [.lst (acc.map aC)]) (o10:=some v) (o11:=some (.obj (aH X+8))) (o12:=o) (o13:=o') (fO.func (r:=([107],(acc.map aC).length)) yk) (uw (fun x m=>(hg x m).ext B4) ⟨ha,hl,_,by rw[TL,aN]⟩) (aA (bp (aA h1 (cq hn b)) _) hb) (by rw[a5];exact hz) fun h1' h2 h3 h4=>q h1' (h2.trans (by rw[a5];rfl)) h3 (aA h4 (bp (aA h1 (cq hn b)) _))
  unfold hL at B;rw[bt] at B;exact k B
end
theorem Xq{b c d k:Nat}(h:b≤c+1)(h2:k≤50)(z:c+60+d≤1000):b+k≤1000000∧b+k≤c+60:=by omega
theorem Kh{r:Nat}(h:r<3):oO (.v (500+r)):=⟨bx,fun x hx=>by
 have e:500+r=x:=hx;subst e;rcases r with _|_|_|r
 ·exact .head _
 ·exact .tail _ (.head _)
 ·exact .tail _ (.tail _ (.head _))
 ·exact absurd h (fL.mpr (b9 3 r)),bW _⟩
section
variable{W:Wd}(pr:bA W){n:Nat}{S:List Int}(hS:S≠[]){na:Nat}
include pr hS
theorem J7{y:Sy}{s s':Nat}{ns:List Nat}{gg:List (Nat×List U.Tm)}{X:AH}{x0 x4 x6 x10 x11 x12:Option V}{Q:K2}:∀{ts acc:List U.Tm} {a:Int} {b:Nat} {o o':Option V},(∀t∈ts,Tz 2 pw t)→b+60*ts.length≤1000→acc.length+ts.length≤1000→(∀t∈acc,oO t)→
  (∀{acc':List U.Tm} {a':Int} {b':Nat} {o o':Option V},(∀t∈acc',oO t)→acc'.length=acc.length+ts.length→b'≤b+60*ts.length→Q .aL (fG na x0 x4 x6 o x10 x11 x12 o' (some (.obj (aH X+8))) none) (hL (pC S a' b') y s s' ns gg (app X [.lst (acc'.map aC)])))→
  cf 8 (aQ W (n+6) El) (ts.map aC) (fG na x0 x4 x6 o x10 x11 x12 o' (some (.obj (aH X+8))) none) (hL (pC S a b) y s s' ns gg (app X [.lst (acc.map aC)])) Q:=by
 intro ts
 induction ts with
 |nil=>exact fun{acc a b o o'} _ _ _ ha q=>q ha rfl (ai _)
 |cons t ts ih=>
  intro acc a b o o' ht hb hz ha q;rw[dK,kb,bR (60*_),bR ts.length,←bP,←bP] at q;rw[dK,kb,bR (60*_),←bP] at hb;rw[dK,bR ts.length,←bP] at hz;have tz:=ht t (.head _);have b1:b≤1000000:=aA (aT _ _) (aA (aT _ _) (aA hb (by decide)))
  refine eO fun K kk=>hW pr (m:=4) hS b1 (by decide) (by decide) fun{r a1 b1} hr h1=>?_
  have z:=fun{k} h2=>Xq (b:=b1) (c:=b) (k:=k) h1 h2 hb;have put:∀{u:U.Tm} {a2:Int} {b2:Nat} {n':Nat},oO u→b2≤b+60→iW W .append (.obj (aH X+8)) (kEx (fG na x0 x4 x6 (some (aC t)) x10 x11 x12 (some (.int (r:Nat))) (some (.obj (aH X+8))) none) (jw (aQ W n' .nil) (jw (aQ W n' .nil) (f9 K Q)))) [aC u] (hL (pC S a2 b2) y s s' ns gg (app X [.lst (acc.map aC)])):=fun{u a2 b2 n'} hu h2=>by
   have B:=ih (acc:=acc++[u]) (a:=a2) (b:=b2) (o:=some (aC t)) (o':=some (.int (r:Nat))) (fun u m=>ht u (.tail _ m)) (aA (bp h2 _) hb) (by rw[a5];exact hz) (uw ha hu) fun h3 h4 h5=>q h3 (h4.trans (by rw[a5];rfl)) (aA h5 (bp h2 _))
   rw[bt] at B;exact tn (by rw[aN];exact bj (dY _) (aA (aA (aT _ _) hz) (lz rfl))) (kk B)
  refine cY (fun _=>aa o8 (hW pr (m:=3) hS (aA (aT _ _) (z (bW 50)).1) (by decide) (by decide) fun{r2 a2 b2} hr2 h2=>?_)) fun _=>cY (fun _=>aa o8 (kD (lz rfl) (Ab (n:=n+2) (d:=2) pr hS (ns:=[500,501,502]) (oW _ _) (by decide) (z (by decide)).1 fun{u a2 b2} hu h2=>?_))) fun _=>aa o8 (N2 (m:=n+2) pr hS tz.wt (aA tz.dp (b9 _ _)) (z (aA (dO 7 (gY (show t.aU+1≤7+1 from tz.sz))) (by decide))).1 fun{u a2 b2} hu h2=>?_)
  ·exact put (Kh hr2) (aA h2 (z (k:=1) (by decide)).2)
  ·exact put ⟨hu.wt,hu.vs,eI hu.dp⟩ (aA (fK h2) (z (by decide)).2)
  ·exact put ⟨hu.wt,hu.vs,aA hu.dp (cI tz.dp)⟩ (aA h2 (z (aA (dO 7 (gY (show t.aU+1≤7+1 from tz.sz))) (by decide))).2)
end
theorem CA{l:List (List Nat)}:gC (.lst (l.map V.str)):=fun _=>aE Cell.lst (d0 fun _=>rfl)
theorem GI{r:Nat→Nat}{α K:Type}{key:α→K}{l:List α}:∀{i:Nat},gr r (c5 key i l)=c5 key i l:=by
 induction l with
 |nil=>exact rfl
 |cons x l ih=>exact fun{i}=>aE (List.cons _) ih
theorem B8{l:List (List Nat)}{s:Nat}:gC (.dict (c5 mF 0 l) s):=fun _=>aE (Cell.dict · s) GI
theorem B9{l:List (Nat×Nat)}{s:Nat}:gC (.aY (c5 mE 0 l) s):=fun _=>aE (Cell.aY · s) GI
noncomputable def Hg(y:Sy)(s s':Nat):Sc:=⟨.lst (y.1.map V.str),.dict (c5 mF 0 y.1) s,y.2,.aY (c5 mE 0 y.2) s',CA,B8,B9⟩
section
variable{W:Wd}(pr:bA W){Q:K1}{H:AH}
include pr
theorem QG{gl:Nat}{f:Int}{d:Nat}{args:List U.Tm}{all:List (Nat×List U.Tm)}(h7:aB H gl=some (.lst (all.map bE)))(hd:∀t∈args++gT all,t.dep≤d)(hc:∀t∈gT all,∀x,t.has x→x∈(U.bB [] args).2)(hz:args.length+(gT all).length≤1000)(hg:all.length≤1000)(ht:(U.bB [] args).2.length≤1000)
  (q:∀{H' z},H.length≤z→aB H' (z+1)=some (.inst 6 [(100897158637842290,.int f),(5929854835,.tup ((U.bB [] args).1.map aC)),(1543761914995,.obj z),(1526583357044,.int ((U.bB [] args).2.length:Nat))])→aB H' z=some (.lst ((mX (U.bB [] args).2 all).map bE))→(∀{i c},i≠gl→aB H i=some c→aB H' i=some c)→Q (.obj (z+1)) H'):
  Fi W (d+2) 78 [.tup [.int f,.tup (args.map aC)],.obj gl] H Q:=by
 have e:∀{r:Nat→Nat} {l:List U.Tm},d6 r (l.map aC)=l.map aC:=d0 fun _=>lE;have F:=pN (vs:=[.tup [.int f,.tup (args.map aC)],.obj 0]) (σ:=[gl]) (H:=H) (H1:=[.lst (all.map bE)]) (Q:=Q) (n:=d+2) (f:=78) (ba.mpr ⟨dM,dF⟩) ⟨h7.trans (aE (fun l=>some (Cell.lst l)) (d0 fun _=>pe).symm),bx⟩ (QH pr hd hc hz hg ht fun{C1 C2 H'} b=>?_)
 ·rw[show d6 (rn [gl] H.length) [.tup [.int f,.tup (args.map aC)],.obj 0]=[.tup [.int f,.tup (d6 (rn [gl] H.length) (args.map aC))],.obj gl] from rfl,e] at F
  exact F
 ·have b4:=b.fZ (j:=4) rfl;have b3:=b.fZ (j:=3) rfl;rw[show mc (rn [gl] H.length) (.inst 6 [(100897158637842290,.int f),(5929854835,.tup ((U.bB [] args).1.map aC)),(1543761914995,.obj 3),(1526583357044,.int ((U.bB [] args).2.length:Nat))])=.inst 6 [(100897158637842290,.int f),(5929854835,.tup (d6 (rn [gl] H.length) ((U.bB [] args).1.map aC))),(1543761914995,.obj (H.length+2)),(1526583357044,.int ((U.bB [] args).2.length:Nat))] from rfl,e] at b4
  rw[show mc (rn [gl] H.length) (.lst ((mX (U.bB [] args).2 all).map bE))=.lst ((mX (U.bB [] args).2 all).map bE) from aE Cell.lst (d0 fun _=>pe)] at b3
  exact q (z:=H.length+2) (aT _ _) (aj.trans b4) (aj.trans b3) fun n h=>aj.trans (b.out (fun m=>n (a6.mp m)) (aj▸h))
omit pr in
theorem S6{a b c:Nat}(h1:8≤c)(h2:c<b)(h3:b<a):[1,2,3,4,5,a,b,c].Nodup:=by
 have hb:8≤b:=aA h1 (dk h2);have ha:8≤a:=aA hb (dk h3);have f:∀{k:Nat},k<8→k∉[a,b,c]:=fun q m=>by
  rcases a8.mp m with e|m
  ·exact Bf ha (e▸q)
  rcases a8.mp m with e|m
  ·exact Bf hb (e▸q)
  ·exact Bf h1 (a6.mp m▸q)
 exact(eZ (l₁:=[1,2,3,4,5]) (l₂:=[a,b,c])).mpr ⟨by decide,ba.mpr ⟨fun m=>(a8.mp m).elim (eb h3) fun m=>eb (iU h2 h3) (a6.mp m),ba.mpr ⟨fun m=>eb h2 (a6.mp m),ba.mpr ⟨dM,dF⟩⟩⟩,fun x hx y hy e=>f (bb ((by decide:∀x∈[1,2,3,4,5],x≤5) x hx) (by decide)) (e▸hy)⟩
theorem JU{n z cl N s s':Nat}{y:Sy}{f:Int}{args:List U.Tm}{goals:List (Nat×List U.Tm)}{call:List U.Tm}{picks:List Nat}{g g':Nat×List U.Tm}(h:Ag y.2 N args goals call picks (sV y.2) g g')(c8:8≤cl)(cz:cl<z)
  (h1:aB H 1=some (.inst 0 [(1599430227059,.obj 2),(109388970062261371602777502323,.obj 3),(25829672611287626355,.obj 4),(1861224063156749765404099319326667379,.obj 5)])) (h2:aB H 2=some (.lst (y.1.map V.str))) (h3:aB H 3=some (.dict (c5 mF 0 y.1) s)) (h4:aB H 4=some (.lst (y.2.map l7))) (h5:aB H 5=some (.aY (c5 mE 0 y.2) s'))
  (hk:aB H (z+1)=some (.inst 6 [(100897158637842290,.int f),(5929854835,.tup (args.map aC)),(1543761914995,.obj z),(1526583357044,.int (N:Nat))])) (hz:aB H z=some (.lst (goals.map bE))) (hc:aB H cl=some (.lst (call.map aC))) (q:∀{H'},Q (.bool true) H'):
  Fi W (n+158) 77 [.obj 1,.obj (z+1),.obj cl,.lst (eD picks)] H Q:=by
 have e:∀{r:Nat→Nat} {l:List U.Tm},d6 r (l.map aC)=l.map aC:=d0 fun _=>lE;have F:=pN (vs:=[.obj 0,.obj 5,.obj 7,.lst (eD picks)]) (σ:=[1,2,3,4,5,z+1,z,cl]) (H:=H) (Q:=Q) (S6 c8 cz (dY z)) (H1:=hA (pX (Hg y s s') f N args goals call) []) ⟨h1,h2.trans (aE some (CA _).symm),h3.trans (aE some (B8 _).symm),h4.trans (aE some (B7 _).symm),h5.trans (aE some (B9 _).symm),hk.trans (aE (fun l=>some (Cell.inst 6 [(100897158637842290,.int f),(5929854835,.tup l),(1543761914995,.obj z),(1526583357044,.int (N:Nat))])) e.symm),hz.trans (aE (fun l=>some (Cell.lst l)) (d0 fun _=>pe).symm),hc.trans (aE (fun l=>some (Cell.lst l)) e.symm),bx⟩ (JV (n:=n) (s:=Hg y s s') h pr fun{H1' H'} _=>q);rw[show d6 (rn [1,2,3,4,5,z+1,z,cl] H.length) [.obj 0,.obj 5,.obj 7,.lst (eD picks)]=[.obj 1,.obj (z+1),.obj cl,.lst (d6 (rn [1,2,3,4,5,z+1,z,cl] H.length) (eD picks))] from rfl,show d6 (rn [1,2,3,4,5,z+1,z,cl] H.length) (eD picks)=eD picks from d0 fun _=>rfl] at F
 exact F
theorem Nh{P:Cell}{y:Sy}{s s' d:Nat}{x0 x1 x2 x3 x4 x5 x6:Option V}{t:Fa}{Q:K2}:∀{ts:List U.Tm} {tb:List Nat} {o:Option V},(∀t∈ts,t.dep≤d)→(U.bB tb ts).2.length<aJ→(∀{o},Q .aL (x0::x1::x2::x3::x4::x5::x6::some (.obj 6)::o::t) (dR P [.lst (aZ (U.bB tb ts).2)] y.1 y.2 s s'))→
  cf 8 (aQ W (d+1) Ek) (ts.map aC) (x0::x1::x2::x3::x4::x5::x6::some (.obj 6)::o::t) (dR P [.lst (aZ tb)] y.1 y.2 s s') Q:=by
 intro ts
 induction ts with
 |nil=>exact fun{tb o} _ _ q=>q
 |cons t ts ih=>exact fun{tb o} hd z q=>eO fun K k=>zN (a:=6) (tb:=tb) pr (hd t (.head _)) rfl (bb ry z) (k (ih (fun t m=>hd t (.tail _ m)) z q))
end
theorem fO.mono{y:Sy}{m:Nat}(k:fO y (m+89)):fO y m:=⟨k.pre,aA (cq (dO 2 (aT _ _)) _) k.z⟩
theorem n3{m:Nat}:(jV m).length=m:=by rw[pj,aN,List.length_range']
section
variable{W:Wd}(pr:bA W)
include pr
theorem L9{n s s':Nat}{P:Cell}{Q:K1}(q:∀{s s'},Q (.int 32) (dR P [] yB.1 yB.2 s s')):Fi W (n+2) 7 [.obj 1,.str [102],.int 1] (dR P [] yA.1 yA.2 s s') Q:=uT pr (m:=0) (k:=1) ⟨vq.2.1,vq.2.2.1⟩ (Xe▸q)
theorem MA{n s s':Nat}{P:Cell}{Q:K1}(q:∀{s s'},Q (.int 33) (dR P [] yW.1 yW.2 s s')):Fi W (n+2) 7 [.obj 1,.str [102],.int 2] (dR P [] yB.1 yB.2 s s') Q:=uT pr (m:=0) (k:=2) vq.2.2.2 (Xf▸q)
variable{S:List Int}(hS:S≠[]){na:Nat}{ts:List U.Tm}(hts:∀t∈ts,Tz 2 pw t)(l3:ts.length≤3){x0 x4:Option V}{f:Int}{Q:K2}(q:∀{F H},Q (.ret (.bool true)) F H)
include hS hts l3 q
theorem Q4{y:Sy}{s s' a b m X x8 x10 x11 x12 x13}{gg:List (Nat×List U.Tm)}{call:List U.Tm}{g g':Nat×List U.Tm}(yk:fO y m)(hg:∀x∈gg,lV y.2 (U.bG ts) x)(gs:gg=[g]∨gg=[g',g])(hc:∀t∈call,oO t)(lc:ts.length=call.length)(hb:b≤1000):
  aQ W 199 (dp 11 rY) (fG na x0 x4 (some (.tup [.int f,.tup (ts.map aC)])) x8 x10 x11 x12 x13 (some (.obj (aH X+8))) none) (hL (pC S a b) y s s' (U.bG ts) gg (app X [.lst (call.map aC)])) Q:=by
 have b1:∀{b'},b'≤b+2→b'≤1000000:=fun h=>aA h (aA (bp hb 2) (by decide))
 refine cM 1 ⟨lz rfl,hW pr (m:=4) hS (b1 (aT _ _)) (by decide) (by decide) fun{r1 a1 b1'} _ h1=>hW pr (m:=4) hS (b1 (eI h1)) (by decide) (by decide) fun{r2 a2 b2'} _ h2=>hW pr (m:=4) hS (b1 (aA h2 (cI h1))) (by decide) (by decide) fun{r3 a3 b3'} _ _=>⟨.val,bJ ?_⟩⟩
 have n5:=names5 hts;have g2:gg.length≤2:=gs.elim (fun e=>by rw[e];exact cB 1) fun e=>by rw[e];exact ai 2
 have zT:(gT gg).length≤20:=aA (M8 hts hg) (dO 10 g2);have ask:=M7 hg;refine QG pr (gl:=7) (d:=197) (args:=ts) (all:=gg) rfl (fun t mt=>(b6.mp mt).elim (fun mt=>aA (hts t mt).dp (by decide)) fun mt=>?_) (fun t mt x=>(ask t mt).has) (aA (d9 l3 zT) (by decide)) (aA g2 (by decide)) (aA n5 (by decide)) fun{H' z} lz hk hz keep=>?_
 ·obtain⟨k,_,e⟩:=ask t mt;exact e.elim (fun e=>by rw[e];exact bW _) fun e=>by rw[e];exact(by decide:1≤197)
 ·refine JU pr (n:=41) (cl:=aH X+8) (JT hts hg yk rfl l3 gs hc lc (picks:=[r1,r2,r3]) (nB 2)) (b9 _ _) (bj ?_ lz) (keep (by decide) rfl) (keep (by decide) rfl) (keep (by decide) rfl) (keep (by decide) rfl) (keep (by decide) rfl) hk hz (keep ?_ cW) fun{H'}=>q
  ·show aH X+8<(app X [_]).length+8;rw[cJ,a5,cT];exact dY _
  ·exact eb (bj (by decide:7<8) (b9 8 _))
theorem Fb{y:Sy}{s s' a b m X x8 x10 x11 x12 x13}{gg:List (Nat×List U.Tm)}{g g':Nat×List U.Tm}(yk:fO y m)(hg:∀x∈gg,lV y.2 (U.bG ts) x)(gs:gg=[g]∨gg=[g',g])(hb:b≤100):
  aQ W 199 (dp 9 rY) (fG na x0 x4 (some (.tup [.int f,.tup (ts.map aC)])) x8 x10 x11 x12 x13 none none) (hL (pC S a b) y s s' (U.bG ts) gg X) Q:=by
 have l60:60*ts.length≤180:=dO 60 l3;have hb2:b+60*ts.length≤1000:=aA (d9 hb l60) (by decide)
 refine cM 2 (dB (lz rfl) ?_);exact J7 pr hS (n:=193) (acc:=[]) hts hb2 (aA (cq l3 _) (lz rfl)) (fun _ h=>nomatch h) fun{call a' b' o o'} hc hl hb'=>bJ (Q4 pr hS hts l3 q yk hg gs hc ((cP _).symm.trans hl.symm) (aA hb' hb2))
theorem Q3{y:Sy}{s s' a b x8}(yk:fO y 10)(hb:b≤50):aQ W 199 (dp 7 rY) [x0,some (.obj 0),some (.obj 1),some (i7 na),x4,none,some (.tup [.int f,.tup (ts.map aC)]),some (.obj 6),x8,none,none,none,none,none,none,none] (dR (pC S a b) [.lst (aZ (U.bG ts))] y.1 y.2 s s') Q:=by
 refine cM 2 (dB (lz rfl) (hW pr (m:=2) hS (aA hb (by decide)) (by decide) (by decide) fun{r a1 b1} hr h1=>⟨show 1+r≤aJ from aA (cq (dk hr) 1) (lz rfl),?_⟩))
 refine NM pr (n:=197) hS (names5 hts) (l:=jV (1+r)) (gg:=[]) (m:=8) ?_ (fun _ h=>nomatch h) ?_ ?_ fun{gg y2 a2 b2 s2 s2' X o10 o11 o12 o13} yk2 hl hg h2=>bJ ?_
 ·exact⟨yk.pre,by rw[n3];exact aA (cq (dO 2 (show 8+(1+r)≤10 from by omega)) _) yk.z⟩
 ·rw[n3];omega
 ·rw[n3];exact aA (bS (cP _)) (aA (cq (dk hr) 1) (by decide))
 ·rw[n3,lX,cP] at hl;rw[n3] at h2;have h2:b2≤100:=by omega
  rcases gg with _|⟨g',_|⟨g,_|_⟩⟩
  ·exact absurd hl.symm (eb (bj Nat.one_pos (aT _ _)))
  ·exact Fb pr hS hts l3 q (g:=g') (g':=g') yk2 hg (.inl rfl) h2
  ·exact Fb pr hS hts l3 q (g:=g) (g':=g') yk2 hg (.inr rfl) h2
  ·exact absurd hl (eb (by rw[dK,dK,dK];omega))
omit hts l3
theorem Q2{s s':Nat}:aQ W 199 (dp 3 rY) [x0,some (.obj 0),some (.obj 1),some (i7 na),none,none,none,none,none,none,none,none,none,none,none,none] (dR (pC S 0 0) [] yW.1 yW.2 s s') Q:=by
 have yk:fO yW 100:=⟨m8,aA (bp Xp _) (by decide)⟩
 refine cM 2 (hW pr (m:=3) hS (bW _) (by decide) (by decide) fun{r a b} hr hb=>uT pr (m:=0) (k:=1+r) yk.lt fun{s s'}=>⟨show 1+r≤aJ from aA (cq (dk hr) 1) (lz rfl),NX pr (n:=195) hS (l:=jV (1+r)) ?_ fun{ts a1 b1} hl hts h1=>⟨.val,?_⟩⟩)
 ·rw[n3];omega
 ·rw[n3] at hl h1;have l3:ts.length≤3:=by omega
  have h1:b1≤50:=by omega
  have n5:=names5 hts;refine bJ (cM 2 (dB (lz rfl) (Nh pr (d:=198) (tb:=[]) (y:=f6 yW ([104],1+r)) (fun t m=>aA (hts t m).dp (by decide)) (bb n5 (by decide)) fun{o}=>bJ (Q3 pr hS hts l3 q ?_ h1))))
  exact(fO.func (m:=99) yk).mono
end
theorem UW{xs:List Int}:(xs.map V.int++[V.int 0]).take 40=((xs++[0]).take 40).map V.int:=by rw[List.map_take,bt];rfl
theorem UX{xs:List Int}:(xs++[0]).take 40≠[]:=by
 cases xs with
 |nil=>exact oW _ _
 |cons x l=>exact oW _ _
theorem Q1{W:Wd}(pr:bA W){Q:K1}(q:∀{H},Q (.bool true) H){xs:List Int}(hx:xs.length≤63):Fi W 200 81 [.lst (xs.map .int)] [] Q:=by
 refine pr.fe (n:=199) M6 rfl ?_;refine kD (lz rfl) (fC (nC.lst .val .val (by rw[a5,aN];exact aA (bp hx _) (lz rfl)) .val) (oB (dw.F4 (j:=40) .val .val) ?_))
 rw[UW];refine dB (lz rfl) (V9 pr fun{s s'}=>⟨rfl,?_⟩);refine w0 pr vq.1 fun{s}=>L9 pr fun{s s'}=>MA pr fun{s s'}=>kD (lz rfl) ?_;exact Q2 pr UX fun{F H}=>q
set_option genSizeOf true
set_option genInjectivity true
theorem Xu:rg.Holds:=PW fun pr xs h=>pK.mp (Q1 pr (fun{H}=>rfl) h)
end Mine
end
theorem PySem.Challenge.cw_no0186_01_holds : PySem.Challenge.rw_no0186_01.Holds :=
  Mine.Xu
