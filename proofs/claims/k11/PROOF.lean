import PyProof.Rows.All
import Wide.All
import OpenK.AllK
import Wide.FinOn
import HandS.Exc
import HandS.ExcInit
import HandS.ExcIs
import HandS.ExcField
import HandS.ExcValue
import KE.KIsAll
import HandS.Small
import HandS.Codes
import HandS.Words
import HandS.ExcCtx
import HandS.SuiteRaise
import HandS.RaiseFrom
import HandS.ExcInitHot
import HandS.TupAny
import HandS.TupMul
import HandS.List
import HandS.Call
import HandS.Dict
import HandS.Iter
import HandS.DictTup
import KE.KDictDisplayH
import KE.KDictWalk
import PyProof.DictRoadsH
import HandS.ForMost
import HandS.ForExc
import HandS.Lambda
import KE.DataEq
import KE.DataCmp
import PyProof.MinMaxWalk
import HandS.StrMore
import PyProof.SliceList
import PyProof.FactsAll.bool
import PyProof.TwoTypes
import PyProof.TwoTypesSub
import PyProof.AutoIntG7
import HandS.Wide
import HandS.TupLe
import HandS.Text
import HandS.IsInst
import HandS.More
import PyProof.AutoSeq1
import KE.SortData
import HandS.SortInts
import HandS.Flow
import HandS.Style
import HandS.Walk
import HandS.Zip
import KE.GoesEnum
import KE.GoesMore
import HandS.DictComp
import HandS.ListItems
import KE.KDictPairs
import PyProof.DictUpdate
import HandS.SetFor
import HandS.Replace
import HandS.ExcOwn
import HandS.WordsExc
import HandS.ReplaceDef
import HandS.Steps
import KE.KAssignIn
import HandS.MakeKwOnly
import HandS.Rev
import PyProof.ListNew
import HandS.Conv
import HandS.TryOnly
import KE.DataMinKey
import PyProof.Rows.CallKwBuiltin
import KE.DataMinMax
import HandS.DictEq
import KE.KUnpackStar
import HandS.Strs
import PyProof.Rows.StrMeet
import HandS.ReplaceLit
import HandS.HeadHook3
import HandS.EndBits
import HandS.HeadHook1
import HandS.HeadHook2
import HandS.HeadHook4
import HandS.Head0
import HandS.Head1
import HandS.Head2
import PySem.Challenge.RW_laidtongues_k11_where_remarks_stand
import KE.KStateDown
import PyProof.StrLawsIn
import PyProof.StrLawsRepr
import PyProof.FitsInt
import PyProof.ReprLen
import PyProof.Rows.StrFit
import PyProof.Rows.ReprOcc
import PyProof.Rows.StrCountLaw
import PyProof.ReprText
import HandS.ReplaceList
set_option Elab.async false
set_option linter.all false
set_option maxRecDepth 100000
set_option maxHeartbeats 4000000
def zaa:=@Bool.and_eq_true
def zab:=@decide_eq_true_eq
def zac:=@List.mem_cons_self
def zad:=@of_decide_eq_true
def zae:=@List.mem_cons_of_mem
def zaf:=@List.length_cons
def zag:=@List.mem_of_getElem?
def zah:=@if_pos
def zai:=@List.all_eq_true
def zaj:=@if_neg
def zak:=@List.getElem?_eq_some_iff
def zal:=@Nat.le_refl
def zam:=@Option.some.inj
def zan:=@List.getElem?_set_self
def zao:=@PySem.Paired.length
def zap:=@PySem.sizeLine_eq
def zaq:=@PySem.wpAny_bind
def zar:=@List.getElem?_set_ne
def zas:=@List.mem_cons
def zat:=@List.getElem?_map
def zau:=@List.append_nil
def zav:=@List.length_append
def zaw:=@List.length_map
def zax:=@Option.bind_eq_some_iff
def zay:=@List.all_cons
def zaz:=@List.mem_map
def zaA:=@List.getElem?_append_left
def zaB:=@List.mem_singleton
def zaC:=@List.getElem?_append_right
def zaD:=@PySem.F.plainAttrs_str
def zaE:=@Option.bind_some
def zaF:=@List.mem_iff_getElem?
def zaG:=@Option.map_eq_some_iff
def zaH:=@decide_eq_false
def zaI:=@List.getElem?_cons_succ
def zaJ:=@List.getElem?_eq_none
def zaK:=@Bool.not_eq_true'
def zaL:=@List.cons_append
def zaM:=@List.takeWhile_cons
def zaN:=@List.take_of_length_le
def zaO:=@List.map_inj_left
def zaP:=@Bool.false_ne_true
def zaQ:=@beq_eq_false_iff_ne
def zaR:=@List.map_cons
def zaS:=@Array.length_toList
def zaT:=@PySem.Heap.get?_push_of_some
def zaU:=@Nat.lt_of_lt_of_le
def zaV:=@Int.lt_of_le_of_lt
def zaW:=@List.getElem?_eq_getElem
def zaX:=@List.mem_append
def zaY:=@List.length_drop
def zaZ:=@Nat.add_sub_cancel_left
def za0:=@List.mem_append_left
def za1:=@Nat.zero_le
def za2:=@List.getElem?_eq_none_iff
def za3:=@Bool.or_eq_true
def za4:=@List.drop_eq_getElem_cons
def za5:=@PySem.wpAny_holding
def za6:=@List.take_length
def za7:=@List.length_take
def za8:=@List.lookup_cons
def za9:=@PySem.wpAny_pure
def zba:=@List.size_toArray
def zbb:=@List.map_map
def zbc:=@List.drop_zero
def zbd:=@List.mem_filterMap
def zbe:=@List.getElem?_cons_zero
def zbf:=@List.length_eq_zero_iff
def zbg:=@Int.emod_lt_of_pos
def zbh:=@Bool.or_eq_false_iff
def zbi:=@List.not_mem_nil
def zbj:=@congrArg
def zbk:=@PySem.Heap.lt_size
def zbl:=@PySem.wpAny_Call_Name_kw
def zbm:=@List.drop_length
def zbn:=@List.any_cons
def zbo:=@decide_eq_true
def zbp:=@List.append_assoc
def zbq:=@List.length_set
def zbr:=@PySem.Heap.get?_push_size
def zbs:=@List.replicate_succ
def zbt:=@Int.emod_nonneg
def zbu:=@PySem.F.plainAttrs_dict
def zbv:=@beq_self_eq_true
def zbw:=@Nat.le_trans
def zbx:=@List.length_nil
def zby:=@List.nodup_cons
def zbz:=@Option.isSome_iff_exists
def zbA:=@beq_iff_eq
def zbB:=@List.map_append
def zbC:=@Nat.ne_of_lt
def zbD:=@Bool.or_false
def zbE:=@Bool.and_true
def zbF:=@PySem.Value.ref.inj
def zbG:=@List.filterMap_cons
def zbH:=@PySem.W.mg_of
def zbI:=@List.eq_nil_of_length_eq_zero
def zbJ:=@List.getLast?_eq_some_getLast
def zbK:=@List.drop_append_of_le_length
def zbL:=@PySem.F.slot_int_rmul
def zbM:=@PySem.F.slot_str_find
def zbN:=@PySem.F.type_str_find
def zbO:=@HandSHeadRun.frNat_eq
def zbP:=@He.eqO_ok
def zbQ:=@List.mem_append_right
def zbR:=@List.flatten_cons
def zbS:=@Option.isNone_iff_eq_none
def zbT:=@Array.toList_inj
def zbU:=@Iff.rfl
def zbV:=@PySem.wpAny_mono
def zbW:=@PySem.typeIs_int
def zbX:=@bne_iff_ne
def zbY:=@PySem.F.slot_dict_update
def zbZ:=@List.find?_cons
def zb0:=@Bool.false_eq_true
def zb1:=@List.takeWhile_sublist
def zb2:=@Option.some.injEq
def zb3:=@PyProof.Rows.cps_toList_append
def zb4:=@Nat.zero_add
def zb5:=@List.set_append_right
def zb6:=@List.filter_cons
def zb7:=@Bool.false_or
def zb8:=@PyProof.Rows.lm_len_rep_flat
def zb9:=@List.dropLast_concat_getLast
def zca:=@PySem.W.callWith_K0
def zcb:=@Nat.min_le_left
def zcc:=@Nat.min_eq_left
def zcd:=@List.count_cons
def zce:=@List.drop_succ_cons
def zcf:=@List.drop_left'
namespace L2
open PySem PySem.Spec PyProof.Rows
def yU(cls:Value)(d:Option Addr)(a:Addr):HO:=.ext fun h=>∃ oe:Obj,h.get? a=some oe/\Zc cls d oe/\∃ vs,oe.data= .fields vs
theorem O2{P:Program}{w:World}{H:Hp}{h:Heap}{a:Addr}{cls:Value}{d:Option Addr}{oe:Obj}(e:h.get? a=some oe)(z:Zc cls d oe)(f:∃ vs,oe.data= .fields vs):ObjOk P w H h a (yU cls d a):=⟨⟨oe,e,z,f⟩,⟨oe,e⟩,fun _ _ ⟨o,q,r⟩ k=>⟨o,k o q,r⟩⟩
section
variable {X:Cx} {pins:List (Addr×Obj)} {σ:St} {H:Hp} {s:Shared}
theorem Inv.UR{a:Addr}{o:HO}(I:Inv X pins σ H s)(na:H a=none)(new:X.s_0.heap.get? a=none)(nL:a≠X.env.locals)(nc:∀ x c,X.env.cells.lookup x=some c->c≠a)(np:∀ p∈X.pn++pins,p.1≠a)(ok:ObjOk X.prog X.w (upd H a o) s.heap a o):Inv X pins σ (upd H a o) s where
 ok:=I.ok
 os:=I.os
 bare:=I.bare
 base:={
  keep:=I.base.keep
  slot:=I.base.slot
  free:=fun b u q n hx=>by rw[upd_ne (fun z=>by rw[z,new]at q;cases q)];exact I.base.free b u q n hx
  there:=I.base.there
  tups:=fun b xs q=>by have q':=I.base.tups b xs q;rw[upd_ne (ne_of_none q' na)];exact q'
  frzs:=fun b u xs q=>by have q':=I.base.frzs b u xs q;rw[upd_ne (ne_of_none q' na)];exact q'
  tbls:=fun b ps q=>by obtain⟨more,q'⟩:=I.base.tbls b ps q;exact⟨more,by rw[upd_ne (ne_of_none q' na)];exact q'⟩}
 loc:=I.loc
 cell:=I.cell
 free:=by rw[upd_ne (Ne.symm nL)];exact I.free
 freeC:=fun x c e=>by rw[upd_ne (nc x c e)];exact I.freeC x c e
 pin:=fun p hp=>by obtain⟨h1,h2,h3⟩:=I.pin p hp;exact⟨h1,by rw[upd_ne (np p hp)];exact h2,h3⟩
 hok:=I.hok.laidN (fun _ _ q=>q) na ok
 len:=I.len
end
def KY(K:PySem.W.Frag)(c:Value)(i:Nat)(ts:Addr->Value->Option Addr->TS)(Wout:WX)(D:Ends):WX:=fun cls d σ H=>∃ b,PySem.W.exmOne K cls c=some b/\(b=true->∀ a,H a=none->ts a cls d { nx:=fun σ' H'=>D.nx (σ'.set i none) (upd H' a (yU cls d a)),rt:=D.rt,bk:=fun _ _=>False,ct:=fun _ _=>False } (σ.set i (some (.ref a))) H)/\ (b=false->Wout cls d σ H)
section
variable {X:Cx} {x n:Str} {c:Value} {i:Nat} {body suite:List Stmt} {b₀:Stmt} {np pos pos':Pos} {tb:WX->TS} {ts:Addr->Value->Option Addr->TS} {Wout:WX}
theorem Be(hx:X.ex=[])(hs:X.stack=X.env::X.outer)(hf:X.env.frame=some X.env.locals)(hN:X.N.Nodup)(hi:X.N[i]?=some n)(hln:X.env.kindOf n=some .local)(hc:Names X x c)(tk:Takes X Wout)
 (hb:∀ (W:WX) (pn:List (Addr×Obj)) (xe:Value->Shared->Prop),Takes (X.tr pn xe) W->PassesOwn (model X.prog X.w) X.A X.env xe->PSs (X.tr pn xe) body (tb W))
 (hsu:∀ (a:Addr) (oe:Obj) (cls:Value) (d:Option Addr) (pn:List (Addr×Obj)),Zc cls d oe->(∃ vs,oe.data= .fields vs)->PSs (X.suite a ((a,oe)::pn)) (b₀::suite) (ts a cls d)) :
 PS X (.Try body [.ExceptHandler (some (.Name x np)) (some n) (b₀::suite) pos'] [] [] pos) (fun D σ H=>tb (KY X.K c i ts Wout D) D σ H):=by
 refine⟨fun pins s σ H D I h=>?_⟩;have ok:=I.ok;have hfr:X.A.frames=some (X.env::X.outer):=by rw[ok.frames,hs]
 have hloc:Loc X.env.scope n:=.inl hln;refine wpAny_Try_except ?_;refine zbV ((hb (KY X.K c i ts Wout D) (X.pn++pins) (fun e s₁=>wpAny (model X.prog X.w) X.A (noteFrame e X.env) (fun _ s₂=>wpAny (model X.prog X.w) X.A (setFlight e none) (fun _ s₃=>wpAny (model X.prog X.w) X.A (handleBy e X.env [.ExceptHandler (some (.Name x np)) (some n) (b₀::suite) pos']) (SP X pins D) X.xe s₃) X.xe s₂) X.xe s₁) (fun u s' xx=>?_) PassesOwn.looking).run [] s σ H D (I.toTry _) h) (fun f s1 hsp=>?_) (fun e s1 he=>he)
 ·obtain⟨a,B,sI,pins',σ',H',cls,d,rfl,J',nb,up,sky,na,os,ag,b,hb1,hyes,hno⟩:=xx;have J:Inv X pins σ' H' sI:=J'.ofTry ok;have sky':Sky B (X.env::X.outer) a (Zc cls d) X.env.locals s'.heap:=by rw[←hs];exact sky
  show wpAny (model X.prog X.w) X.A (noteFrame (.ref a) X.env) _ _ _;refine Sky.land Zc.steady hfr hf sky' fun h3 fl3 up3=>?_;have J3:Inv X pins σ' H' { s' with heap:=h3 }:=J.landed nb fl3.1 (up.trans up3) os ag;obtain⟨oe3,vs3,he3,hz3,hd3⟩:=fl3.there;have nfr:a∉frs (X.env::X.outer):=fun hm=>by obtain⟨_,o',e',hnf⟩:=fl3.2.2.1.mem hm;rw[he3]at e';cases e';exact hnf _ hd3
  have hsI:sI.heap.get? a=none:=by
   cases q:sI.heap.get? a with
   |none=>rfl
   |some o=>have:=nb a o q (by rw[hs];exact nfr);rw[fl3.2.1]at this;cases this
  have nL:a≠X.env.locals:=fun z=>nfr (zbd.mpr ⟨X.env,zac,by rw[hf,z]⟩);have nF:a∉X.fs:=fun hm=>by obtain⟨e,he,q⟩:=zbd.mp hm;exact nfr (zbd.mpr ⟨e,zae _ he,q⟩)
  have n0:X.s_0.heap.get? a=none:=by
   cases q:X.s_0.heap.get? a with
   |none=>rfl
   |some o=>obtain⟨o',e⟩:=J.base.there a o q (by rw[hx];simp);rw[hsI]at e;cases e
  have nc:∀ y e,X.env.cells.lookup y=some e->e≠a:=fun y e hy z=>by obtain⟨v,o,e1,_⟩:=J.cell y e hy;rw[z,hsI]at e1;cases e1
  have np':∀ p∈X.pn++pins,p.1≠a:=fun p hp z=>by have:=(J.pin p hp).1;rw[z,hsI]at this;cases this
  have S3:=J3.suite he3 hd3 na nL nF;refine wpAny_handleBy_cons (codeAny_handlers_test ?_) (by intro q;cases q);have LT:PySem.W.Looks (model X.prog X.w) h3 (typeOf (.ref a)) cls:=fun A Q E s k q=>wpAny_typeOf_ref (k _ _ he3) (by rw[hz3.1];exact q);have LM:=PySem.W.exm_one (M:=model X.prog X.w) (J3.kIn) LT hb1;have test:∀ {Q:Value->Shared->Prop} {E:Value->Shared->Prop},Q c { s' with heap:=h3 }->wpAny (model X.prog X.w) (X.A.mark (some (.ref a))) (eval (.Name x np) X.env) Q E { s' with heap:=h3 }:=fun {Q E} q=>by
   obtain⟨hg,hdbg,hm |⟨hm,hv,hnn⟩⟩:=hc
   ·exact ld_glob (X:=X.suite a ((a,oe3)::(X.pn++pins))) S3 hg hm q hdbg
   ·exact ld_blt (X:=X.suite a ((a,oe3)::(X.pn++pins))) S3 hg hm hv q hnn hdbg
  refine test (LM.here ?_);cases b with
  |true=>
   refine codeAny_handlers_suite_as ?_;refine HandSPX.lands_againZ fl3 fun h4 fl4 up4=>?_;have J4:Inv X pins σ' H' { s' with heap:=h4 }:=J.landed nb fl4.1 ((up.trans up3).trans up4) os ag;obtain⟨oe4,vs4,he4,hz4,hd4⟩:=fl4.there;have S4:=J4.suite he4 hd4 na nL nF;refine store_ok (X:=X.suite a ((a,oe4)::(X.pn++pins))) (v:=.ref a) S4 hN hi hloc rfl (fun s5 S5=>?_) (.inr hln);refine zbV ((hsu a oe4 cls d (X.pn++pins) hz4 ⟨_,hd4⟩).run [] s5 _ H' _ S5 (hyes rfl a na)) (fun f s6 hsp=>?_) (fun _ _ z=>False.elim z);cases f with
   |next=>obtain⟨σ6,H6,S6,q6⟩:=hsp;refine gone_ok (X:=X.suite a ((a,oe4)::(X.pn++pins))) S6 hN hi hln fun s7 S7=>?_;obtain⟨p1,p2,_⟩:=S7.pin (a,oe4) (za0 _ zac);exact⟨_,_,(S7.unsuite ok).UR p2 n0 nL nc np' (O2 p1 hz4 ⟨_,hd4⟩),q6⟩
   |brk=>obtain⟨σ6,H6,S6,q6⟩:=hsp;exact q6.elim
   |cont=>obtain⟨σ6,H6,S6,q6⟩:=hsp;exact q6.elim
   |ret u=>obtain⟨v6,σ6,H6,S6,r6,q6⟩:=hsp;exact gone_ok (S6.unsuite ok) hN hi hln fun s7 J7=>⟨_,_,_,J7,r6,q6⟩
  |false=>
   show wpAny _ X.A (handleBy (.ref a) X.env []) _ _ _;refine wpAny_handleBy_nil ?_;obtain⟨k1,k2,k3,oe,vs,T,oT,ts',he,hz,hd,h1,hr⟩:=id fl3;unfold PySem.passOn;refine zaq (wpAny_field he hd h1 ?_);rw[zaj (show ¬ ((Value.ref T == Value.none)=true)from by simp)];have fin:wpAny (model X.prog X.w) X.A (setFlight (.ref a) X.env.frame) (fun _ s4=>wpAny (model X.prog X.w) X.A (throw (.ref a):Sem Flow) (SP X pins D) X.xe s4) X.xe { s' with heap:=h3 }:=by rw[hf];refine HandSPX.setFlight_upZ fl3 fun h4 hh4 up4=>wpAny_throw (tk _ _ ?_);exact⟨a,B,sI,pins,σ',H',cls,d,rfl,J,nb,(up.trans up3).trans up4,.inr (.inr (by rw[hs];exact hh4)),na,os,ag,hno rfl⟩
   first
    |exact zaq (za9 (zaq fin))
    |exact zaq fin
 ·cases f with
  |next=>obtain⟨σ',H',J',q⟩:=hsp;exact wpAny_execs_nil ⟨σ',H',J'.ofTry ok,q⟩
  |brk=>obtain⟨σ',H',J',q⟩:=hsp;exact⟨σ',H',J'.ofTry ok,q⟩
  |cont=>obtain⟨σ',H',J',q⟩:=hsp;exact⟨σ',H',J'.ofTry ok,q⟩
  |ret u=>obtain⟨v,σ',H',J',r,q⟩:=hsp;exact⟨v,σ',H',J'.ofTry ok,r,q⟩
end
end L2
namespace PySem.W
open PySem PySem.Spec PySem.Calls PyProof.Rows
theorem yt{K:Frag}{C:Addr}{od:Option Obj}{name:Str}{a g:Value}(hc:(clsIn K C).isSome=true)(ha:findIn K (.ref C) name=some (some a))(hg:specialIn K a "__get__" = some (some g))(ht:takesIn K a=some true):findObj K C od name=some (.bind g a):=by
 cases od with
 |none=>exact findObj_dataN hc ha hg ht
 |some o=>exact findObj_data hc ha hg ht
section
variable {K:Frag} {x D:Addr} {ox:Obj} {od:Option Obj}
theorem Hj{prog:Program}{w:World}{A:Around}{E:Value->Shared->Prop}{Q:Option Value->Shared->Prop}{s:Shared}(C:L2.ExcC K D)(X:K.In s.heap)(I:InstAt s.heap x ox D od)(h:Q (some (.ref D)) { s with toks:=s.toks+1 }):wpAny (model prog w) A (getAttr? (.ref x) "__class__") Q E s:=by
 have hf:findObj K D od "__class__" = some (.bind (.builtin "getset_descriptor.__get__") (.builtin "object.__class__")):=yt (by obtain⟨cd,hc,_⟩:=any_some C.hd;rw[hc];rfl) C.ha C.hn C.ht;obtain⟨hp,g,d,t,os⟩:=s;have L0:=I.type (M:=model prog w);have L1:=looks_findIn (M:=model prog w) X C.hg;have L2:=looks_findIn (M:=model prog w) X C.hk;have L3:=looks_find (M:=model prog w) X I hf;have sub:Looks (model prog w) hp (isInstance (.ref x) (.type "BaseException")) true:=L0.andThen (looks_subIn X C.hs);have e1:(onTheHeap (Value.ref D) && Value.builtin "BaseException.__getattribute__" == Value.builtin "object.__getattribute__")=false:=by rw[show (Value.builtin "BaseException.__getattribute__" == Value.builtin "object.__getattribute__")=false by decide +kernel];rfl
 unfold getAttr? getAttrBy? getAttrBy;refine zaq (wpAny_mkText (zaq (wpAny_attempt (za5 (zaq (L0.at (zaq (L1.at ?_))))))));show wpAny _ _ (if(onTheHeap (Value.ref D) && Value.builtin "BaseException.__getattribute__" == Value.builtin "object.__getattribute__")=true then _ else _) _ _ _;rw[e1,zaj zaP];unfold getAttrByItsOwn hookBefore;refine zaq ?_;rw[zah (show onTheHeap (Value.ref D)=true from rfl)];refine L2.at (zaq (wpAny_attempt (za5 ?_)));unfold callGetattribute;rw[show (false && onTheHeap (Value.builtin "BaseException.__getattribute__"))=false from rfl,zaj zaP];unfold boundAndCalled;rw[PySem.F.excAttr_ValueError.ga.bind (.ref x)];refine zaq (za9 ?_);show wpAny _ _ (call (.builtin "BaseException.__getattribute__") [.ref x,.str "__class__" t]) _ _ _;refine wpAny_call (codeAny_call_builtin PySem.F.excAttr_ValueError.ga.plain PySem.F.entry_bexc_ga ?_);refine @check_slot (model prog w) _ _ ⟨hp,g,d,t+1,os⟩ "BaseException.__getattribute__" "BaseException" "__getattribute__" (.ref x) [.str "__class__" t] [] _ (by decide +kernel) (by decide +kernel) sub (PySem.F.args_bexc_ga (.ref x) (.str "__class__" t)) ?_;unfold Builtin.«object.__getattribute__»;refine zaq (wpAny_of_eq (a:=((Value.ref x:Value),[Value.str "__class__" t])) (by first |rfl |(simp only[slotArgs];rfl)) ?_)
 refine zaq (za9 (zaq (L0.at (zaq (L3.at ?_)))));show wpAny _ _ (holding [Value.builtin "object.__class__"] (call (.builtin "getset_descriptor.__get__") [.builtin "object.__class__",.ref x,.ref D]) >>= ret) _ _ _;refine zaq (za5 (wpAny_call (class_get (s:=⟨hp,g,d,t+1,os⟩) (ox:=ox) (od:=od) X I C.hm ?_)));refine za9 ?_;show wpAny _ _ (handedOut (.ref D)) _ _ _;rw[handedOut_of (v:=.ref D) rfl];first
  |exact za9 (za9 h)
  |exact za9 h
  |exact za9 (zaq (za9 (za9 h)))
theorem xw(C:L2.ExcC K D):KitX K (.ref x) (.ref D) (fun h=>InstAt h x ox D od) where
 ty:=fun _ _ _ I=>I.type
 it:=fun M h X _=>by
  obtain⟨cd,hc,_⟩:=any_some C.hd;unfold clsIn at hc;split at hc
  ·rename_i c' d' cd' sl' ho;intro A' Q' E' s' k q;unfold isType loadHead;exact zaq (wpAny_loadPart (k _ _ (X _ _ ho)) (za9 q))
  ·cases hc
 ne:=fun h tp dd its n sl X htp=>(handS_kitx_exc (x:=x) (ox:=ox) C.hg C.hk C.hs C.hd C.ha C.hn C.ht C.hm).ne h tp dd its n sl X htp
 ca:=fun X I k=>Hj C X I k
end
end PySem.W
namespace L2
open PySem PySem.Spec PyProof.Rows
section
variable {X:Cx} {pins:List (Addr×Obj)} {σ:St} {H:Hp} {s:Shared} {a D:Addr} {d:Option Addr}
theorem KZ(I:Inv X pins σ H s)(e:H a=some (yU (.ref D) d a)):∃ oe:Obj,s.heap.get? a=some oe/\Zc (.ref D) d oe/\∃ vs,oe.data= .fields vs:=(I.hok a _ e).1
def yV(H:Hp)(a D:Addr)(fs:List (Str×V)):Prop:=∃ d,H a=some (yU (.ref D) d a)/\((d=none/\fs=[])\/∃ dd,d=some dd/\H dd=some (.xd fs))
theorem Bo{fs:List (Str×V)}(I:Inv X pins σ H s)(e:yV H a D fs):∃ oe od,PySem.W.InstAt s.heap a oe D od:=by
 obtain⟨d,e1,e2⟩:=e;obtain⟨oe,h1,h2,vs,h3⟩:=KZ I e1;rcases e2 with⟨rfl,_⟩|⟨dd,rfl,e3⟩
 ·exact⟨oe,none,h1,h2.1,by unfold PySem.W.notCls;rw[h3],by rw[h2.2];trivial⟩
 ·obtain⟨mA,hns,_⟩:=I.hok dd _ e3;obtain⟨od,ho,_⟩:=lookIn_ns hns;exact⟨oe,some od,h1,h2.1,by unfold PySem.W.notCls;rw[h3],by rw[h2.2];exact ho⟩
theorem Hl:CallR X (.builtin "isinstance") (fun xs H Q=>∃ (a D:Addr) (fs:List (Str×V)) (c:V) (cv:Value) (b:Bool),ExcC X.K D/\xs=[.ref a,c]/\yV H a D fs/\(∀ u,RelV c u->u=cv)/\PySem.W.kitOne X.K (.ref D) cv=some b/\Q (.bl b) H):=by
 intro pins s σ H xs us Q I r h;obtain⟨a,D,fs,c,cv,b,C,rfl,hx,hcv,e,q⟩:=h;cases r with
 |cons rx rr=>
  cases rr with
  |cons rt rr=>cases rr;cases rx;have ec:=hcv _ rt;subst ec;obtain⟨oe,od,J⟩:=Bo I hx;exact PySem.W.kia_one (PySem.W.xw C) I.kIn J e (fun z=>nomatch z) fun tk=>⟨.bl b,H,I.kept (t':=tk) fun _ _ z=>z,rfl,q⟩
theorem EB:CallR X (.builtin "isinstance") (fun xs H Q=>∃ (a t D:Addr) (fs:List (Str×V)) (ws:List V) (cvs:List Value) (b:Bool),ExcC X.K D/\xs=[.ref a,.ref t]/\yV H a D fs/\SqT X.K H t ws/\(∀ us,Vals ws us->us=cvs)/\PySem.W.kitAny X.K (.ref D) cvs=some b/\Q (.bl b) H):=by
 intro pins s σ H xs us Q I r h;obtain⟨a,t,D,fs,ws,cvs,b,C,rfl,hx,hq,hcv,e,q⟩:=h;cases r with
 |cons rx rr=>
  cases rr with
  |cons rt rr=>cases rr;cases rx;cases rt;obtain⟨its,rv,p,_⟩:=I.tuple hq;have ei:=hcv _ rv;subst ei;obtain⟨oe,od,J⟩:=Bo I hx;obtain⟨o,ho,hc,n,hd⟩:=id p;obtain⟨c,dd,dat,sl⟩:=o;dsimp only at hc hd;subst hc hd;exact PySem.W.kia_tup (PySem.W.xw C) I.kIn J ho e (fun z=>nomatch z) fun tk=>⟨.bl b,H,I.kept (t':=tk) fun _ _ z=>z,rfl,q⟩
end
section
variable {X:Cx} {b:Str} {C0:Addr} {mc:Value} {e:Expr} {es:List Expr} {ta:TA} {p1 p2 pos:Pos}
theorem yW(hg:Gl X b)(hm:X.mg b=some (.ref C0))(rd:PySem.W.readsIn X.K C0 mc=true)(ga:PySem.W.specialIn X.K (.ref C0) "__getattribute__" = some (some (.builtin "type.__getattribute__")))
 (vV:PySem.W.findCls X.K (.ref C0) mc "__init__" = some (.val (.builtin "ValueError.__init__"))) (ha:PA X (e::es) ta) (hdb:(b == ("__debug__" : Str))=false)
 (hbase:attributeBase (.Name b p1) "__init__" X.env (eval (.Name b p1) X.env)=eval (.Name b p1) X.env)
 (hfew:((backTo pos (starEach (e::es) X.env)).all (fun x=>!x.1) && (backToKw pos (keywordEach [] X.env)).all (fun x=>x.1.isSome)
  && decide ((e::es).length+([]:List Keyword).length+(if([]:List Keyword).isEmpty then 0 else 1)<30))=true)
 (hline:(p2.endLine == pos.line)=true)
 (he:starEach (e::es) X.env=(false,eval e X.env)::starEach es X.env) (hpl:(backTo pos (starEach es X.env)).any (·.1)=false) :
 PE X (.Call (.Attribute (.Name b p1) "__init__" p2) (e::es) [] pos) (tVeI X.K ta):=by
 refine⟨fun pins s σ H Q I h=>?_⟩;have hform:methodCallForm ((e::es).length+([]:List Keyword).length) (backTo pos (starEach (e::es) X.env)) (backToKw pos (keywordEach [] X.env))=true:=hfew;have hpos:methodCallPos true (.Name b p1) X.env p2 pos=pure pos:=by unfold methodCallPos;simp[hline]
 rw[arm_eval_Call,hbase];refine zaq (ld_glob I hg hm ?_ hdb);refine zaq (wpAny_standAt ?_);unfold methodCall;rw[hform];refine zaq (za5 (PySem.W.method_cls I.kIn ga (PySem.W.cls_value I.kIn rd vV (by decide +kernel) ?_)));refine zaq (wpAny_of_eq hpos ?_);show wpAny _ _ (callWith pos (Value.builtin "ValueError.__init__") [] (backTo pos (starEach (e::es) X.env)) []) _ _ _;refine PyProof.Rows.callWith_method1 (thn (ha.run pos pins _ σ H _ (I.tok _) h) fun us s1 ⟨vs,H1,I1,r1,a,C,ws,ev,hl,T,ea,q⟩=>?_) he hpl;subst ev;cases r1 with
 | @cons _ u0 _ ur ra rw'=>
   obtain rfl:u0=Value.ref a:=ra;have hlen:ur.length<=sizeLine:=by rw[←zao rw',zap];omega
   exact oinit_ok T I1 ea hlen fun s' J=>⟨.non,H1,J,rfl,q⟩
end
abbrev bx:Str:="self"
def spI(C:Addr)(fs:List Str):Sp:=fun ws H Q _=>ws.length=fs.length+1/\∃ a vs,ws= .ref a::vs/\vs.length=fs.length/\fs≠[]/\fs.length<=800/\H a=some (exo a C none)/\ ∀ dx H',H dx=none->dx≠a->H'=upd (upd H dx (exd dx (fs.zip vs).reverse)) a (exo a C (some dx))->Q .non H'
def rJ(sc:Scope):List Str->List Stmt->Bool
 | [],[]=>true
 |f::fs,.Assign [.Attribute (.Name s _) g _] (.Name y _) _::r=>decide (s=bx) && decide (g=f) && decide (y=f) && (match sc.names.lookup (f:Str)with |some .local=>true |_=>false) && !(f == ("__debug__" : Str)) && !(f == ("__classdict__" : Str)) && rJ sc fs r
 |_,_=>false
def oW(b:Str)(fs:List Str)(sc:Scope):List Stmt->Bool
 | .Expr (.Call (.Attribute (.Name x _) m p2) [.Name s _,.Constant (.str _) _ _] [] p5) _::r=>(p2.endLine == p5.line) && decide (x=b) && decide (m="__init__") && decide (s=bx) && (match sc.names.lookup b with |some .globalImplicit=>true |_=>false) && (match sc.names.lookup bx with |some .local=>true |_=>false) && !(b == ("__debug__" : Str)) && rJ sc fs r
 |_=>false
theorem tS{H:Hp}{a:Addr}{o o':HO}:upd (upd H a o) a o'=upd H a o':=by
 funext b
 by_cases h:b=a
 ·rw[h,upd_same,upd_same]
 ·rw[upd_ne h,upd_ne h,upd_ne h]
theorem yX{H:Hp}{a b:Addr}{o o':HO}(h:a≠b):upd (upd H a o) b o'=upd (upd H b o') a o:=by
 funext c
 by_cases ha:c=a
 ·subst ha;rw[upd_ne h,upd_same,upd_same]
 ·by_cases hb:c=b
  ·subst hb;rw[upd_same,upd_ne ha,upd_same]
  ·rw[upd_ne hb,upd_ne ha,upd_ne ha,upd_ne hb]
section
variable {X:Cx} {C:Addr} {sc:Scope}
theorem qe(T:OexC X.K C)(hs:X.env.scope=sc)(h0:X.N[0]?=some bx)(hv0:Vis X.env.scope bx):∀ (fs:List Str) (r:List Stmt) (n:Nat),(∀ i f,fs[i]?=some f->X.N[n+i]?=some f/\PySem.W.findIn X.K (.ref C) f=some none)->rJ sc fs r=true->
 ∃ t,PSs X r t/\∀ (D:Ends) (σ:St) (H:Hp) (a dx:Addr) (vs:List V) (done:List (Str×V)),σ[0]?=some (some (.ref a))->(∀ i v,vs[i]?=some v->σ[n+i]?=some (some v))->vs.length=fs.length->a≠dx->H a=some (exo a C (some dx))->H dx=some (exd dx done)->done.length+fs.length<=900->D.nx σ (upd H dx (exd dx ((fs.zip vs).reverse++done)))->t D σ H
 | [],[],n,_,_=>⟨tNext,pss_nil,fun D σ H a dx vs done _ _ _ _ _ hd _ q=>by
  have e:upd H dx (exd dx done)=H:=by
   funext c
   by_cases h:c=dx
   ·rw[h,upd_same,hd]
   ·rw[upd_ne h]
  have q:D.nx σ (upd H dx (exd dx done)):=q;rw[e]at q;exact q⟩
 |f::fs,r,n,hN,hb=>by
  unfold rJ at hb;split at hb
  ·contradiction
  ·rename_i f' fs' s ps g pa y py pp r' e1;cases e1;simp only[zaa,zab,zaK]at hb;obtain⟨⟨⟨⟨⟨⟨rfl,rfl⟩,rfl⟩,hl⟩,hd1⟩,hd2⟩,hb⟩:=hb;have hl:sc.names.lookup y=some .local:=by
    split at hl
    ·assumption
    ·cases hl
   obtain⟨k1,k2⟩:=hN 0 y rfl;obtain⟨t,ht,hq⟩:=qe T hs h0 hv0 fs r' (n+1) (fun i f hf=>by have:=hN (i+1) f (by simpa using hf);rw[show n+(i+1)=n+1+i by omega]at this;exact this) hb;have hvf:Vis X.env.scope y:=.inl (by rw[hs];exact hl);refine⟨_,pss_cons (ps_ost (pe_var (i:=0) h0 hv0) (pe_var (i:=n) k1 hvf hd1 hd2)) ht,fun D σ H a dx vs done e0 ev hlen hne ha hd hle q=>?_⟩;match vs,hlen with
   |v::vs,hlen=>
   refine⟨v,ev 0 v rfl,.ref a,e0,a,C,rfl,T,k2,.inr ⟨dx,done,ha,hd,by simp only[zaf]at hle;omega,?_⟩⟩;refine hq D σ _ a dx vs ((y,v)::done) e0 (fun i v hv=>by have:=ev (i+1) v (by simpa using hv);rw[show n+(i+1)=n+1+i by omega]at this;exact this) (by simpa using hlen) hne (by rw[upd_ne hne];exact ha) upd_same (by simp only[zaf]at hle⊢;omega) ?_;rw[tS];have e2:((y::fs).zip (v::vs)).reverse++done=(fs.zip vs).reverse++(y,v)::done:=by simp
   rw[←e2];exact q
  ·cases hb
end
section
variable {P:Program} {w:World} {K:PySem.W.Frag} {mg:Str->Option Value} {base:Heap} {C C0 fI:Addr} {mc:Value} {b x qual:Str} {aE:Stmt} {fd:FuncData} {fs:List Str} {CX:CXT}
theorem Mf(F:Fun K x qual aE fI fd)(S:FnScope (bx::fs) (bx::fs) (defScope aE))(T:OexC K C)(hno:∀ f∈fs,PySem.W.findIn K (.ref C) f=some none)(hne:fs≠[])(hm:mg b=some (.ref C0))(rd:PySem.W.readsIn K C0 mc=true)
 (ga:PySem.W.specialIn K (.ref C0) "__getattribute__" = some (some (.builtin "type.__getattribute__"))) (vV:PySem.W.findCls K (.ref C0) mc "__init__" = some (.val (.builtin "ValueError.__init__"))) (hb:oW b fs (defScope aE) (defBody aE)=true) :
 FnOk P w K mg base CX 1 fI fd (bx::fs) (spI C fs):=by
 obtain⟨oc,od,kV,doc,pm,an,cdv,ct,osl,rfl,lk,hcd⟩:=F.ex;refine fn_of (k:=0) lk hcd S (fun vs H Q E h=>by rw[h.1];rfl) fun A outer s H ws Q E _ hsp=>?_;obtain⟨_,a,vs,rfl,hl,_,h8,ha,q⟩:=hsp;generalize hX:cxOf CX P w K mg base (bx::fs) qual (defScope aE) fI cdv A outer s H E=X;have xK:X.K=K:=by rw[←hX];rfl
 have xm:X.mg=mg:=by rw[←hX];rfl
 have xN:X.N=bx::fs:=by rw[←hX];rfl
 have xs:X.env.scope=defScope aE:=by rw[←hX];rfl
 unfold oW at hb;split at hb
 ·rename_i y p1 m p2 s' p3 msg k4 p4 p5 p6 r hbody;simp only[zaa,zab,zaK]at hb;obtain⟨⟨⟨⟨⟨⟨⟨hline,rfl⟩,rfl⟩,rfl⟩,hgl⟩,hsl⟩,hdb⟩,hr⟩:=hb;have hgl:(defScope aE).names.lookup y=some .globalImplicit:=by
   split at hgl
   ·assumption
   ·cases hgl
  have hsl:(defScope aE).names.lookup bx=some .local:=by
   split at hsl
   ·assumption
   ·cases hsl
  rw[hbody];have hg:Gl X y:=by show X.env.scope.names.lookup y=_;rw[xs];exact hgl
  have h0:X.N[0]?=some bx:=by rw[xN];rfl
  have hv0:Vis X.env.scope bx:=.inl (by rw[xs];exact hsl);have c1:PE X (.Call (.Attribute (.Name y p1) "__init__" p2) [.Name bx p3,.Constant (.str msg) k4 p4] [] p5) _:=yW (mc:=mc) hg (by rw[xm];exact hm) (by rw[xK];exact rd) (by rw[xK];exact ga) (by rw[xK];exact vV) (pa_cons (pe_var (i:=0) h0 hv0) (pa_cons pe_str pa_nil)) hdb rfl rfl hline rfl rfl;obtain⟨f,fs',rfl⟩:=List.exists_cons_of_ne_nil hne;obtain⟨v,vs',rfl⟩:∃ v vs',vs=v::vs':=by
   cases vs with
   |nil=>simp at hl
   |cons v r=>exact⟨v,r,rfl⟩
  unfold rJ at hr;split at hr
  ·contradiction
  ·rename_i f' fs1 s ps g pa y' py pp r' e1;cases e1;simp only[zaa,zab,zaK]at hr;obtain⟨⟨⟨⟨⟨⟨rfl,rfl⟩,rfl⟩,hl1⟩,hd1⟩,hd2⟩,hr⟩:=hr;have hl1:(defScope aE).names.lookup y'=some .local:=by
    split at hl1
    ·assumption
    ·cases hl1
   have hvf:Vis X.env.scope y':=.inl (by rw[xs];exact hl1);obtain⟨t,ht,hq⟩:=qe (X:=X) (sc:=defScope aE) (by rw[xK];exact T) xs h0 hv0 fs' r' 2 (fun i f hf=>by
    refine⟨?_,?_⟩
    ·rw[xN,show 2+i=i+1+1 by omega];simpa using hf
    ·rw[xK];exact hno f (zae _ (zag hf))) hr
   refine⟨_,pss_cons (ps_expr c1) (pss_cons (ps_ost (pe_var (i:=0) h0 hv0) (pe_var (i:=1) (by rw[xN];rfl) hvf hd1 hd2)) ht),?_⟩;have hst:∀ i u,(V.ref a::v::vs')[i]?=some u->(start (bx::y'::fs') (V.ref a::v::vs'))[i]?=some (some u):=fun i u hu=>by unfold start;rw[zaA (by rw[zaw];exact(zak.mp hu).1),zat,hu];rfl
   refine⟨.ref a,hst 0 _ rfl,a,C,[.str msg],rfl,by simp,by rw[xK];exact T,ha,?_⟩;refine⟨v,hst 1 _ rfl,.ref a,hst 0 _ rfl,a,C,rfl,by rw[xK];exact T,by rw[xK];exact hno y' zac,.inl ⟨ha,fun dx hdx hdne=>?_⟩⟩;refine hq _ _ _ a dx vs' [(y',v)] (hst 0 _ rfl) (fun i u hu=>hst (2+i) u (by rw[show 2+i=i+1+1 by omega];simpa using hu)) (by simpa using hl) (Ne.symm hdne) upd_same (by rw[upd_ne hdne,upd_same]) (by simp only[zaf,zbx]at h8⊢;omega) ?_;refine q dx _ hdx hdne ?_;rw[yX (Ne.symm hdne),tS];have e2:((y'::fs').zip (v::vs')).reverse=(fs'.zip vs').reverse++[(y',v)]:=by simp
   rw[e2]
  ·cases hr
 ·cases hb
end
theorem Bp{B:Heap}{l:List Env}{a:Addr}{Z Z':Obj->Prop}{L:Addr}{h:Heap}(f:∀ o,Z o->Z' o)(x:Sky B l a Z L h):Sky B l a Z' L h:=by
 rcases x with⟨h1,h2,h3,oe,vs,h4,h5,h6,h7⟩|x |⟨h1,h2,h3,h4⟩
 ·exact .inl ⟨h1,h2,h3,oe,vs,h4,f _ h5,h6,h7⟩
 ·exact .inr (.inl (L2H.flyingZ_imp f x))
 ·exact .inr (.inr ⟨h1,h2,h3,L2H.tracedZ_imp f h4⟩)
theorem Yd{X:Cx}{W:WX}{u:Value}{s':Shared}(h:L2N.XE X W u s'):XE X W u s':=by obtain⟨a,B,sI,pins,σ,H,cls,d,h1,h2,h3,h4,h5,h6,h7,h8,h9⟩:=h;exact⟨a,B,sI,pins,σ,H,cls,d,h1,h2,h3,h4,Bp (fun _ z=>⟨z.1,z.2.1⟩) h5,h6,h7,h8,h9⟩
theorem Bq{X:Cx}{W:WX}(h:Takes X W):L2N.Takes X W:=fun u s' x=>h u s' (Yd x)
def pX:Bool->Cx->WX->Prop
 |true,X,W=>Takes X W
 |false,X,W=>L2N.Takes X W
theorem pX.n{b:Bool}{X:Cx}{W:WX}(h:pX b X W):L2N.Takes X W:=by
 cases b
 ·exact h
 ·exact Bq h
def gj(b:Bool)(P:Program)(w:World):CXT:=if b=true then L2.CX P w else L2N.CX P w
theorem pX.at{b c:Bool}{X:Cx}{W:WX}(h:pX b X W)(hc:c=true->b=true)(σ:St):PassesAt (gj c X.prog X.w) X σ (WE W σ):=by
 cases c
 ·exact L2N.passAt h.n σ
 ·have:=hc rfl;subst this;exact passAt h σ
theorem gj.no{b:Bool}{P:Program}{w:World}{outer:List Env}{H:Hp}{s s':Shared}{u:Value}(h:gj b P w outer H s (fun _ _ _=>False) u s'):False:=by
 cases b
 ·obtain⟨_,_,_,_,_,_,_,_,_,_,_,_,z⟩:=h;exact z
 ·obtain⟨_,_,_,_,_,_,_,_,_,_,_,_,z⟩:=h;exact z
theorem pX.of{b:Bool}{X:Cx}{E:XK}(hs:X.stack=X.env::X.outer)(hf:X.env.frame=some X.env.locals)(hx:X.ex=[]){E₁:Value->Shared->Prop}
 (hxe:X.xe=fun e s'=>wpAny (model X.prog X.w) X.A (leaving X.env e) (fun _ s''=>gj b X.prog X.w X.outer X.H_0 X.s_0 E e s'') E₁ s'):pX b X (fun cls d _ H=>E cls d H):=by
 cases b
 ·exact L2N.takes_of hs hf hx hxe
 ·exact takes_of hs hf hx hxe
theorem sR{h h' B:Heap}(k:∀ b o,h.get? b=some o->(∀ vs,o.data≠.fields vs)->∃ o',h'.get? b=some o'/\∀ vs,o'.data≠.fields vs):∀ {l:List Env},h.FunFrames B l->h'.FunFrames B l
 | [],_=>trivial
 |e::l,f=>by unfold Heap.FunFrames at f⊢;obtain⟨f1,⟨L,o,f2,f3,f4,f5⟩,f6⟩:=f;obtain⟨o',g1,g2⟩:=k L o f4 f5;exact⟨f1,⟨L,o',f2,f3,g1,g2⟩,sR k f6⟩
theorem EC{h h' B:Heap}{env:Env}{outer:List Env}{a L:Addr}{Z:Obj->Prop}(x:HandSPX.HeldZ B (env::outer) a Z L h)(hf:env.frame=some L)(sb:h.SameBut L h')(hn:∃ o,h'.get? L=some o/\∀ vs,o.data≠.fields vs):HandSPX.HeldZ B (env::outer) a Z L h':=by
 obtain⟨h1,h2,h3,oe,vs,T,oT,ts,t1,t2,t3,t4,t5,t6,t7,t8,t9⟩:=x;obtain⟨bn,o0,g1,g2⟩:=h3.mem (b:=L) (zbd.mpr ⟨env,zac,hf⟩);have na:a≠L:=fun e=>by rw[e,g1]at t1;cases t1;exact g2 _ t3
 have nT:T≠L:=fun e=>by rw[e,g1]at t7;cases t7;exact g2 _ t8
 refine⟨fun b o hb=>?_,h2,sR (fun b o hb ho=>?_) h3,oe,vs,T,oT,ts,by rw[sb.2 a na];exact t1,t2,t3,t4,t5,t6,by rw[sb.2 T nT];exact t7,t8,t9⟩
 ·have:b≠L:=fun e=>by rw[e,bn]at hb;cases hb
  rw[sb.2 b this];exact h1 b o hb
 ·by_cases e:b=L
  ·subst e;exact hn
  ·exact⟨o,by rw[sb.2 b e];exact hb,ho⟩
theorem note_held{s:Shared}{B:Heap}{M:Model}{A:Around}{E:Value->Shared->Prop}{env:Env}{outer:List Env}{L a:Addr}{Z:Obj->Prop}{Q:Unit->Shared->Prop}(hz:HandSPX.Steady Z)(hA:A.frames=some (env::outer))(hf:env.frame=some L)(x:Sky B (env::outer) a Z L s.heap)
 (q:∀ h',HandSPX.HeldZ B (env::outer) a Z L h'->s.heap.UpToSlots h'->Q () { s with heap:=h' }):wpAny M A (noteFrame (.ref a) env) Q E s:=by
 rcases x with⟨h1,h2,h3,oe,vs,h4,h5,h6,h7⟩|x |x
 ·exact HandSPX.look_newZ hz hA h3 hf h4 h1 h2 h6 h7 h5 fun h' y u=>q h' y u
 ·exact HandSPX.looks_onZ hz hA hf x fun h' y u=>q h' y u
 ·exact HandSPX.againZ hf x.2.2.2 (q s.heap x fun b o hb _=>⟨o.slots,hb⟩)
section
variable {X:Cx} {pins:List (Addr×Obj)} {σ:St} {H:Hp} {s:Shared}
theorem ED{α:Type}:∀ {l:List α} {i j:Nat} {x:α},l.Nodup->l[i]?=some x->l[j]?=some x->i=j
 | [],i,j,x,_,h,_=>by simp at h
 |a::l,0,0,x,_,_,_=>rfl
 |a::l,0,j+1,x,nd,h1,h2=>by simp only[zbe,zb2]at h1;rw[zaI]at h2;subst h1;exact absurd (zag h2) (zby.mp nd).1
 |a::l,i+1,0,x,nd,h1,h2=>by simp only[zbe,zb2]at h2;rw[zaI]at h1;subst h2;exact absurd (zag h1) (zby.mp nd).1
 |a::l,i+1,j+1,x,nd,h1,h2=>by rw[zaI]at h1 h2;rw[ED (zby.mp nd).2 h1 h2]
theorem Ho{i:Nat}{n:Str}(I:Inv X pins σ H s)(nd:X.N.Nodup)(hi:X.N[i]?=some n){m:Str->Option Value}(hm:s.heap.Ns X.env.locals m){h':Heap}{v:Option Value}(ns:h'.Ns X.env.locals fun x=>if x=n then v else m x)(sb:s.heap.SameBut X.env.locals h'):Inv X pins (σ.set i none) H { s with heap:=h' } where
 ok:=I.ok
 os:=I.os
 bare:=I.bare
 base:={
  keep:=fun b o h1 h2 h3 h4=>by have:=zbk h1;have ne:b≠X.env.locals:=zbC (zaU this I.ok.above);show h'.get? b=_;rw[sb.2 b ne];exact I.base.keep b o h1 h2 h3 h4
  slot:=fun b o h1 h2 h3 h4=>by have:=zbk h1;have ne:b≠X.env.locals:=zbC (zaU this I.ok.above);obtain⟨sl,h5⟩:=I.base.slot b o h1 h2 h3 h4;exact⟨sl,by show h'.get? b=_;rw[sb.2 b ne];exact h5⟩
  free:=I.base.free
  there:=fun b o h1 h2=>by have:=zbk h1;have ne:b≠X.env.locals:=zbC (zaU this I.ok.above);obtain⟨o',h5⟩:=I.base.there b o h1 h2;exact⟨o',by show h'.get? b=_;rw[sb.2 b ne];exact h5⟩
  tups:=I.base.tups
  frzs:=I.base.frzs
  tbls:=I.base.tbls }
 loc:=by
  obtain⟨m0,n0,lk⟩:=I.loc;refine⟨_,ns,fun j x w hj hw hv=>?_⟩;have hji:i≠j:=fun e=>by
   subst e;by_cases hl:i<σ.length
   ·rw[zan hl]at hw;cases hw
   ·rw[zaJ (by simpa using hl)]at hw;cases hw
  rw[zar hji]at hw;obtain⟨u,r,l⟩:=lk j x w hj hw hv;have hx:x≠n:=fun e=>by subst e;exact hji (ED nd hi hj)
  refine⟨u,r,?_⟩;rcases l with⟨k1,k2⟩|⟨k1,c,k2,k3⟩
  ·refine .inl ⟨k1,?_⟩;show (if x=n then v else m x)=some u;rw[zaj hx,←n0.agree hm x];exact k2
  ·exact .inr ⟨k1,c,k2,k3.sameBut sb (I.cne x c k2)⟩
 cell:=fun x c h=>by obtain⟨w,hw⟩:=I.cell x c h;exact⟨w,hw.sameBut sb (I.cne x c h)⟩
 free:=I.free
 freeC:=I.freeC
 pin:=fun p hp=>by obtain⟨h1,h2,h3,h4,h5⟩:=I.pin p hp;exact⟨by show h'.get? p.1=_;rw[sb.2 _ h3];exact h1,h2,h3,h4,h5⟩
 hok:=fun a o ha=>(I.hok a o ha).stay (fun b u hb hu=>by
  have ne:b≠X.env.locals:=fun e=>by
   have hf:=I.free;rw[←e]at hf;rcases hb with rfl |hb
   ·rw[ha]at hf;cases hf
   ·rw[hb]at hf;cases hf
  rw[sb.2 b ne];exact hu) (fun _ h=>h) (fun _ _ h=>h)
 len:=by rw[zbq];exact I.len
end
abbrev gX(X:Cx)(a:Addr)(pn:List (Addr×Obj))(xe:Value->Shared->Prop):Cx:={ X with A:=X.A.mark (some (.ref a)),calm:=false,pn:=pn,xe:=xe }
theorem K0{X:Cx}{a:Addr}{pn pn':List (Addr×Obj)}{σ:St}{H:Hp}{s:Shared}{xe:Value->Shared->Prop}(I:Inv (X.suite a pn) pn' σ H s):Inv (gX X a pn xe) pn' σ H s where
 ok:={ mod:=I.ok.mod,kind:=I.ok.kind,glob:=I.ok.glob,blt:=I.ok.blt,above:=I.ok.above,inj:=I.ok.inj,has:=I.ok.has,cab:=I.ok.cab,hd:=(fun h=>by cases h),frames:=I.ok.frames,stk:=I.ok.stk,exf:=I.ok.exf,bs:=I.ok.bs,bsz:=I.ok.bsz,noex:=I.ok.noex,exfs:=I.ok.exfs,funs:=I.ok.funs,frf:=I.ok.frf }
 os:=I.os
 bare:=I.bare
 base:=I.base
 loc:=I.loc
 cell:=I.cell
 free:=I.free
 freeC:=I.freeC
 pin:=I.pin
 hok:=I.hok
 len:=I.len
theorem Bs{X:Cx}{a:Addr}{pn pn':List (Addr×Obj)}{σ:St}{H:Hp}{s:Shared}{xe:Value->Shared->Prop}(I:Inv (gX X a pn xe) pn' σ H s):Inv (X.suite a pn) pn' σ H s where
 ok:={ mod:=I.ok.mod,kind:=I.ok.kind,glob:=I.ok.glob,blt:=I.ok.blt,above:=I.ok.above,inj:=I.ok.inj,has:=I.ok.has,cab:=I.ok.cab,hd:=(fun h=>by cases h),frames:=I.ok.frames,stk:=I.ok.stk,exf:=I.ok.exf,bs:=I.ok.bs,bsz:=I.ok.bsz,noex:=I.ok.noex,exfs:=I.ok.exfs,funs:=I.ok.funs,frf:=I.ok.frf }
 os:=I.os
 bare:=I.bare
 base:=I.base
 loc:=I.loc
 cell:=I.cell
 free:=I.free
 freeC:=I.freeC
 pin:=I.pin
 hok:=I.hok
 len:=I.len
theorem CA{s:Shared}{B:Heap}{M:Model}{A:Around}{E:Value->Shared->Prop}{env:Env}{outer:List Env}{L a:Addr}{Z:Obj->Prop}{Q:Unit->Shared->Prop}(hz:PXN.Steady1 Z)(hA:A.frames=some (env::outer))(hf:env.frame=some L)(x:Sky B (env::outer) a Z L s.heap)
 (q:∀ h',HandSPX.HeldZ B (env::outer) a Z L h'->s.heap.UpToSlots h'->Q () { s with heap:=h' }):wpAny M A (noteFrame (.ref a) env) Q E s:=by
 rcases x with⟨h1,h2,h3,oe,vs,h4,h5,h6,h7⟩|x |x
 ·exact PXN.look_newZ hz hA h3 hf h4 h1 h2 h6 h7 h5 fun h' y u=>q h' y u
 ·exact PXN.looks_onZ hz hA hf x fun h' y u=>q h' y u
 ·exact HandSPX.againZ hf x.2.2.2 (q s.heap x fun b o hb _=>⟨o.slots,hb⟩)
def K2(K:PySem.W.Frag)(c:Value)(i:Nat)(ts:Addr->Value->Option Addr->TS)(Wout:WX):WX:=fun cls d σ H=>∃ b,PySem.W.exmOne K cls c=some b/\(b=true->∀ a,H a=none->ts a cls d { nx:=fun _ _=>False,rt:=fun _ _=>False,bk:=fun _ _=>False,ct:=fun _ _=>False } (σ.set i (some (.ref a))) H)/\(b=false->Wout cls d σ H)
section
variable {X:Cx} {x n:Str} {c:Value} {i:Nat} {body suite:List Stmt} {b₀:Stmt} {np pos pos':Pos} {tb:WX->TS} {ts:Addr->Value->Option Addr->TS} {Wout:WX}
theorem CB(hx:X.ex=[])(hs:X.stack=X.env::X.outer)(hf:X.env.frame=some X.env.locals)(hN:X.N.Nodup)(hi:X.N[i]?=some n)(hln:X.env.kindOf n=some .local)(hc:Names X x c)(tk:Takes X Wout)
 (hb:∀ (W:WX) (pn:List (Addr×Obj)) (xe:Value->Shared->Prop),L2N.Takes (X.tr pn xe) W->PassesOwn (model X.prog X.w) X.A X.env xe->PSs (X.tr pn xe) body (tb W))
 (hsu:∀ (a:Addr) (oe:Obj) (cls:Value) (d:Option Addr) (pn:List (Addr×Obj)) (xe:Value->Shared->Prop),L2N.Zn cls d oe->(∃ vs,oe.data= .fields vs)->Takes (gX X a ((a,oe)::pn) xe) (fun cls d σ H=>Wout cls d (σ.set i none) H)->L2H.HotC (gX X a ((a,oe)::pn) xe)->PSs (gX X a ((a,oe)::pn) xe) (b₀::suite) (ts a cls d)) :
 PS X (.Try body [.ExceptHandler (some (.Name x np)) (some n) (b₀::suite) pos'] [] [] pos) (fun D σ H=>tb (K2 X.K c i ts Wout) D σ H):=by
 refine⟨fun pins s σ H D I h=>?_⟩;have ok:=I.ok;have hfr:X.A.frames=some (X.env::X.outer):=by rw[ok.frames,hs]
 have hloc:Loc X.env.scope n:=.inl hln;refine wpAny_Try_except ?_;refine zbV ((hb (K2 X.K c i ts Wout) (X.pn++pins) (fun e s₁=>wpAny (model X.prog X.w) X.A (noteFrame e X.env) (fun _ s₂=>wpAny (model X.prog X.w) X.A (setFlight e none) (fun _ s₃=>wpAny (model X.prog X.w) X.A (handleBy e X.env [.ExceptHandler (some (.Name x np)) (some n) (b₀::suite) pos']) (SP X pins D) X.xe s₃) X.xe s₂) X.xe s₁) (fun u s' xx=>?_) PassesOwn.looking).run [] s σ H D (I.toTry _) h) (fun f s1 hsp=>?_) (fun e s1 he=>he)
 ·obtain⟨a,B,sI,pins',σ',H',cls,d,rfl,J',nb,up,sky,na,os,ag,b,hb1,hyes,hno⟩:=xx;have J:Inv X pins σ' H' sI:=J'.ofTry ok;have sky':Sky B (X.env::X.outer) a (L2N.Zn cls d) X.env.locals s'.heap:=by rw[←hs];exact sky
  show wpAny (model X.prog X.w) X.A (noteFrame (.ref a) X.env) _ _ _;refine CA L2N.Zn.steady hfr hf sky' fun h2 he2 up2=>?_;refine HandSPX.landsZ he2 fun h3 fl3 up3'=>?_;have up3:s'.heap.UpToSlots h3:=up2.trans up3';have J3:Inv X pins σ' H' { s' with heap:=h3 }:=J.landed nb fl3.1 (up.trans up3) os ag;obtain⟨oe3,vs3,he3,hz3,hd3⟩:=fl3.there;have nfr:a∉frs (X.env::X.outer):=fun hm=>by obtain⟨_,o',e',hnf⟩:=fl3.2.2.1.mem hm;rw[he3]at e';cases e';exact hnf _ hd3
  have hsI:sI.heap.get? a=none:=by
   cases q:sI.heap.get? a with
   |none=>rfl
   |some o=>have:=nb a o q (by rw[hs];exact nfr);rw[fl3.2.1]at this;cases this
  have nL:a≠X.env.locals:=fun z=>nfr (zbd.mpr ⟨X.env,zac,by rw[hf,z]⟩);have nF:a∉X.fs:=fun hm=>by obtain⟨e,he,q⟩:=zbd.mp hm;exact nfr (zbd.mpr ⟨e,zae _ he,q⟩)
  have S3:=J3.suite he3 hd3 na nL nF;refine wpAny_handleBy_cons (codeAny_handlers_test ?_) (by intro q;cases q);have LT:PySem.W.Looks (model X.prog X.w) h3 (typeOf (.ref a)) cls:=fun A Q E s k q=>wpAny_typeOf_ref (k _ _ he3) (by rw[hz3.1];exact q);have LM:=PySem.W.exm_one (M:=model X.prog X.w) (J3.kIn) LT hb1;have test:∀ {Q:Value->Shared->Prop} {E:Value->Shared->Prop},Q c { s' with heap:=h3 }->wpAny (model X.prog X.w) (X.A.mark (some (.ref a))) (eval (.Name x np) X.env) Q E { s' with heap:=h3 }:=fun {Q E} q=>by
   obtain⟨hg,hdbg,hm |⟨hm,hv,hnn⟩⟩:=hc
   ·exact ld_glob (X:=X.suite a ((a,oe3)::(X.pn++pins))) S3 hg hm q hdbg
   ·exact ld_blt (X:=X.suite a ((a,oe3)::(X.pn++pins))) S3 hg hm hv q hnn hdbg
  refine test (LM.here ?_);cases b with
  |true=>
   refine codeAny_handlers_suite_as ?_;refine HandSPX.lands_againZ fl3 fun h4 fl4 up4=>?_;have J4:Inv X pins σ' H' { s' with heap:=h4 }:=J.landed nb fl4.1 ((up.trans up3).trans up4) os ag;obtain⟨oe4,vs4,he4,hz4,hd4⟩:=fl4.there;have S4:=J4.suite he4 hd4 na nL nF;refine store_ok (X:=X.suite a ((a,oe4)::(X.pn++pins))) (v:=.ref a) S4 hN hi hloc rfl (fun s5 S5=>?_) (.inr hln);have hot:∀ xe,L2H.HotC (gX X a ((a,oe4)::(X.pn++pins)) xe):=fun xe=>⟨(a,oe4),⟨rfl,vs4,hd4,hz4.2.2 vs4 hd4⟩,zac⟩;refine zbV ((hsu a oe4 cls d (X.pn++pins) _ hz4 ⟨_,hd4⟩ (fun u s6 hxe=>?_) (hot _)).run [] s5 _ H' _ (K0 S5) (hyes rfl a na)) (fun f s6 hsp=>?_) (fun e s6 z=>z)
   ·obtain⟨a2,B2,sI2,pins2,σ2,H2,cls2,d2,rfl,Y2,nb2,u2,sk2,na2,os2,ag2,w2⟩:=hxe;have sk2:Sky B2 (X.env::X.outer) a2 (Zc cls2 d2) X.env.locals s6.heap:=by rw[←hs];exact sk2
    have J2:Inv X pins σ2 H2 sI2:=(Bs Y2).unsuite ok;have nb2:∀ (b:Addr) (o:Obj),sI2.heap.get? b=some o->b∉frs X.stack->B2.get? b=some o:=nb2;show wpAny (model X.prog X.w) (X.A.mark (some (.ref a))) (noteFrame (.ref a2) X.env) _ _ s6;refine note_held Zc.steady hfr hf sk2 fun h7 hh7 up7=>?_;have J7:Inv X pins σ2 H2 { s6 with heap:=h7 }:=J2.landed nb2 hh7.1 (u2.trans up7) os2 ag2;obtain⟨m7,n7,_⟩:=J7.loc;obtain⟨mI,nI,_⟩:=J2.loc;refine wpAny_nameGoes_keeps hln n7 (by rw[ok.kind];rfl) fun h8 v ns8 sb8=>?_;obtain⟨oL,es,ep,g1,g2,g3,g4⟩:=id ns8;have hh8:=EC hh7 hf sb8 ⟨oL,g1,fun vs=>by rw[g2];intro z;cases z⟩;have frd:∀ o:Obj,o.data= .dict es ep->o.isFreed=false:=fun o e=>by obtain⟨c1,d1,da,sl1⟩:=o;have e:da= .dict es ep:=e;subst e;rfl
    have fin:∀ h10 tk',HandSPX.HeldZ B2 (X.env::X.outer) a2 (Zc cls2 d2) X.env.locals h10->h8.UpToSlots h10->X.xe (.ref a2) { heap:=h10,gens:=s6.gens,drawn:=s6.drawn,toks:=tk',os:=s6.os }:=fun h10 tk' hh10 up10=>by
     obtain⟨oI,eI,pI,i1,i2,i3,i4⟩:=id nI;have hv1:(sI2.heap.update X.env.locals fun _=>oL).get? X.env.locals=some oL:=Heap.get?_update_self _ i1 (frd oL g2);have sbv:sI2.heap.SameBut X.env.locals (sI2.heap.update X.env.locals fun _=>oL):=⟨by unfold Heap.update;simp,fun b hb=>Heap.get?_update_ne _ _ _ _ hb⟩;obtain⟨sl,k1⟩:=(u2.trans up7) _ _ i1 (fun vs=>by rw[i2];intro z;cases z);have nI7:h7.Ns X.env.locals mI:=⟨_,eI,pI,k1,i2,i3,i4⟩;have nsv:(sI2.heap.update X.env.locals fun _=>oL).Ns X.env.locals fun x=>if x=n then v else mI x:=⟨oL,es,ep,hv1,g2,g3,fun x=>by rw[g4 x];show (if x=n then v else m7 x)=if x=n then v else mI x;rw[n7.agree nI7 x]⟩;have Iv:=Ho J2 hN hi nI nsv sbv;refine tk _ _ ⟨a2,B2,_,pins,_,H2,cls2,d2,rfl,Iv,fun b o hb hnf=>?_,fun b o hb hnf=>?_,.inr (.inr (by rw[hs];exact hh10)),na2,os2,ag2,w2⟩
     ·have ne:b≠X.env.locals:=fun e=>hnf (by rw[hs,e];exact zbd.mpr ⟨X.env,zac,hf⟩);have hb:(sI2.heap.update X.env.locals fun _=>oL).get? b=some o:=hb;rw[sbv.2 b ne]at hb;exact nb2 b o hb hnf
     ·have hb:(sI2.heap.update X.env.locals fun _=>oL).get? b=some o:=hb;by_cases e:b=X.env.locals
      ·subst e;rw[hv1]at hb;cases hb;exact up10 _ _ g1 hnf
      ·rw[sbv.2 b e]at hb;obtain⟨sl1,q1⟩:=(u2.trans up7) b o hb hnf;have q2:h8.get? b=some ⟨o.cls,o.dict,o.data,sl1⟩:=by rw[sb8.2 b e];exact q1
       obtain⟨sl2,q3⟩:=up10 b _ q2 hnf;exact⟨sl2,q3⟩
    obtain⟨k1,k2,k3,oe,vs,T,oT,ts',he,hz,hd,h1,hr⟩:=id hh8;unfold PySem.passOn;refine zaq (wpAny_field he hd h1 ?_);rw[zaj (show ¬ ((Value.ref T == Value.none)=true)from by simp)];first
     |refine zaq (za9 (zaq ?_))
     |refine zaq ?_
    rw[hf];refine HandSPX.setFlight_onZ hh8 fun h9 hh9 up9=>wpAny_throw ?_;show wpAny _ _ (noteFrame (.ref a2) X.env) _ _ _;refine HandSPX.againZ hf hh9.2.2.2 ?_;show cameBackBy (model X.prog X.w) X.A X.env X.xe (.ref a2) _;obtain⟨k1,k2,k3,oe,vs,T,oT,ts',he,hz,hd,h1,hr⟩:=id hh9;unfold PySem.cameBackBy;refine zaq (wpAny_field he hd h1 ?_);rw[zaj (show ¬ ((Value.ref T == Value.none)=true)from by simp)];first
     |refine zaq (za9 ?_)
     |skip
    rw[hf];exact HandSPX.setFlight_onZ hh9 fun h10 hh10 up10=>fin h10 _ hh10 (up9.trans up10)
   ·cases f with
    |next=>obtain⟨_,_,_,q6⟩:=hsp;exact q6.elim
    |brk=>obtain⟨_,_,_,q6⟩:=hsp;exact q6.elim
    |cont=>obtain⟨_,_,_,q6⟩:=hsp;exact q6.elim
    |ret u=>obtain⟨_,_,_,_,_,q6⟩:=hsp;exact q6.elim
  |false=>
   show wpAny _ X.A (handleBy (.ref a) X.env []) _ _ _;refine wpAny_handleBy_nil ?_;obtain⟨k1,k2,k3,oe,vs,T,oT,ts',he,hz,hd,h1,hr⟩:=id fl3;unfold PySem.passOn;refine zaq (wpAny_field he hd h1 ?_);rw[zaj (show ¬ ((Value.ref T == Value.none)=true)from by simp)];have fin:wpAny (model X.prog X.w) X.A (setFlight (.ref a) X.env.frame) (fun _ s4=>wpAny (model X.prog X.w) X.A (throw (.ref a):Sem Flow) (SP X pins D) X.xe s4) X.xe { s' with heap:=h3 }:=by rw[hf];refine HandSPX.setFlight_upZ fl3 fun h4 hh4 up4=>wpAny_throw (tk _ _ ?_);exact⟨a,B,sI,pins,σ',H',cls,d,rfl,J,nb,(up.trans up3).trans up4,Bp (Z:=L2N.Zn cls d) (Z':=Zc cls d) (fun _ z=>⟨z.1,z.2.1⟩) (.inr (.inr (by rw[hs];exact hh4))),na,os,ag,hno rfl⟩
   first
    |exact zaq (za9 (zaq fin))
    |exact zaq fin
 ·cases f with
  |next=>obtain⟨σ',H',J',q⟩:=hsp;exact wpAny_execs_nil ⟨σ',H',J'.ofTry ok,q⟩
  |brk=>obtain⟨σ',H',J',q⟩:=hsp;exact⟨σ',H',J'.ofTry ok,q⟩
  |cont=>obtain⟨σ',H',J',q⟩:=hsp;exact⟨σ',H',J'.ofTry ok,q⟩
  |ret u=>obtain⟨v,σ',H',J',r,q⟩:=hsp;exact⟨v,σ',H',J'.ofTry ok,r,q⟩
end
section
variable {P:Program} {w:World} {K:PySem.W.Frag} {mg:Str->Option Value} {base:Heap} {C C0 fI:Addr} {mc:Value} {b x qual:Str} {aE:Stmt} {fd:FuncData} {fs:List Str} {CX:CXT}
theorem EE{X:Cx}{a:Addr}{vs:List V}{H:Hp}{Q:VK}(xK:X.K=K)(xm:X.mg=mg)(xN:X.N=bx::fs)(xs:X.env.scope=defScope aE)(T:OexC K C)(hno:∀ f∈fs,PySem.W.findIn K (.ref C) f=some none)(hne:fs≠[])(hm:mg b=some (.ref C0))(rd:PySem.W.readsIn K C0 mc=true)
 (ga:PySem.W.specialIn K (.ref C0) "__getattribute__" = some (some (.builtin "type.__getattribute__"))) (vV:PySem.W.findCls K (.ref C0) mc "__init__" = some (.val (.builtin "ValueError.__init__"))) (hb:oW b fs (defScope aE) (defBody aE)=true)
 (hl:vs.length=fs.length) (h8:fs.length<=800) (ha:H a=some (exo a C none)) (q:∀ dx H',H dx=none->dx≠a->H'=upd (upd H dx (exd dx (fs.zip vs).reverse)) a (exo a C (some dx))->Q .non H') :
 ∃ t,PSs X (defBody aE) t/\t { nx:=fun _ H'=>Q .non H',rt:=Q } (start (bx::fs) (.ref a::vs)) H:=by
 unfold oW at hb;split at hb
 ·rename_i y p1 m p2 s' p3 msg k4 p4 p5 p6 r hbody;simp only[zaa,zab,zaK]at hb;obtain⟨⟨⟨⟨⟨⟨⟨hline,rfl⟩,rfl⟩,rfl⟩,hgl⟩,hsl⟩,hdb⟩,hr⟩:=hb;have hgl:(defScope aE).names.lookup y=some .globalImplicit:=by
   split at hgl
   ·assumption
   ·cases hgl
  have hsl:(defScope aE).names.lookup bx=some .local:=by
   split at hsl
   ·assumption
   ·cases hsl
  rw[hbody];have hg:Gl X y:=by show X.env.scope.names.lookup y=_;rw[xs];exact hgl
  have h0:X.N[0]?=some bx:=by rw[xN];rfl
  have hv0:Vis X.env.scope bx:=.inl (by rw[xs];exact hsl);have c1:PE X (.Call (.Attribute (.Name y p1) "__init__" p2) [.Name bx p3,.Constant (.str msg) k4 p4] [] p5) _:=yW (mc:=mc) hg (by rw[xm];exact hm) (by rw[xK];exact rd) (by rw[xK];exact ga) (by rw[xK];exact vV) (pa_cons (pe_var (i:=0) h0 hv0) (pa_cons pe_str pa_nil)) hdb rfl rfl hline rfl rfl;obtain⟨f,fs',rfl⟩:=List.exists_cons_of_ne_nil hne;obtain⟨v,vs',rfl⟩:∃ v vs',vs=v::vs':=by
   cases vs with
   |nil=>simp at hl
   |cons v r=>exact⟨v,r,rfl⟩
  unfold rJ at hr;split at hr
  ·contradiction
  ·rename_i f' fs1 s ps g pa y' py pp r' e1;cases e1;simp only[zaa,zab,zaK]at hr;obtain⟨⟨⟨⟨⟨⟨rfl,rfl⟩,rfl⟩,hl1⟩,hd1⟩,hd2⟩,hr⟩:=hr;have hl1:(defScope aE).names.lookup y'=some .local:=by
    split at hl1
    ·assumption
    ·cases hl1
   have hvf:Vis X.env.scope y':=.inl (by rw[xs];exact hl1);obtain⟨t,ht,hq⟩:=qe (X:=X) (sc:=defScope aE) (by rw[xK];exact T) xs h0 hv0 fs' r' 2 (fun i f hf=>by
    refine⟨?_,?_⟩
    ·rw[xN,show 2+i=i+1+1 by omega];simpa using hf
    ·rw[xK];exact hno f (zae _ (zag hf))) hr
   refine⟨_,pss_cons (ps_expr c1) (pss_cons (ps_ost (pe_var (i:=0) h0 hv0) (pe_var (i:=1) (by rw[xN];rfl) hvf hd1 hd2)) ht),?_⟩;have hst:∀ i u,(V.ref a::v::vs')[i]?=some u->(start (bx::y'::fs') (V.ref a::v::vs'))[i]?=some (some u):=fun i u hu=>by unfold start;rw[zaA (by rw[zaw];exact(zak.mp hu).1),zat,hu];rfl
   refine⟨.ref a,hst 0 _ rfl,a,C,[.str msg],rfl,by simp,by rw[xK];exact T,ha,?_⟩;refine⟨v,hst 1 _ rfl,.ref a,hst 0 _ rfl,a,C,rfl,by rw[xK];exact T,by rw[xK];exact hno y' zac,.inl ⟨ha,fun dx hdx hdne=>?_⟩⟩;refine hq _ _ _ a dx vs' [(y',v)] (hst 0 _ rfl) (fun i u hu=>hst (2+i) u (by rw[show 2+i=i+1+1 by omega];simpa using hu)) (by simpa using hl) (Ne.symm hdne) upd_same (by rw[upd_ne hdne,upd_same]) (by simp only[zaf,zbx]at h8⊢;omega) ?_;refine q dx _ hdx hdne ?_;rw[yX (Ne.symm hdne),tS];have e2:((y'::fs').zip (v::vs')).reverse=(fs'.zip vs').reverse++[(y',v)]:=by simp
   rw[e2]
  ·cases hr
 ·cases hb
theorem Hq(F:Fun K x qual aE fI fd)(S:FnScope (bx::fs) (bx::fs) (defScope aE))(T:OexC K C)(hno:∀ f∈fs,PySem.W.findIn K (.ref C) f=some none)(hne:fs≠[])(hm:mg b=some (.ref C0))(rd:PySem.W.readsIn K C0 mc=true)
 (ga:PySem.W.specialIn K (.ref C0) "__getattribute__" = some (some (.builtin "type.__getattribute__"))) (vV:PySem.W.findCls K (.ref C0) mc "__init__" = some (.val (.builtin "ValueError.__init__"))) (hb:oW b fs (defScope aE) (defBody aE)=true) :
 L2H.FnH P w K mg base CX 1 fI fd (bx::fs) (spI C fs):=by
 obtain⟨oc,od,kV,doc,pm,an,cdv,ct,osl,rfl,lk,hcd⟩:=F.ex;refine L2H.fn_ofH (k:=0) lk hcd S (fun vs H Q E h=>by rw[h.1];rfl) fun A outer s H ws Q E p _ _ hsp=>?_;obtain⟨_,a,vs,rfl,hl,_,h8,ha,q⟩:=hsp;exact EE rfl rfl rfl rfl T hno hne hm rd ga vV hb hl h8 ha q
end
section
variable {X:Cx} {e:Expr} {es:List Expr} {ta:TA} {p pos:Pos}
theorem EF{C:Addr}{bmB:List Value}{B newId initId:String}{x:Str}(F:ExcBaseFacts B newId initId bmB)(q:PySem.W.excIn X.K C bmB newId=true)(gC:X.mg x=some (.ref C))
 (kC:PySem.W.keepIn X.K (.ref C)=true) (r:Raises X (.ref C)) (hg:Gl X x) (hdb:(x == ("__debug__" : Str))=false:=by decide) :
 L2N.PMk X (.Call (.Name x p) [] [] pos) (fun σ H Q=>Q (.ref C) none H):=by
 intro pins s σ H Q I h;refine zbl (ld_glob I hg gC ?_ hdb);refine zca I.kIn kC ?_;show wpAny _ _ (call (.ref C) []) _ _ _;obtain⟨bm,N,nm,qn,bs,hdct,sn,sub,ab,col,dd,k0,k1,k2,k3,k5,mN,hC,hN,hni,T⟩:=exc_obj I.kIn q;refine wpAny_call_exc_subT F T hC hN hni (fun h' e hm=>?_) (by show (0:Nat)<=sizeLine;exact za1 _);exact L2N.mk_of I hm r h (I.hok.gone hm.new)
theorem Hr{CX:CXT}{x:Str}{C fI:Addr}{k:Nat}{fd:FuncData}{ps:List Str}{sp:Sp}(T:OexC X.K C)(iC:PySem.W.findIn X.K (.ref C) "__init__" = some (some (.ref fI)))(tI:PySem.W.typeIn X.K (.ref fI)=some (.type "function"))
 (F1:FnOk X.prog X.w X.K X.mg X.base CX k fI fd ps sp) (hr:Room (k+1) X.A) (hb:Binds X.K fd ps []) (hx:Passes CX X (fun _ _ _=>False)) (hg:Gl X x) (hm:X.mg x=some (.ref C)) (ha:PA X (e::es) ta)
 (hdb:(x == ("__debug__" : Str))=false:=by decide) (he:starEach (e::es) X.env=(false,eval e X.env)::starEach es X.env:=by rfl) (hpl:(backTo pos (starEach es X.env)).any (·.1)=false:=by rfl) :
 L2N.PMk X (.Call (.Name x p) (e::es) [] pos) (tMkO C sp [] ta):=by
 intro pins s σ H Q I h;obtain⟨nm,q,N,bs,bm,sn,sub,ab,col,dd,k0,k1,k2,k3,k5,hC,hbm⟩:=T.cls;refine zbl (ld_glob I hg hm ?_ hdb);refine PySem.W.callWith_K (h₀:=X.base) I.ok.mod.kin T.kC (thn (ha.run pos pins s σ H _ I h) fun us s1 ⟨vs,H1,I1,r1,hz,q1⟩=>⟨I1.kIn,?_⟩) he hpl;show wpAny _ _ (call (.ref C) us) _ _ _;obtain⟨hp,g,dr,tk,os⟩:=s1;have hsz:hp.objs.size<=hp.objs.size+1:=Nat.le_succ _;have hn:H1 (hp.objs.size+1)=none:=I1.hok.fresh hsz;have hq:=q1 (hp.objs.size+1) hn;rw[zau]at hq;have kk:∀ b o,hp.get? b=some o->((hp.push (PySem.W.kdv_tup us)).push (PySem.HandSPX.excO C hp.objs.size)).get? b=some o:=fun b o e=>zaT _ (zaT _ e);have hget:((hp.push (PySem.W.kdv_tup us)).push (PySem.HandSPX.excO C hp.objs.size)).get? (hp.objs.size+1)=some (PySem.HandSPX.excO C hp.objs.size):=by heap_get
 have I2:Inv X pins σ (upd H1 (hp.objs.size+1) (exo (hp.objs.size+1) C none)) ⟨(hp.push (PySem.W.kdv_tup us)).push (PySem.HandSPX.excO C hp.objs.size),g,dr,tk,os⟩:=I1.laid (t':=tk) (a:=hp.objs.size+1) (o:=exo (hp.objs.size+1) C none) (h':=(hp.push (PySem.W.kdv_tup us)).push (PySem.HandSPX.excO C hp.objs.size)) kk hsz (exo_ok hget);have r2:Vals (V.ref (hp.objs.size+1)::vs) (Value.ref (hp.objs.size+1)::us):=.cons rfl r1;have hl:(Value.ref (hp.objs.size+1)::us++[]).length=ps.length:=by have e:=r2.length;rw[F1.len _ _ _ _ hq]at e;rw[zau];exact e.symm
 have hus:us.length<=sizeLine:=by rw[←zao r1,zap];omega
 have b2:=hb _ (Value.ref (hp.objs.size+1)::us) I2.kIn hl;rw[zau]at b2;refine wpAny_call (PySem.HandSPX.call_own F.excBase_ValueError (fun Y=>PySem.HandSPX.refsVE_contains Y bm hbm) (I1.kIn _ _ hC) (PySem.W.looks_findIn I1.kIn iC) (fun self=>PySem.W.bind_fn I1.kIn self tI) hus
  (codeAny_mono (F1.run _ X.stack _ _ ⟨Value.ref (hp.objs.size+1)::us,[]⟩ (Value.ref (hp.objs.size+1)::us) _ _ (fun _ _ _=>False) (hr.make C us []) (I2.env0.make C us []) b2 r2 hq) fun r s' hq'=>?_))
 cases r with
 |error er=>exact hx pins σ _ _ er s' I2 hq'
 |ok fl=>
  cases fl with
  |ret u=>obtain⟨v,H2,os2,bare2,un2,hok2,rv,ev,d,fs,ea,ed,hd1,q2⟩:=hq';subst ev;obtain⟨h2,g2,d2,t2,os'⟩:=s';obtain⟨t0,G,J,kG,ge,hoe,na⟩:=mk_end0 (d2:=d2) (t2:=t2) I1 hsz kk un2 hok2 os2 bare2 ea ed hd1;refine⟨rv,hp.objs.size+1,_,_,⟨G,g2,d2,t2,os'⟩,_,.ref C,some d,rfl,J,kG,ge,hoe,⟨rfl,rfl,fun vs hv=>?_⟩,rfl,rfl,na,rfl,bare2,raises_own T.exC T.tyC,q2⟩;cases hv;rfl
  |next=>exact False.elim hq'
  |brk=>exact False.elim hq'
  |cont=>exact False.elim hq'
abbrev Ht(C:Addr)(fs:List Str)(ta:TA):St->Hp->XK->Prop:=fun σ H Q=>ta σ H fun vs H1=>vs.length=fs.length/\∀ d,H1 d=none->Q (.ref C) (some d) (upd H1 d (.xd (fs.zip vs).reverse))
theorem Bt{C:Addr}{fs:List Str}{ta:TA}(mono:∀ σ H (k k':List V->Hp->Prop),(∀ vs H,k vs H->k' vs H)->ta σ H k->ta σ H k')(hne:fs≠[])(h8:fs.length<=800){σ:St}{H:Hp}{Q:XK}(h:Ht C fs ta σ H Q):tMkO C (spI C fs) [] ta σ H Q:=by
 refine mono σ H _ _ (fun vs H1 k=>?_) h;obtain⟨hl,k⟩:=k;refine⟨by omega,fun a na=>?_⟩;refine⟨by simp[hl],a,vs,by rw[zau],hl,hne,h8,upd_same,fun dx H' hd hda e=>?_⟩;have hd1:H1 dx=none:=by rw[upd_ne hda]at hd;exact hd
 subst e;refine⟨rfl,dx,_,upd_same,by rw[upd_ne hda,upd_same],hd1,?_⟩;have q:=k dx hd1;have e2:upd (del (upd (upd (upd H1 a (exo a C none)) dx (exd dx (fs.zip vs).reverse)) a (exo a C (some dx))) a) dx (.xd (fs.zip vs).reverse)=upd H1 dx (.xd (fs.zip vs).reverse):=by
  funext c
  by_cases hc:c=dx
  ·rw[hc,upd_same,upd_same]
  ·rw[upd_ne hc,upd_ne hc];by_cases hca:c=a
   ·rw[hca,del_same,na]
   ·rw[del_ne hca,upd_ne hca,upd_ne hc,upd_ne hca]
 rw[e2];exact q
theorem Bu:Passes (L2.CX X.prog X.w) X (fun _ _ _=>False):=by intro pins σ H s e s' I c;obtain⟨_,_,_,_,_,_,_,_,_,_,_,_,h⟩:=c;exact False.elim h
theorem Hu{x:Str}{C fI:Addr}{fd:FuncData}{fs:List Str}(mono:∀ σ H (k k':List V->Hp->Prop),(∀ vs H,k vs H->k' vs H)->ta σ H k->ta σ H k')(T:OexC X.K C)(iC:PySem.W.findIn X.K (.ref C) "__init__" = some (some (.ref fI)))(tI:PySem.W.typeIn X.K (.ref fI)=some (.type "function"))
 (F1:FnOk X.prog X.w X.K X.mg X.base (L2.CX X.prog X.w) 1 fI fd (bx::fs) (spI C fs)) (hr:Room 2 X.A) (hb:Binds X.K fd (bx::fs) []) (hg:Gl X x) (hm:X.mg x=some (.ref C)) (ha:PA X (e::es) ta) (hne:fs≠[]) (h8:fs.length<=800)
 (hdb:(x == ("__debug__" : Str))=false) (he:starEach (e::es) X.env=(false,eval e X.env)::starEach es X.env) (hpl:(backTo pos (starEach es X.env)).any (·.1)=false) :
 L2N.PMk X (.Call (.Name x p) (e::es) [] pos) (Ht C fs ta):=fun pins s σ H Q I h=>
 Hr T iC tI F1 hr hb Bu hg hm ha hdb he hpl pins s σ H Q I (Bt mono hne h8 h)
theorem Hv{x:Str}{C fI:Addr}{fd:FuncData}{fs:List Str}(mono:∀ σ H (k k':List V->Hp->Prop),(∀ vs H,k vs H->k' vs H)->ta σ H k->ta σ H k')(T:OexC X.K C)(iC:PySem.W.findIn X.K (.ref C) "__init__" = some (some (.ref fI)))(tI:PySem.W.typeIn X.K (.ref fI)=some (.type "function"))
 (F1:L2H.FnH X.prog X.w X.K X.mg X.base (L2.CX X.prog X.w) 1 fI fd (bx::fs) (spI C fs)) (hr:L2H.RoomH 2 X.A) (hc:L2H.HotC X) (hb:Binds X.K fd (bx::fs) []) (hg:Gl X x) (hm:X.mg x=some (.ref C)) (ha:PA X (e::es) ta) (hne:fs≠[]) (h8:fs.length<=800)
 (hdb:(x == ("__debug__" : Str))=false) (he:starEach (e::es) X.env=(false,eval e X.env)::starEach es X.env) (hpl:(backTo pos (starEach es X.env)).any (·.1)=false) :
 L2H.PMk5 X (.Call (.Name x p) (e::es) [] pos) (Ht C fs ta):=fun pins s σ H Q I h=>
 L2H.pmk5_oexH T iC tI F1 hr hc hb Bu hg hm ha hdb he hpl pins s σ H Q I (Bt mono hne h8 h)
end
abbrev NT(us:List Value):Obj:={ cls:=.type "tuple",data:=.seq us.toArray }
def tT(H:Hp)(xs:List V)(k:Addr->Hp->Prop):Prop:=∀ p o,H p=none->o.dict=none->k p (upd H p (.frz o (.tup xs)))
section
variable {X:Cx} {pins:List (Addr×Obj)} {σ:St} {H:Hp} {s:Shared}
theorem Inv.wk{us:List Value}{vs:List V}{Q:VK}{tk:Nat}(I:Inv X pins σ H s)(r:Vals vs us)(hz:vs.length<=sizeLine)(q:tT H vs fun p H'=>Q (.ref p) H'):
 EP X pins σ Q (.ref s.heap.objs.size) { s with heap:=s.heap.push (NT us),toks:=tk }:=by
 have at_:(s.heap.push (NT us)).get? s.heap.objs.size=some (NT us):=zbr _ rfl;have ob:ObjOk X.prog X.w (upd H s.heap.objs.size (.frz (NT us) (.tup vs))) (s.heap.push (NT us)) s.heap.objs.size (.frz (NT us) (.tup vs)):=⟨at_,hz,us,r,⟨_,at_,rfl,_,rfl⟩⟩;exact⟨.ref s.heap.objs.size,_,I.laid (t':=tk) (fun _ _ e=>zaT _ e) (zal _) ob,rfl,q _ _ (I.hok.fresh (zal _)) rfl⟩
end
section
variable {X:Cx} {es:List Expr} {t:TA} {pos:Pos}
def US(t:TA):TE:=fun σ H Q=>t σ H fun xs H1=>xs.length<=sizeLine/\tT H1 xs fun p H'=>Q (.ref p) H'
theorem Bv{j:Nat}(h:PA X es t):PE X (.Tuple es j pos) (US t):=⟨fun pins s σ H Q I hq=>wpAny_Tuple_spliced (thn (h.run pos pins s σ H _ I hq) fun us s1 ⟨xs,H1,I1,r,z,q⟩=>⟨zbw (Nat.le_of_eq r.length.symm) z,Inv.wk (tk:=s1.toks) I1 r z q⟩)⟩
theorem sU:CallR X (.type "tuple") (fun xs H Q=>∃ p ys,xs=[.ref p]/\((SqL X.K H p ys/\tT H ys fun p H'=>Q (.ref p) H')\/(SqT X.K H p ys/\Q (.ref p) H))):=by
 intro pins s σ H xs us Q I r ⟨p,ys,e,h⟩;subst e;obtain⟨u,eu,ru⟩:=vals1 r;subst eu;cases ru;rcases h with⟨hl,q⟩|⟨ht,q⟩
 ·obtain⟨its,rv,hp,hz⟩:=I.list hl;have n1:=rv.length;refine call_tuple_list hp.isList (fun h' kp=>?_) (by simp only[zba];omega);have J:Inv X pins σ H { s with heap:=h' }:=I.kept (t':=s.toks) kp;exact Inv.wk (tk:=s.toks) J rv hz q
 ·obtain⟨its,rv,hp,hz⟩:=I.tuple ht;exact call_tuple_same hp ⟨.ref p,H,I,rfl,q⟩
theorem Mg:OpR X (binaryOp .Add) (fun x y H Q=>∃ a b xs ys,x= .ref a/\y= .ref b/\SqT X.K H a xs/\SqT X.K H b ys/\xs.length+ys.length<=sizeLine/\
 (xs=[]->Q (.ref b) H)/\(xs≠[]->ys=[]->Q (.ref a) H)/\(xs≠[]->ys≠[]->tT H (xs++ys) fun p H'=>Q (.ref p) H')):=by
 intro pins s σ H x y v u Q I rx ry ⟨a,b,xs,ys,ex,ey,ha,hb,hz,q0,q1,q2⟩;subst ex ey;cases rx;cases ry;obtain⟨us,r1,p1,_⟩:=I.tuple ha;obtain⟨ws,r2,p2,_⟩:=I.tuple hb;by_cases e:xs=[]
 ·subst e;cases r1;exact cat_tup0 p1 p2 ⟨.ref b,H,I,rfl,q0 rfl⟩
 ·refine HT.cat_tup p1 p2 (fun z=>e (r1.nil_iff.mp z)) (fun z=>⟨.ref a,H,I,rfl,q1 e (r2.nil_iff.mp z)⟩) (fun z=>?_) (by rw[←r1.length,←r2.length];exact hz);exact Inv.wk (tk:=s.toks) I (r1.append r2) (by rw[zav];exact hz) (q2 e fun z'=>z (r2.nil_iff.mpr z'))
theorem Mh:SlR X (fun x lo hi H Q=>∃ a xs,x= .ref a/\SqT X.K H a xs/\
 (HT.sIx xs.length 0 lo=0/\HT.sIx xs.length xs.length hi=xs.length->Q (.ref a) H)/\(¬ (HT.sIx xs.length 0 lo=0/\HT.sIx xs.length xs.length hi=xs.length)->tT H (cutV xs lo hi) fun p H'=>Q (.ref p) H')):=by
 intro pins s σ H x v vl vu lo hi sl Q I rx hs pl pu ⟨a,xs,ex,hx,q1,q2⟩;subst ex;cases rx;obtain⟨us,r,ht,hz⟩:=I.tuple hx;have n1:us.toArray.size=xs.length:=(zba ..).trans r.length.symm;refine⟨"tuple",_,PyProof.Rows.slot_tuple_getitem.lookup,ht.typeIs,?_⟩;by_cases whole:HT.sIx xs.length 0 lo=0/\HT.sIx xs.length xs.length hi=xs.length
 ·exact getItem_tuple_whole ht hs pl pu (by rw[n1];exact whole) ⟨.ref a,H,I,rfl,q1 whole⟩
 ·refine HT.getItem_tuple_cut ht hs pl pu (by rw[n1];exact whole) ?_ (by rw[n1];exact hz);rw[n1];exact Inv.wk (tk:=s.toks) I ((r.drop (HT.sIx xs.length 0 lo)).take (HT.sIx xs.length xs.length hi-HT.sIx xs.length 0 lo)) (zbw (cutV_length xs lo hi) hz) (q2 whole)
end
def UT(ks:List Int):Int:=reduceHash (Builtin.Tuple.tupleHashOf (ks.map hashInt))
abbrev TK(P:Program)(w:World):HeapKind P w (List Int):=tupleKind (PySem.intKind P w)
def Ye(x:List Int×Addr×Value):DictEntry:=⟨UT x.1,.ref x.2.1,x.2.2⟩
abbrev fJ:=List Int×Addr×V
def qf(p:fJ)(q:List Int×Addr×Value):Prop:=p.1=q.1/\p.2.1=q.2.1/\RelV p.2.2 q.2.2
def wm(a:Addr)(ks:List fJ)(h:Heap):Prop:=ks.length<=sizeLine/\(a == sysModules)=false/\∃ xs:List (List Int×Addr×Value),Paired qf ks xs/\ ∃ o es ep,h.get? a=some o/\o.ExactDict/\o.data= .dict es ep/\es.toList=xs.map Ye/\(xs.map (·.1)).Nodup
def TD(a:Addr)(ks:List fJ):HO:=.ext (wm a ks)
theorem UU{P:Program}{w:World}{H:Hp}{h:Heap}{a:Addr}{ks:List fJ}(x:wm a ks h):ObjOk P w H h a (TD a ks):=by
 refine⟨x,?_,?_⟩
 ·obtain⟨_,_,_,_,o,_,_,e,_⟩:=x;exact⟨o,e⟩
 ·rintro h1 h2 ⟨z,y,xs,r,o,es,ep,e,q⟩ k;exact⟨z,y,xs,r,o,es,ep,k o e,q⟩
theorem UW{P:Program}{w:World}{H:Hp}{h:Heap}{a:Addr}{ks:List fJ}(x:ObjOk P w H h a (TD a ks)):wm a ks h:=x.1
theorem UX{P:Program}{w:World}{H:Hp}{h:Heap}{a:Addr}{ks:List fJ}(ok:HOk P w H h)(e:Rd H a (TD a ks)):wm a ks h:=UW (e.ok ok)
theorem O3(a:Addr)(ks:List fJ):Mut (some (TD a ks)):=True.intro
def valT(ks:List fJ)(k:List Int):Option V:=(ks.find? fun p=>decide (p.1=k)).map (·.2.2)
def putT(ks:List fJ)(k:List Int)(q:Addr)(v:V):List fJ:=if(valT ks k).isSome=true then ks.map (fun p=>if p.1=k then(p.1,p.2.1,v)else p)else ks++[(k,q,v)]
theorem Bw:∀ {ks:List fJ} {xs:List (List Int×Addr×Value)} (k:List Int),Paired qf ks xs->RelO (valT ks k) ((atKey xs k).map (·.2))
 |_,_,k,.nil=>True.intro
 |p::ks,q::xs,k,.cons r t=>by
  unfold valT atKey;by_cases h:p.1=k
  ·have h':q.1=k:=r.1 ▸ h;simp only[zbZ,h,h',decide_true,Option.map_some];exact r.2.2
  ·have h' : ¬ q.1=k:=fun z=>h (r.1.trans z);simp only[zbZ,h,h',decide_false];exact Bw k t
theorem EG{a:Option V}{b:Option Value}(h:RelO a b):a.isSome=b.isSome:=by cases a <;> cases b <;> first |rfl |exact h.elim
theorem qf.put{k:List Int}{q:Addr}{v:V}{u:Value}(rv:RelV v u){ks:List fJ}{xs:List (List Int×Addr×Value)}(r:Paired qf ks xs):Paired qf (putT ks k q v) (storedH xs k q u):=by
 have e:(valT ks k).isSome=(atKey xs k).isSome:=by have:=EG (Bw k r);rw[Option.isSome_map]at this;exact this
 unfold putT storedH;rw[e];by_cases z:(atKey xs k).isSome=true
 ·rw[zah z,zah z];clear e z;induction r with
  |nil=>exact .nil
  | @cons p x ps xs hx t ih=>
    refine .cons ?_ ih;unfold putAt;by_cases h:p.1=k
    ·have h':x.1=k:=hx.1 ▸ h;simp only[h,h',if_true];exact⟨rfl,hx.2.1,rv⟩
    ·have h' : ¬ x.1=k:=fun z=>h (hx.1.trans z);simp only[h,h',if_false];exact hx
 ·rw[zaj z,zaj z];exact Paired.snoc r ⟨rfl,rfl,rv⟩
theorem Hw(ks:List fJ)(k:List Int)(q:Addr)(v:V):(putT ks k q v).length<=ks.length+1:=by unfold putT;split <;> simp
theorem uK{P:Program}{w:World}:∀ {ks:List Int} {us:List Value},Vals (ks.map V.int) us->ItemsAre (PySem.intKind P w) ks us
 | [],_,r=>by rw[List.map_nil]at r;cases r;exact .nil
 |k::ks,_,r=>by
  rw[zaR]at r;cases r with
  |cons h t=>obtain⟨t',rfl⟩:=h;exact .cons (by simp[PySem.intKind,Value.isInt]) (uK t)
theorem Mi{P:Program}{w:World}{h:Heap}{q:Addr}{k:List Int}{its:Array Value}(x:IsTup h q its)(r:Vals (k.map V.int) its.toList):(TK P w).is h k q:=by obtain⟨o,h1,h2,n,h3⟩:=x;exact⟨o,its,n,h1,h2,h3,uK r⟩
def qh(P:Program)(w:World)(h:Heap)(ks:List fJ):Prop:=∀ p∈ks,(TK P w).is h p.1 p.2.1
theorem Mj{P:Program}{w:World}{h:Heap}{a:Addr}{ks:List fJ}(x:wm a ks h)(hk:qh P w h ks):
 ks.length<=sizeLine/\(a == sysModules)=false/\∃ xs,Paired qf ks xs/\h.DictOfH (TK P w) a xs:=by
 obtain⟨z,y,xs,r,o,es,ep,h1,h2,h3,h4,h5⟩:=x;refine⟨z,y,xs,r,o,es,ep,h1,h2,h3,h4,?_,h5⟩;unfold qh at hk;clear h4 h5 z;induction r with
 |nil=>intro x hx;cases hx
 | @cons p q ps qs hq t ih=>
   intro x hx;rcases zas.mp hx with e |hx
   ·subst e;have:=hk p zac;rw[hq.1,hq.2.1]at this;exact this
   ·exact ih (fun p hp=>hk p (zae _ hp)) x hx
theorem Ml{P:Program}{w:World}{h:Heap}{a:Addr}{ks:List fJ}{xs:List (List Int×Addr×Value)}(z:ks.length<=sizeLine)(y:(a == sysModules)=false)(r:Paired qf ks xs)(d:h.DictOfH (TK P w) a xs):wm a ks h:=by obtain⟨o,es,ep,h1,h2,h3,h4,_,h5⟩:=d;exact⟨z,y,xs,r,o,es,ep,h1,h2,h3,h4,h5⟩
section
variable {X:Cx} {pins:List (Addr×Obj)} {σ:St} {H:Hp} {s:Shared} {a b:Addr} {v:V} {u r:Value} {k:List Int} {ks:List fJ} {A:Around} {E:Value->Shared->Prop}
theorem EH{Q:Unit->Shared->Prop}(hu:A.units+1<cLine)(I:Inv X pins σ H s)(e:H a=some (TD a ks))(hk:qh X.prog X.w s.heap ks)(kb:(TK X.prog X.w).is s.heap k b)(rv:RelV v r)(hl:ks.length<sizeLine)(h:∀ s',Inv X pins σ (upd H a (TD a (putT ks k b v))) s'->Q () s'):
 wpAny (model X.prog X.w) A (setItem (.ref a) (.ref b) r) Q E s:=by
 obtain⟨z,hd,xs,rel,dd⟩:=Mj (UX I.hok (.inl e)) hk;have hz:xs.length<=sizeLine:=by rw[←zao rel];exact z
 have hl':(putT ks k b v).length<=sizeLine:=by have:=Hw ks k b v;omega
 refine wpAny_setItem_heap (hsz:=hz) (tupleKind_room_in1 hu) kb dd fun h' dd' hs=>h _ ?_;have he:∃ q,h'.get? a=some q:=let⟨q,_,_,hq,_⟩:=dd';⟨q,hq⟩
 exact d_write I (by rw[e];exact True.intro) hs he (UU (Ml hl' hd (qf.put rv rel) dd'))
end
end L2
namespace G
open PySem PySem.Spec PyProof.Rows L2
mutual
def jk:PyData->PyData->Bool
 | .none,.none=>true
 | .bool a,.bool b=>a == b
 | .int a,.int b=>a == b
 | .str a,.str b=>a == b
 | .list a,.list b=>oX a b
 | .tuple a,.tuple b=>oX a b
 | .dict a,.dict b=>qj a b
 |_,_=>false
def oX:List PyData->List PyData->Bool
 | [],[]=>true
 |x::xs,y::ys=>jk x y && oX xs ys
 |_,_=>false
def qj:List (PyData×PyData)->List (PyData×PyData)->Bool
 | [],[]=>true
 |(a,b)::xs,(c,d)::ys=>jk a c && jk b d && qj xs ys
 |_,_=>false
end
mutual
theorem uL:∀ a b:PyData,jk a b=true->a=b
 | .none,b,h=>by cases b <;> simp_all [jk]
 | .bool _,b,h=>by cases b <;> simp_all [jk]
 | .int _,b,h=>by cases b <;> simp_all [jk]
 | .str _,b,h=>by cases b <;> simp_all [jk]
 | .list xs,b,h=>by
   cases b <;> simp[jk]at h
   rw[wo _ _ h]
 | .tuple xs,b,h=>by
   cases b <;> simp[jk]at h
   rw[wo _ _ h]
 | .dict xs,b,h=>by
   cases b <;> simp[jk]at h
   rw[Bx _ _ h]
theorem wo:∀ a b:List PyData,oX a b=true->a=b
 | [],b,h=>by cases b <;> simp_all [oX]
 |x::xs,[],h=>by simp[oX]at h
 |x::xs,y::ys,h=>by simp[oX]at h;rw[uL _ _ h.1,wo _ _ h.2]
theorem Bx:∀ a b:List (PyData×PyData),qj a b=true->a=b
 | [],b,h=>by cases b <;> simp_all [qj]
 |x::xs,[],h=>by obtain⟨_,_⟩:=x;simp[qj]at h
 |(a,b)::xs,(c,d)::ys,h=>by simp[qj]at h;rw[uL _ _ h.1.1,uL _ _ h.1.2,Bx _ _ h.2]
end
mutual
theorem rK:∀ a:PyData,jk a a=true
 | .none=>rfl
 | .bool _=>by simp[jk]
 | .int _=>by simp[jk]
 | .str _=>by simp[jk]
 | .list xs=>by simp[jk,tU xs]
 | .tuple xs=>by simp[jk,tU xs]
 | .dict xs=>by simp[jk,yY xs]
theorem tU:∀ a:List PyData,oX a a=true
 | []=>rfl
 |x::xs=>by simp[oX,rK x,tU xs]
theorem yY:∀ a:List (PyData×PyData),qj a a=true
 | []=>rfl
 |(x,y)::xs=>by simp[qj,rK x,rK y,yY xs]
end
instance:DecidableEq PyData:=fun a b=>match h:jk a b with
 |true=>.isTrue (uL a b h)
 |false=>.isFalse fun e=>by rw[e,rK]at h;cases h
inductive Val where
 |d (x:PyData)
 |loc (n:Nat)
 |bW (ns:List Int)
 |xc (cls:Str) (fs:List (Str×PyData))
 /-- a dict whose keys are tuples of whole numbers,that is never changed -/
 |td (kvs:List (PyData×PyData))
 /-- a new pair: data and a cell,data and such a dict -/
 |dN (x:PyData) (n:Nat)
 |eo (x:PyData) (kvs:List (PyData×PyData))
 deriving DecidableEq
inductive Cell where
 |lst (xs:List Val)
 |dct (kvs:List (PyData×Val))
 |dead
 /-- the table of code objects of the def x -/
 |tab (x:Str)
 /-- an instance of an own class -/
 |obj (c:Str) (fs:List (Str×Val))
 /-- a dict whose keys are tuples of whole numbers -/
 |gQ (kvs:List (PyData×Val))
 deriving DecidableEq
abbrev aa:=List Cell
abbrev ae:=List (Option Val)
structure jl where
 cls:Str
 az:List (Str×Val)
inductive R (α:Type) where
 |ok (a:α) (st:aa)
 |exc (e:jl) (st:aa)
 |no
def R.bind{α β:Type}(r:R α)(f:α->aa->R β):R β:=match r with
 | .ok a st=>f a st
 | .exc e st=>.exc e st
 | .no=>.no
def R.aS{α:Type}:Option (α×aa)->R α
 |some (a,st)=>.ok a st
 |none=>.no
structure Mp where
 ls:List (Option Addr)
 P:Addr->Prop
def Mp.In(m:Mp)(a:Addr):Prop:=some a∈m.ls
def lB(m:Mp)(a:Addr):Prop:=¬ m.In a/\¬ m.P a
structure Ext (m:Mp) (H:Hp) (m':Mp) (H':Hp):Prop where
 len:m.ls.length<=m'.ls.length
 at_:∀ n,n<m.ls.length->m'.ls[n]?=m.ls[n]?\/m'.ls[n]?=some none
 P:m'.P=m.P
 keep:∀ a o,H a=some o->¬ m.In a->H' a=some o
 new:∀ a,m'.In a->¬ m.In a->H a=none
theorem Ext.refl{m:Mp}{H:Hp}:Ext m H m H:=⟨zal _,fun _ _=>.inl rfl,rfl,fun _ _ h _=>h,fun _ h n=>absurd h n⟩
theorem eY{H:Hp}{a:Addr}{o:HO}(h:H a=some o)(h':H a=none):False:=by rw[h]at h';cases h'
theorem Ext.trans{m m1 m2:Mp}{H H1 H2:Hp}(a:Ext m H m1 H1)(b:Ext m1 H1 m2 H2):Ext m H m2 H2 where
 len:=zbw a.len b.len
 at_:=fun n hn=>by
  rcases b.at_ n (zaU hn a.len)with e |e
  ·rw[e];exact a.at_ n hn
  ·exact .inr e
 P:=b.P.trans a.P
 keep:=fun x o h n=>b.keep x o (a.keep x o h n) fun z=>eY h (a.new x z n)
 new:=fun x h n=>by
  by_cases z:m1.In x
  ·exact a.new x z n
  ·have q:=b.new x h z;cases e:H x with
   |none=>rfl
   |some o=>exact(eY (a.keep x o e n) q).elim
def fS(H:Hp)(m:Mp)(H':Hp)(m':Mp):Prop:=∀ a o,H a=some o->lB m a->H' a=some o/\lB m' a
theorem Ext.stay{m m':Mp}{H H':Hp}(e:Ext m H m' H'):fS H m H' m':=fun a o h f=>⟨e.keep a o h f.1,fun z=>eY h (e.new a z f.1),by rw[e.P];exact f.2⟩
def KT(K:PySem.W.Frag)(a:Addr)(xs:List V):Prop:=∃ (o:Obj) (its:Array Value) (n:Nat),K.lookup a=some o/\o.cls= .type "tuple"/\o.data= .seq its n/\its.size<=sizeLine/\Vals xs its.toList/\o.dict=none
def KL(K:PySem.W.Frag)(a:Addr)(xs:List V):Prop:=∃ (o:Obj) (its:Array Value) (n:Nat),K.lookup a=some o/\o.cls= .type "list"/\o.dict=none/\o.data= .seq its n/\its.size<=sizeLine/\Vals xs its.toList
def iV(K:PySem.W.Frag)(H:Hp)(m:Mp)(a:Addr)(xs:List V):Prop:=((∃ o:Obj,H a=some (.frz o (.tup xs))/\o.dict=none)/\lB m a)\/KT K a xs
def Hy(H:Hp)(m:Mp)(a:Addr)(xs:List V):Prop:=H a=some (.lst xs)/\lB m a
def O4(H:Hp)(m:Mp)(a:Addr)(kvs:List (Key×V)):Prop:=H a=some (.dK kvs)/\lB m a
theorem iV.sq{K:PySem.W.Frag}{H:Hp}{m:Mp}{a:Addr}{xs:List V}(h:iV K H m a xs):SqT K H a xs:=h.imp (fun⟨⟨o,x,_⟩,_⟩=>.inr ⟨o,x⟩) (fun⟨o,its,n,h1,h2,h3,h4,h5,_⟩=>⟨o,its,n,h1,h2,h3,h4,h5⟩)
theorem iV.stay{K:PySem.W.Frag}{H H':Hp}{m m':Mp}{a:Addr}{xs:List V}(s:fS H m H' m')(h:iV K H m a xs):iV K H' m' a xs:=h.imp (fun⟨⟨o,x,y⟩,f⟩=>⟨⟨o,(s _ _ x f).1,y⟩,(s _ _ x f).2⟩) id
def keyD:Key->PyData
 | .inl i=>.int i
 | .inr x=>.str x
mutual
inductive bG (K:PySem.W.Frag) (H:Hp) (m:Mp):V->PyData->Prop
 |non:bG K H m .non .none
 |bl (b:Bool):bG K H m (.bl b) (.bool b)
 |int (i:Int):bG K H m (.int i) (.int i)
 |str (x:Str):bG K H m (.str x) (.str x)
 |tup {a:Addr} {xs:List V} {ds:List PyData}:iV K H m a xs->aY K H m xs ds->bG K H m (.ref a) (.tuple ds)
 |lst {a:Addr} {xs:List V} {ds:List PyData}:Hy H m a xs->aY K H m xs ds->bG K H m (.ref a) (.list ds)
 |dct {a:Addr} {es:List (Key×V)} {kvs:List (PyData×PyData)}:O4 H m a es->eE K H m es kvs->bG K H m (.ref a) (.dict kvs)
inductive aY (K:PySem.W.Frag) (H:Hp) (m:Mp):List V->List PyData->Prop
 |nil:aY K H m [] []
 |cons {v:V} {vs:List V} {d:PyData} {ds:List PyData}:bG K H m v d->aY K H m vs ds->aY K H m (v::vs) (d::ds)
inductive eE (K:PySem.W.Frag) (H:Hp) (m:Mp):List (Key×V)->List (PyData×PyData)->Prop
 |nil:eE K H m [] []
 |cons {k:Key} {v:V} {es:List (Key×V)} {d:PyData} {kvs:List (PyData×PyData)}:bG K H m v d->eE K H m es kvs->eE K H m ((k,v)::es) ((keyD k,d)::kvs)
end
mutual
theorem bG.stay{K:PySem.W.Frag}{H H':Hp}{m m':Mp}(s:fS H m H' m'):∀ {v:V} {d:PyData},bG K H m v d->bG K H' m' v d
 |_,_,.non=>.non
 |_,_,.bl b=>.bl b
 |_,_,.int i=>.int i
 |_,_,.str x=>.str x
 |_,_,.tup h r=>.tup (h.stay s) (aY.stay s r)
 |_,_,.lst h r=>.lst (s _ _ h.1 h.2) (aY.stay s r)
 |_,_,.dct h r=>.dct (s _ _ h.1 h.2) (eE.stay s r)
theorem aY.stay{K:PySem.W.Frag}{H H':Hp}{m m':Mp}(s:fS H m H' m'):∀ {v:List V} {d:List PyData},aY K H m v d->aY K H' m' v d
 |_,_,.nil=>.nil
 |_,_,.cons h r=>.cons (bG.stay s h) (aY.stay s r)
theorem eE.stay{K:PySem.W.Frag}{H H':Hp}{m m':Mp}(s:fS H m H' m'):∀ {v:List (Key×V)} {d:List (PyData×PyData)},eE K H m v d->eE K H' m' v d
 |_,_,.nil=>.nil
 |_,_,.cons h r=>.cons (bG.stay s h) (eE.stay s r)
end
def xy(H:Hp)(m:Mp)(a D:Addr)(fv:List (Str×V)):Prop:=∃ d,H a=some (yU (.ref D) d a)/\lB m a/\((d=none/\fv=[])\/∃ dd,d=some dd/\H dd=some (.xd fv)/\lB m dd)
theorem xy.stay{H H':Hp}{m m':Mp}(s:fS H m H' m'){a D:Addr}{fv:List (Str×V)}(h:xy H m a D fv):xy H' m' a D fv:=by obtain⟨d,h1,h2,h3⟩:=h;refine⟨d,(s _ _ h1 h2).1,(s _ _ h1 h2).2,h3.imp id ?_⟩;rintro⟨dd,e,h4,h5⟩;exact⟨dd,e,s _ _ h4 h5⟩
theorem xy.at_{H:Hp}{m:Mp}{a D:Addr}{fv:List (Str×V)}(h:xy H m a D fv):yV H a D fv:=by obtain⟨d,h1,_,h3⟩:=h;exact⟨d,h1,h3.imp id fun⟨dd,e,h4,_⟩=>⟨dd,e,h4⟩⟩
def wu(K:PySem.W.Frag)(H:Hp)(m:Mp):List (Str×V)->List (Str×PyData)->Prop:=Paired fun p q=>p.1=q.1/\bG K H m p.2 q.2
def rL(K:PySem.W.Frag)(H:Hp)(m:Mp):List fJ->List (PyData×PyData)->Prop:=Paired fun p q=>q.1= .tuple (p.1.map PyData.int)/\iV K H m p.2.1 (p.1.map V.int)/\bG K H m p.2.2 q.2
theorem rL.stay{K:PySem.W.Frag}{H H':Hp}{m m':Mp}(s:fS H m H' m'){ks:List fJ}{kvs:List (PyData×PyData)}(h:rL K H m ks kvs):rL K H' m' ks kvs:=Paired.mapP h fun _ _ z=>⟨z.1,z.2.1.stay s,z.2.2.stay s⟩
inductive Rep (K:PySem.W.Frag) (H:Hp) (m:Mp):V->Val->Prop
 |td {a:Addr} {o:Obj} {ks:List fJ} {kvs:List (PyData×PyData)}:H a=some (.frz o (TD a ks))->lB m a->rL K H m ks kvs->Rep K H m (.ref a) (.td kvs)
 |dN {a:Addr} {va vb:V} {x:PyData} {n:Nat}:iV K H m a [va,vb]->bG K H m va x->n<m.ls.length->(∀ b,m.ls[n]?=some (some b)->vb= .ref b)->Rep K H m (.ref a) (.dN x n)
 |eo {a b:Addr} {va:V} {x:PyData} {o:Obj} {ks:List fJ} {kvs:List (PyData×PyData)}:iV K H m a [va,.ref b]->bG K H m va x->H b=some (.frz o (TD b ks))->lB m b->rL K H m ks kvs->Rep K H m (.ref a) (.eo x kvs)
 |xc {a D:Addr} {cls:Str} {fv:List (Str×V)} {fs:List (Str×PyData)}:PySem.W.nsIn K mainGlobals cls=some (some (.ref D))->xy H m a D fv->wu K H m fv fs->Rep K H m (.ref a) (.xc cls fs)
 |d {v:V} {x:PyData}:bG K H m v x->Rep K H m v (.d x)
 |bW {a:Addr} {ns:List Int}:((∃ o,H a=some (.frz o (.lst (ns.map V.int)))/\lB m a)\/KL K a (ns.map V.int))->Rep K H m (.ref a) (.bW ns)
 |loc {v:V} {n:Nat}:n<m.ls.length->(∀ a,m.ls[n]?=some (some a)->v= .ref a)->Rep K H m v (.loc n)
abbrev aW(K:PySem.W.Frag)(H:Hp)(m:Mp):List V->List Val->Prop:=Paired (Rep K H m)
def bX(K:PySem.W.Frag)(H:Hp)(m:Mp):List (Key×V)->List (PyData×Val)->Prop:=Paired fun p q=>keyD p.1=q.1/\Rep K H m p.2 q.2
theorem Rep.ext{K:PySem.W.Frag}{H H':Hp}{m m':Mp}(e:Ext m H m' H'){v:V}{x:Val}(h:Rep K H m v x):Rep K H' m' v x:=by
 cases h with
 |xc h1 h2 h3=>exact .xc h1 (h2.stay e.stay) (Paired.mapP h3 fun _ _ z=>⟨z.1,z.2.stay e.stay⟩)
 |d h=>exact .d (h.stay e.stay)
 |bW h=>exact .bW (h.imp (fun⟨o,h1,h2⟩=>⟨o,e.stay _ _ h1 h2⟩) id)
 |td h1 h2 h3=>exact .td (e.stay _ _ h1 h2).1 (e.stay _ _ h1 h2).2 (h3.stay e.stay)
 |dN h1 h2 hn h=>
  refine .dN (h1.stay e.stay) (h2.stay e.stay) (zaU hn e.len) fun a q=>?_;rcases e.at_ _ hn with z |z
  ·exact h a (z ▸ q)
  ·rw[z]at q;cases q
 |eo h1 h2 h3 h4 h5=>exact .eo (h1.stay e.stay) (h2.stay e.stay) (e.stay _ _ h3 h4).1 (e.stay _ _ h3 h4).2 (h5.stay e.stay)
 |loc hn h=>
  refine .loc (zaU hn e.len) fun a q=>?_;rcases e.at_ _ hn with z |z
  ·exact h a (z ▸ q)
  ·rw[z]at q;cases q
theorem aW.ext{K:PySem.W.Frag}{H H':Hp}{m m':Mp}(e:Ext m H m' H'){v:List V}{x:List Val}(h:aW K H m v x):aW K H' m' v x:=Paired.mapP h fun _ _ z=>z.ext e
theorem bX.ext{K:PySem.W.Frag}{H H':Hp}{m m':Mp}(e:Ext m H m' H'){v:List (Key×V)}{x:List (PyData×Val)}(h:bX K H m v x):bX K H' m' v x:=Paired.mapP h fun _ _ z=>⟨z.1,z.2.ext e⟩
def Yg(x:Str):Str:=x++".<locals>."++"<lambda>"
def CD(H:Hp)(m:Mp)(P:Addr)(q:Str):Prop:=∃ ps:Array Value,H P=some (.tbl ps)/\TriplesOk ps.toList/\∀ (pos:Pos) (cv:Value),codeAmong pos ps.toList=some cv->∃ c,cv= .ref c/\H c=some (LamX.CodeO c q)/\lB m c
theorem CD.stay{H H':Hp}{m m':Mp}{P:Addr}{q:Str}(s:fS H m H' m')(k:∀ o,H P=some o->H' P=some o)(h:CD H m P q):CD H' m' P q:=by obtain⟨ps,h1,h2,h3⟩:=h;refine⟨ps,k _ h1,h2,fun pos cv hc=>?_⟩;obtain⟨c,e,a,b⟩:=h3 pos cv hc;exact⟨c,e,s _ _ a b⟩
def eF(K:PySem.W.Frag)(H:Hp)(m:Mp):List (Str×V)->List (Str×Val)->Prop:=Paired fun p q=>p.1=q.1/\Rep K H m p.2 q.2
theorem eF.ext{K:PySem.W.Frag}{H H':Hp}{m m':Mp}(e:Ext m H m' H'){v:List (Str×V)}{x:List (Str×Val)}(h:eF K H m v x):eF K H' m' v x:=Paired.mapP h fun _ _ z=>⟨z.1,z.2.ext e⟩
def gn(K:PySem.W.Frag)(H:Hp)(m:Mp):List fJ->List (PyData×Val)->Prop:=Paired fun p q=>q.1= .tuple (p.1.map PyData.int)/\iV K H m p.2.1 (p.1.map V.int)/\Rep K H m p.2.2 q.2
theorem gn.ext{K:PySem.W.Frag}{H H':Hp}{m m':Mp}(e:Ext m H m' H'){ks:List fJ}{kvs:List (PyData×Val)}(h:gn K H m ks kvs):gn K H' m' ks kvs:=Paired.mapP h fun _ _ z=>⟨z.1,z.2.1.stay e.stay,z.2.2.ext e⟩
def dH(K:PySem.W.Frag)(H:Hp)(m:Mp)(a:Addr):Cell->Prop
 | .lst ds=>∃ xs,H a=some (.lst xs)/\aW K H m xs ds
 | .dct kvs=>∃ es,H a=some (.dK es)/\bX K H m es kvs
 | .dead=>True
 | .tab x=>∃ c,PySem.W.tabIn K x=some (c,a)/\CD H m a (Yg x)
 | .obj c fs=>∃ C dx vfs,PySem.W.nsIn K mainGlobals c=some (some (.ref C))/\H a=some (.ins C dx vfs)/\eF K H m vfs fs
 | .gQ kvs=>∃ ks,H a=some (TD a ks)/\gn K H m ks kvs
structure ak (K:PySem.W.Frag) (H:Hp) (m:Mp) (st:aa):Prop where
 len:m.ls.length=st.length
 inj:∀ (i j:Nat) a,m.ls[i]?=some (some a)->m.ls[j]?=some (some a)->i=j
 dead:∀ n:Nat,m.ls[n]?=some none->st[n]?=some .dead
 np:∀ a,m.In a->¬ m.P a
 live:∀ a,m.In a->H a≠none
 trk:∀ a,m.P a->H a≠none
 cell:∀ (n:Nat) a c,m.ls[n]?=some (some a)->st[n]?=some c->dH K H m a c
theorem bH{H H':Hp}{m:Mp}(h:∀ a o,H a=some o->H' a=some o):Ext m H m H':=⟨zal _,fun _ _=>.inl rfl,rfl,fun a o q _=>h a o q,fun _ q n=>absurd q n⟩
theorem bf{H:Hp}{p:Addr}{o:HO}(hp:H p=none):∀ a u,H a=some u->upd H p o a=some u:=fun a u q=>by rw[upd_ne (ne_of_none q hp)];exact q
theorem dH.ext{K:PySem.W.Frag}{H H':Hp}{m m':Mp}(e:Ext m H m' H'){a:Addr}{c:Cell}(k:∀ o,H a=some o->H' a=some o)(h:dH K H m a c):dH K H' m' a c:=by
 cases c with
 |lst ds=>obtain⟨xs,h1,h2⟩:=h;exact⟨xs,k _ h1,h2.ext e⟩
 |dct kvs=>obtain⟨xs,h1,h2⟩:=h;exact⟨xs,k _ h1,h2.ext e⟩
 |dead=>trivial
 |tab x=>obtain⟨c,h1,h2⟩:=h;exact⟨c,h1,h2.stay e.stay k⟩
 |obj c fs=>obtain⟨C,dx,vfs,h1,h2,h3⟩:=h;exact⟨C,dx,vfs,h1,k _ h2,h3.ext e⟩
 |gQ kvs=>obtain⟨ks,h1,h2⟩:=h;exact⟨ks,k _ h1,h2.ext e⟩
theorem ak.le{K:PySem.W.Frag}{H H':Hp}{m:Mp}{st:aa}(s:ak K H m st)(h:∀ a o,H a=some o->H' a=some o):ak K H' m st where
 len:=s.len
 inj:=s.inj
 dead:=s.dead
 np:=s.np
 live:=fun a q z=>by
  cases e:H a with
  |none=>exact s.live a q e
  |some o=>exact eY (h a o e) z
 trk:=fun a q z=>by
  cases e:H a with
  |none=>exact s.trk a q e
  |some o=>exact eY (h a o e) z
 cell:=fun n a c h1 h2=>(s.cell n a c h1 h2).ext (bH h) (h a)
structure Gx where
 K:PySem.W.Frag
 mg:Str->Option Value
def wz(g:Gx)(H:Hp)(m:Mp)(e:jl)(cls:Value)(dd:Option Addr):Prop:=∃ C,g.mg e.cls=some (.ref C)/\cls=Value.ref C/\ ((e.az=[]/\dd=none)\/∃ d fs,dd=some d/\H d=some (.xd fs)/\lB m d/\eF g.K H m fs e.az)
def Out(g:Gx)(W:WX){α:Type}(m:Mp)(H:Hp)(σ:L2.St)(r:R α)(k:α->aa->Mp->Hp->Prop):Prop:=match r with
 | .ok a st=>∀ m' H',Ext m H m' H'->ak g.K H' m' st->k a st m' H'
 | .exc e st=>∀ m' H' cls dd,Ext m H m' H'->ak g.K H' m' st->wz g H' m' e cls dd->W cls dd σ H'
 | .no=>False
def ai(g:Gx){α:Type}(m:Mp)(H:Hp)(r:Option (α×aa))(k:α->aa->Mp->Hp->Prop):Prop:=match r with
 |some (a,st)=>∀ m' H',Ext m H m' H'->ak g.K H' m' st->k a st m' H'
 |none=>False
section
variable {g:Gx} {W:WX} {α β:Type} {m m1:Mp} {H H1:Hp} {σ:L2.St} {st:aa}
theorem Out.from{r:R α}{k:α->aa->Mp->Hp->Prop}(e:Ext m H m1 H1)(h:Out g W m H σ r k):Out g W m1 H1 σ r k:=by
 cases r with
 |ok a st=>exact fun m' H' e' s=>h m' H' (e.trans e') s
 |exc x st=>exact fun m' H' c d e' s=>h m' H' c d (e.trans e') s
 |no=>exact h
theorem Out.imp{r:R α}{k k':α->aa->Mp->Hp->Prop}(h:Out g W m H σ r k)(hk:∀ a st m' H',Ext m H m' H'->ak g.K H' m' st->k a st m' H'->k' a st m' H'):Out g W m H σ r k':=by
 cases r with
 |ok a st=>exact fun m' H' e' s=>hk a st m' H' e' s (h m' H' e' s)
 |exc x st=>exact h
 |no=>exact h
theorem Out.bind{r:R α}{f:α->aa->R β}{k:β->aa->Mp->Hp->Prop}(h:Out g W m H σ (r.bind f) k):Out g W m H σ r (fun a st1 m1 H1=>Out g W m1 H1 σ (f a st1) k):=by
 cases r with
 |ok a st=>exact fun m' H' e' s=>Out.from e' h
 |exc x st=>exact h
 |no=>exact h
theorem Out.aS{r:Option (α×aa)}{k:α->aa->Mp->Hp->Prop}(h:Out g W m H σ (R.aS r) k):ai g m H r k:=by
 cases r with
 |none=>exact h
 |some p=>obtain⟨a,st⟩:=p;exact h
theorem ai.imp{r:Option (α×aa)}{k k':α->aa->Mp->Hp->Prop}(h:ai g m H r k)(hk:∀ a st m' H',Ext m H m' H'->ak g.K H' m' st->k a st m' H'->k' a st m' H'):ai g m H r k':=by
 cases r with
 |none=>exact h
 |some p=>obtain⟨a,st⟩:=p;exact fun m' H' e' s=>hk a st m' H' e' s (h m' H' e' s)
theorem Out.here{a:α}{k:α->aa->Mp->Hp->Prop}(h:Out g W m H σ (.ok a st) k)(s:ak g.K H m st):k a st m H:=h m H .refl s
theorem ai.here{a:α}{k:α->aa->Mp->Hp->Prop}(h:ai g m H (some (a,st)) k)(s:ak g.K H m st):k a st m H:=h m H .refl s
theorem ai.fresh{a:α}{k:α->aa->Mp->Hp->Prop}(h:ai g m H (some (a,st)) k)(s:ak g.K H m st){p:Addr}{o:HO}(hp:H p=none):k a st m (upd H p o):=h m _ (bH (bf hp)) (s.le (bf hp))
theorem ak.frz{K:PySem.W.Frag}(s:ak K H m st){p:Addr}(hp:H p=none):lB m p:=⟨fun z=>s.live p z hp,fun z=>s.trk p z hp⟩
end
structure Rel (K:PySem.W.Frag) (H:Hp) (m:Mp) (σ:L2.St) (ρ:ae) (st:aa):Prop where
 len:σ.length=ρ.length
 env:∀ (i:Nat) x,ρ[i]?=some (some x)->∃ v,σ[i]?=some (some v)/\Rep K H m v x
 st:ak K H m st
theorem Rel.ext{K:PySem.W.Frag}{H H':Hp}{m m':Mp}{σ:L2.St}{ρ:ae}{st st':aa}(r:Rel K H m σ ρ st)(e:Ext m H m' H')(s:ak K H' m' st'):Rel K H' m' σ ρ st':=⟨r.len,fun i x h=>let⟨v,h1,h2⟩:=r.env i x h;⟨v,h1,h2.ext e⟩,s⟩
def DE(g:Gx)(W:WX)(f:ae->aa->R Val):TE:=fun σ H Q=>∃ m ρ st,Rel g.K H m σ ρ st/\Out g W m H σ (f ρ st) fun x _ m' H'=>∀ v,Rep g.K H' m' v x->Q v H'
def DT(g:Gx)(W:WX)(f:ae->aa->R Bool):TT:=fun σ H Q=>∃ m ρ st,Rel g.K H m σ ρ st/\Out g W m H σ (f ρ st) fun b _ _ H'=>Q b H'
def DA(g:Gx)(W:WX)(f:ae->aa->R (List Val)):TA:=fun σ H Q=>∃ m ρ st,Rel g.K H m σ ρ st/\Out g W m H σ (f ρ st) fun xs _ m' H'=>∀ vs,aW g.K H' m' vs xs->Q vs H'
section
variable {X:Cx}
theorem PEw{e:Expr}{t t':TE}(h:PE X e t)(w:∀ σ H Q,t' σ H Q->t σ H Q):PE X e t':=⟨fun pins s σ H Q I q=>h.run pins s σ H Q I (w σ H Q q)⟩
theorem PTw{e:Expr}{t t':TT}(h:PT X e t)(w:∀ σ H Q,t' σ H Q->t σ H Q):PT X e t':=⟨fun pins s σ H Q I q=>h.run pins s σ H Q I (w σ H Q q)⟩
theorem Wn{e:Expr}{t t':TT}(h:PW X e t)(w:∀ σ H Q,t' σ H Q->t σ H Q):PW X e t':=⟨fun wh pins s σ H Q I q=>h.run wh pins s σ H Q I (w σ H Q q)⟩
theorem K3{e:List Expr}{t t':TA}(h:PA X e t)(w:∀ σ H Q,t' σ H Q->t σ H Q):PA X e t':=⟨fun pos pins s σ H Q I q=>h.run pos pins s σ H Q I (w σ H Q q)⟩
theorem OpR.pick{f:Value->Value->Sem Value}{r:R2}(h:∀ x y H Q,r x y H Q->∃ r',OpR X f r'/\r' x y H Q):OpR X f r:=fun pins s σ H x y v u Q I rx ry q=>let⟨_,h1,h2⟩:=h x y H Q q;h1 pins s σ H x y v u Q I rx ry h2
theorem CallR.pick{f:Value}{r:List V->Hp->VK->Prop}(h:∀ xs H Q,r xs H Q->∃ r',CallR X f r'/\r' xs H Q):CallR X f r:=fun pins s σ H xs us Q I rx q=>let⟨_,h1,h2⟩:=h xs H Q q;h1 pins s σ H xs us Q I rx h2
end
def K4(g:Gx)(op:Val->Val->aa->Option (Val×aa)):R2:=fun x y H Q=>∃ m st a b,ak g.K H m st/\Rep g.K H m x a/\Rep g.K H m y b/\ai g m H (op a b st) fun z _ m' H'=>∀ v,Rep g.K H' m' v z->Q v H'
def rDn(g:Gx)(op:List Val->aa->Option (Val×aa)):List V->Hp->VK->Prop:=fun xs H Q=>∃ m st as,ak g.K H m st/\aW g.K H m xs as/\ai g m H (op as st) fun z _ m' H'=>∀ v,Rep g.K H' m' v z->Q v H'
def rDm(g:Gx)(op:Val->List Val->aa->Option (Val×aa)):V->List V->Hp->VK->Prop:=fun x xs H Q=>∃ m st a as,ak g.K H m st/\Rep g.K H m x a/\aW g.K H m xs as/\ai g m H (op a as st) fun z _ m' H'=>∀ v,Rep g.K H' m' v z->Q v H'
theorem R.bind_assoc{α β γ:Type}(r:R α)(f:α->aa->R β)(h:β->aa->R γ):(r.bind f).bind h=r.bind fun a st=>(f a st).bind h:=by cases r <;> rfl
section
variable {X:Cx} {W:WX} {a b:Expr} {pos:Pos}
def iH(op:Val->Val->aa->Option (Val×aa))(fa fb:ae->aa->R Val):ae->aa->R Val:=fun ρ st=>(fa ρ st).bind fun x st1=>(fb ρ st1).bind fun y st2=>R.aS (op x y st2)
theorem yv{g:Gx}{op:Val->Val->aa->Option (Val×aa)}{fa fb:ae->aa->R Val}{σ:L2.St}{H:Hp}{Q:VK}(h:DE g W (iH op fa fb) σ H Q):tOp (K4 g op) (DE g W fa) (DE g W fb) σ H Q:=by obtain⟨m,ρ,st,r,o⟩:=h;refine⟨m,ρ,st,r,(Out.bind o).imp fun x st1 m1 H1 e1 s1 o1 v rv=>?_⟩;refine⟨m1,ρ,st1,r.ext e1 s1,(Out.bind o1).imp fun y st2 m2 H2 e2 s2 o2 u ru=>?_⟩;exact⟨m2,st2,x,y,s2,rv.ext e2,ru,Out.aS o2⟩
theorem O5{o:Operator}{op:Val->Val->aa->Option (Val×aa)}{fa fb:ae->aa->R Val}(ho:OpR X (binaryOp o) (K4 ⟨X.K,X.mg⟩ op))(ha:PE X a (DE ⟨X.K,X.mg⟩ W fa))(hb:PE X b (DE ⟨X.K,X.mg⟩ W fb)):
 PE X (.BinOp a o b pos) (DE ⟨X.K,X.mg⟩ W (iH op fa fb)):=PEw (pe_op ho ha hb) fun _ _ _ h=>yv h
end
inductive jK where
 |add |sub |mul |mod |fdiv |pow |shr |band |Hz
 deriving DecidableEq
inductive uM where
 |eq |ne |lt |le |gt |ge |is |oY |isin |oZ
 deriving DecidableEq
inductive Ty where
 |tuple |list |str |int |bool |dict
 deriving DecidableEq
inductive Bi where
 |len |tuple |list |UY |all |any |str |repr |sorted |int |abs |min2 |max2 |sum |dict |UZ |bool |yZ |Yh |Yi
 deriving DecidableEq
inductive Me where
 |append |extend |pop |K5 |join |upper |EJ |O6 |strip |rstrip |lstrip |split |find3 |mO |isalnum |count |O7 |lg |index |insert |remove |replace |i8 |O8 |Mn |update |CF |startswith |endswith |jm
 deriving DecidableEq
mutual
inductive E where
 |var (i:Nat)
 |cst (d:PyData)
 |glob (n:Nat)
 |bin (o:jK) (a b:E)
 |neg (a:E)
 |cmp (o:uM) (a b:E)
 |chain (o o':uM) (a b c:E)
 |and (es:Es)
 |or (es:Es)
 |not (a:E)
 |ite (c a b:E)
 |tup (es:Es)
 |lst (mu:Bool) (es:Es)
 |dct (mu:Bool) (kvs:nR)
 |ix (a i:E)
 |slice (a:E) (lo hi:Pt)
 |rev (a:E)
 |K6 (a:E) (lo:Nat)
 |none_
 |Wo (neg:Bool) (a:E) (g:Nat)
 |xA (g:Nat) (i:E)
 |call (f:Nat) (args:Es)
 |bi (b:Bi) (args:Es)
 |nS (a:E) (ts:List Ty)
 |me (m:Me) (a:E) (args:Es)
 |comp (mu:Bool) (elt:E) (tg:Tg) (it:It) (ifs:Es) (own:List Nat)
 |frz (a:E)
 |O9 (a:E)
 |never
 |o7 (mu:Bool) (elt:E) (tg:Tg) (it:It) (ifs:Es) (tg1:Tg) (it1:It) (ifs1:Es) (own own1:List Nat)
 |yZ (a:E)
 |Pb (mu:Bool) (a:E)
 /-- list(range(a,b,c)) -/
 |Wq (as:Es)
 /-- list(reversed(a)),a tuple: a new cell -/
 |Pc (a:E)
 /-- list(a.items()),a dict: a new cell -/
 |EK (a:E)
 |sV (a:E) (cs:List Str)
 |fld (a:E) (f:Str)
 /-- c(..,k=..),an instance -/
 |new (c:Str) (args ks:Es)
 /-- a.m(..),a of the class c -/
 |av (c m:Str) (a:E) (args:Es)
 |o8 (mu:Bool) (k v:E) (tg:Tg) (it:It) (ifs:Es) (own:List Nat)
 /-- min(a,key=lambda i: k),in the def x,its table the cell t -/
 |EL (t:Nat) (x:Str) (a:E) (i:Nat) (k:E)
 /-- {},its keys tuples of whole numbers: a new cell,or data -/
 |K7 (mu:Bool)
 /-- {k: v},k such a tuple -/
 |K8 (kvs:nR)
 |Ws (neg:Bool) (a d:E)
 |K9 (d k:E)
 /-- d[k],where a dict stands that is data from here on -/
 |La (d k:E)
 /-- min(d.values()) -/
 |Pd (d:E)
 /-- d == {} -/
 |Pe (d:E)
 /-- isinstance(a,c),c an own class,a of one of the classes cs -/
 |kJ (a:E) (c:Str) (cs:List Str)
 /-- a[lo:hi],a a list: a new cell -/
 |EM (a:E) (lo hi:Pt)
 /-- a != [] -/
 |Lb (a:E)
inductive nR where
 |nil
 |cons (k v:E) (r:nR)
inductive Pt where
 |no
 |e (a:E)
inductive Es where
 |nil
 |cons (e:E) (r:Es)
inductive It where
 |e (a:E)
 |rng (as:Es)
 |Pf (as:Es)
 |zip (as:Es)
 |items (a:E)
 /-- items of a dict whose keys are tuples of whole numbers -/
 |EN (a:E)
 /-- a written tuple,whatever its items -/
 |Pg (es:Es)
 |values (a:E)
 |rev (a:E)
inductive Tg where
 |name (i:Nat)
 |tup (ts:jL)
 |sub (a i:E)
 |star (i j:Nat)
 /-- a.f,a of the class c -/
 |fld (a:E) (f:Str)
 /-- a[i],a such a dict -/
 |subT (a i:E)
inductive jL where
 |nil
 |cons (t:Tg) (r:jL)
end
inductive SI where
 |cst (d:PyData)
 |var (i:Nat)
 |frz (i:Nat)
 |fld (f:Str)
inductive Su where
 |keep (j:Nat)
 |ret (b:Bool) (xs:List SI)
 |set (j:Nat) (d:PyData)
 /-- raise c(..)from None;c's fields -/
 |o9 (c:Str) (fl:List Str) (xs:List SI)
mutual
inductive S where
 |expr (e:E)
 |asg (t:Tg) (e:E)
 |par (i j:Nat) (a b:E)
 |jP (i j l:Nat) (a b c:E)
 |lO (ts:jL) (es:Es)
 |never
 |aug (i:Nat) (o:jK) (e:E)
 /-- a.f o= e -/
 |qk (a:E) (f:Str) (o:jK) (e:E)
 |ret (e:E)
 |y9
 |ite (c:E) (a b:Ss)
 |gY (t:Tg) (it:It) (b:Ss)
 |cX (c:E) (b:Ss)
 |brk
 |cont
 |pass
 |raise (c:Str) (es:Es)
 |nB (body:Ss) (cs:List Str) (i:Option Nat) (su:Su)
inductive Ss where
 |nil
 |cons (s:S) (r:Ss)
end
structure Fn where
 np:Nat
 ns:Nat
 keep:Bool
 body:Ss
def datas:List Val->Option (List PyData)
 | []=>some []
 | .d x::r=>(datas r).map (x::·)
 |_::_=>none
def fT(st:aa):Val->Option (List Val)
 | .d (.list xs)=>some (xs.map Val.d)
 | .loc n=>match st[n]? with
   |some (.lst xs)=>some xs
   |_=>none
 |_=>none
def fu(st:aa)(v:Val):Option (List PyData):=(fT st v).bind datas
def iI(st:aa):Val->Option (List Val)
 | .d (.tuple xs)=>some (xs.map Val.d)
 |v=>fT st v
def eG(st:aa):Val->Option (List (PyData×Val))
 | .d (.dict kvs)=>some (kvs.map fun p=>(p.1,Val.d p.2))
 | .loc n=>match st[n]? with
   |some (.dct kvs)=>some kvs
   |_=>none
 |_=>none
def iA(st:aa):Val->Option PyData
 | .d x=>some x
 | .loc n=>match st[n]? with
   |some (.lst xs)=>(datas xs).map PyData.list
   |_=>none
 |_=>none
def uN(st:aa)(v:Val):Option Bool:=match v with
 | .d .none=>some false
 | .d (.bool b)=>some b
 | .d (.int i)=>some (i != 0)
 | .d (.str x)=>if x.length<=sizeLine then some ((x.length:Int) != 0)else none
 |v=>(iI st v).map fun xs=>!xs.isEmpty
abbrev jM:=Val->Val->aa->Option (Val×aa)
def guard'{α:Type}(c:Prop)[Decidable c](x:Option α):Option α:=if c then x else none
def dat(st:aa)(x:PyData):Option (Val×aa):=some (.d x,st)
def lP{α:Type}(k:Int)(xs:List α):List α:=(List.replicate k.toNat xs).flatten
def pY(b:Bool):Int:=if b=true then 1 else 0
def nC:jM:=fun a b st=>match a,b with
 | .d (.int i),.d (.int j)=>dat st (.int (i+j))
 | .d (.bool i),.d (.int j)=>dat st (.int (pY i+j))
 | .d (.int i),.d (.bool j)=>dat st (.int (i+pY j))
 | .d (.str x),.d (.str y)=>guard' (x.length+y.length<=sizeLine) (dat st (.str (x++y)))
 | .d (.tuple xs),.d (.tuple ys)=>guard' (xs.length+ys.length<=sizeLine) (dat st (.tuple (xs++ys)))
 |a,b=>(fu st a).bind fun xs=>(fu st b).bind fun ys=>guard' (xs.length+ys.length<=sizeLine) (dat st (.list (xs++ys)))
def za:jM:=fun a b st=>match a,b with
 | .d (.int i),.d (.int j)=>dat st (.int (i-j))
 | .d (.bool i),.d (.int j)=>dat st (.int (pY i-j))
 | .d (.int i),.d (.bool j)=>dat st (.int (i-pY j))
 |_,_=>none
def zb:jM:=fun a b st=>match a,b with
 | .d (.int i),.d (.int j)=>guard' (i.natAbs.log2+j.natAbs.log2<1000000) (dat st (.int (i * j)))
 | .d (.str x),.d (.int k)=>guard' (-(2 ^ 63)<=k/\k<2 ^ 63/\x.length * k.toNat<=sizeLine) (dat st (.str ⟨(lP k x.cps.toList).toArray⟩))
 | .d (.tuple xs),.d (.int k)=>guard' (-1000<=k/\k<=1000/\xs.length<=1000) (dat st (.tuple (lP k xs)))
 | .d (.list xs),.d (.int k)=>guard' (-(2 ^ 63)<=k/\k<2 ^ 63/\xs.length * k.toNat<=sizeLine) (dat st (.list (lP k xs)))
 |_,_=>none
def oMod:jM:=fun a b st=>match a,b with
 | .d (.int i),.d (.int j)=>guard' (0<j) (dat st (.int (i % j)))
 |_,_=>none
def uO:jM:=fun a b st=>match a,b with
 | .d (.int i),.d (.int j)=>guard' (0<j/\j.natAbs.log2<9000) (dat st (.int (i / j)))
 |_,_=>none
def wB:jM:=fun a b st=>match a,b with
 | .d (.int i),.d (.int j)=>guard' (0<=j/\j<=1000000/\i.natAbs<2 ^ 64) (dat st (.int (i ^ j.toNat)))
 |_,_=>none
def HA:jM:=fun a b st=>match a,b with
 | .d (.int i),.d (.int j)=>guard' (0<=j) (dat st (.int (i / 2 ^ j.toNat)))
 |_,_=>none
def CG:jM:=fun a b st=>match a,b with
 | .d (.int i),.d (.int j)=>dat st (.int (Builtin.bitAnd i j))
 |_,_=>none
def yw:jM:=fun a b st=>(fT st a).bind fun xs=>(fT st b).bind fun ys=>guard' (xs.length+ys.length<=sizeLine) (some (.loc st.length,st++[.lst (xs++ys)]))
def gZ:jK->jM
 | .add=>nC | .sub=>za | .mul=>zb | .mod=>oMod | .fdiv=>uO | .pow=>wB | .shr=>HA | .band=>CG | .Hz=>yw
def bl(st:aa)(b:Bool):Option (Val×aa):=dat st (.bool b)
def eqO(x y:PyData):Option Bool:=
 if x.plain=true/\y.plain=true/\x.depth<=64/\y.depth<=64 then some (x.eqv y)else
  match x,y with
  | .tuple xs,.tuple []=>some xs.isEmpty
  | .list xs,.list ys=>if xs.length≠ys.length then some false else none
  |_,_=>none
def By(x:PyData)(ds:List PyData):Option Bool:=if x.plain=true/\x.depth<=64/\PyData.plainAll ds=true/\PyData.depthAll ds<=63 then some (ds.any fun z=>z.eqv x)else none
def bJ(kvs:List (PyData×Val))(k:PyData):Option Val:=match kvs with
 | []=>none
 |p::r=>if p.1=k then some p.2 else bJ r k
def gp:List (PyData×PyData)->Str->Option PyData
 | [],_=>none
 |p::r,x=>if p.1= .str x then some p.2 else gp r x
def isKey:PyData->Bool
 | .int _ | .str _=>true
 |_=>false
def dO(st:aa)(v:Val):Option (List PyData):=(iI st v).bind datas
def tyOf(st:aa):Val->Option Ty
 | .d .none=>none
 | .d (.bool _)=>some .bool
 | .d (.int _)=>some .int
 | .d (.str _)=>some .str
 | .d (.list _)=>some .list
 | .d (.tuple _)=>some .tuple
 | .d (.dict _)=>some .dict
 | .loc n=>match st[n]? with
   |some (.lst _)=>some .list
   |some (.dct _)=>some .dict
   |_=>none
 |_=>none
def gq:Val->Val->aa->Option Bool:=fun a b st=>match a,b with
 | .d (.str x),.d (.str y)=>some (!(Builtin.Str.occurrences y x 0 y.length 1).isEmpty)
 | .d x,b=>match tyOf st b with
   |some .dict=>(eG st b).bind fun kvs=>guard' (isKey x=true) (some (bJ kvs x).isSome)
   |_=>(dO st b).bind (By x)
 |_,_=>none
def zd:Val->Val->Option Bool:=fun a b=>match a,b with
 | .d (.int i),.d (.int j)=>some (decide (i<j))
 | .d (.str x),.d (.str y)=>some (decide (x.cps.toList<y.cps.toList))
 |_,_=>none
def EQ:Val->Val->Option Bool:=fun a b=>match a,b with
 | .d (.list xs),.d (.list ys)=>if PySem.W.alike (.list xs) (.list ys)=true/\(PyData.list xs).depth<=64 then some (PySem.W.dataLt (.list xs) (.list ys))else none
 | .d (.tuple xs),.d (.tuple ys)=>if PySem.W.alike (.tuple xs) (.tuple ys)=true/\(PyData.tuple xs).depth<=64 then some (PySem.W.dataLt (.tuple xs) (.tuple ys))else none
 |a,b=>zd a b
def ze:Val->Val->Option Bool:=fun a b=>match a,b with
 | .d (.int i),.d (.int j)=>some (decide (i<=j))
 | .d (.str x),.d (.str y)=>some (!decide (y.cps.toList<x.cps.toList))
 |_,_=>none
def ql(st:aa)(a b:Val):Option Bool:=match iA st a,iA st b with
 |some x,some y=>eqO x y
 |_,_=>none
def kK:Val->Val->Option Bool:=fun a b=>match a,b with
 | .xc _ _,.d .none=>some false
 | .d x,.d .none=>some (decide (x= .none))
 | .d (.bool i),.d (.bool j)=>some (decide (i=j))
 |_,_=>none
def cI:uM->jM
 | .eq=>fun a b st=>(ql st a b).bind fun k=>bl st k
 | .ne=>fun a b st=>(ql st a b).bind fun k=>bl st (!k)
 | .lt=>fun a b st=>(EQ a b).bind fun k=>bl st k
 | .gt=>fun a b st=>(zd b a).bind fun k=>bl st k
 | .le=>fun a b st=>(ze a b).bind fun k=>bl st k
 | .ge=>fun a b st=>(ze b a).bind fun k=>bl st k
 | .is=>fun a b st=>(kK a b).bind fun k=>bl st k
 | .oY=>fun a b st=>(kK a b).bind fun k=>bl st (!k)
 | .isin=>fun a b st=>(gq a b st).bind fun k=>bl st k
 | .oZ=>fun a b st=>(gq a b st).bind fun k=>bl st (!k)
def cW:jM:=fun a b st=>match a,b with
 | .bW ns,.d (.int i)=>(atI ns i).bind fun v=>dat st (.int v)
 | .d (.str x),.d (.int i)=>if x.length<=sizeLine then(atI x.cps.toList i).bind fun c=>dat st (.str ⟨#[c]⟩)else none
 | .d (.tuple xs),.d (.int i)=>(atI xs i).bind fun v=>dat st v
 |a,.d k=>match tyOf st a with
  |some .dict=>(eG st a).bind fun kvs=>guard' (isKey k=true) ((bJ kvs k).bind fun v=>some (v,st))
  |_=>match k with
   | .int i=>(fT st a).bind fun xs=>(atI xs i).bind fun v=>some (v,st)
   |_=>none
 |_,_=>none
def g7{α:Type}(xs:List α)(lo hi:Option Int):List α:=(xs.drop (HT.sIx xs.length 0 lo)).take (HT.sIx xs.length xs.length hi-HT.sIx xs.length 0 lo)
def Ph(lo:Option Int)(n:Nat):List Nat:=PySem.sliceRange (PySem.sliceBounds lo none (some 2) n).1 (PySem.sliceBounds lo none (some 2) n).2.1 (PySem.sliceBounds lo none (some 2) n).2.2
def U0{α:Type}(lo:Option Int)(xs:List α):List α:=(Ph lo xs.length).filterMap (xs[·]?)
def fU(a:Val)(lo hi:Option Int)(st:aa):Option (Val×aa):=match a with
 | .d (.str x)=>guard' (x.length<=sizeLine) (dat st (.str ⟨(g7 x.cps.toList lo hi).toArray⟩))
 | .d (.tuple xs)=>dat st (.tuple (g7 xs lo hi))
 | .bW ns=>dat st (.list ((g7 ns lo hi).map PyData.int))
 |a=>(fu st a).bind fun ds=>dat st (.list (g7 ds lo hi))
def Ld(st:aa):Val->Bool
 | .d _=>true
 | .loc n=>match st[n]? with
   |some (.lst _)=>true
   |some (.dct _)=>true
   |_=>false
 |_=>false
def isT(t:Option Ty)(u:Ty):Bool:=match t,u with
 |some .bool,.int=>true
 |some a,b=>decide (a=b)
 |none,_=>false
def lQ(st:aa)(v:Val)(ts:List Ty):Option Bool:=if Ld st v=true then some (ts.any (isT (tyOf st v)))else none
def boolsOf:List PyData->Option (List Bool)
 | []=>some []
 | .bool b::r=>(boolsOf r).map (b::·)
 |_::_=>none
def intsOf:List PyData->Option (List Int)
 | []=>some []
 | .int b::r=>(intsOf r).map (b::·)
 |_::_=>none
def Yj:List Int->Option Int
 | []=>none
 |x::r=>some (r.foldl (fun a b=>if a<b then b else a) x)
def strsOf:List PyData->Option (List Str)
 | []=>some []
 | .str b::r=>(strsOf r).map (b::·)
 |_::_=>none
def aq{α:Type}(acc:List (PyData×α)):List (PyData×α)->List (PyData×α)
 | []=>acc
 |(k,v)::r=>aq (if acc.any (fun p=>decide (p.1=k))then acc.map fun p=>if p.1=k then(k,v)else p else acc++[(k,v)]) r
def bY:List (PyData×Val)->Option (List (PyData×PyData))
 | []=>some []
 |(k,.d v)::r=>(bY r).map ((k,v)::·)
 |_::_=>none
def Le(f:Val->aa->Option (PyData×aa)):List Val->aa->Option (List PyData×aa)
 | [],st=>some ([],st)
 |x::xs,st=>match f x st with
  |some (d,st1)=>match Le f xs st1 with
   |some (ds,st2)=>some (d::ds,st2)
   |none=>none
  |none=>none
def Lf(f:Val->aa->Option (PyData×aa)):List (PyData×Val)->aa->Option (List (PyData×PyData)×aa)
 | [],st=>some ([],st)
 |(k,x)::xs,st=>match f x st with
  |some (d,st1)=>match Lf f xs st1 with
   |some (ds,st2)=>some ((k,d)::ds,st2)
   |none=>none
  |none=>none
def CH:Nat->Val->aa->Option (PyData×aa)
 |_,.d x,st=>some (x,st)
 | 0,_,_=>none
 |k+1,.loc n,st=>match st[n]? with
  |some (.lst xs)=>match Le (CH k) xs (st.set n .dead)with
   |some (ds,st1)=>some (.list ds,st1)
   |none=>none
  |some (.dct kvs)=>match Lf (CH k) kvs (st.set n .dead)with
   |some (ds,st1)=>some (.dict ds,st1)
   |none=>none
  |_=>none
 |_+1,_,_=>none
def U3(v:Val)(st1:aa):R Val:=match CH 4 v st1 with
 |some (d,st2)=>.ok (.d d) st2
 |none=>.no
def zf:List PyData->Option (List (PyData×Val))
 | []=>some []
 | .tuple [k,x]::r=>if isKey k=true then(zf r).map ((k,.d x)::·)else none
 |_::_=>none
def notNone:PyData->Bool
 | .none=>false
 |_=>true
def uP(ks:List PyData):Bool:=ks.all fun a=>notNone a && decide (a.depth<=64) && ks.all fun b=>PySem.W.alike a b
def Yk:PyData->Bool
 | .tuple (_::_)=>true
 |_=>false
def Pj:PyData->Bool
 | .tuple _=>false
 |_=>true
def nameOf:PyData->Option Str
 | .tuple (.str x::_)=>some x
 |_=>none
def Pk(ds:List PyData):Bool:=ds.all (fun d=>(nameOf d).isSome && PySem.W.alike d d && decide (d.depth<=64)) && decide ((ds.map nameOf).Nodup)
def U4(ds:List PyData):Bool:=(uP ds && (ds.all Yk ||ds.all Pj)) ||Pk ds
def U5(ds:List PyData):List PyData:=ds.mergeSort fun a b=>!PySem.W.dataLt b a
def Lg(xs:List Str):List Str:=xs.mergeSort fun a b=>!decide (b.cps.toList<a.cps.toList)
def sortI(xs:List Int):List Int:=xs.mergeSort fun a b=>decide (a<=b)
def CJ(ks:List PyData)(n:Nat):Nat:=argBest (fun a b=>PySem.W.dataLt (ks.getD a .none) (ks.getD b .none)) n
abbrev Lh:=List Val->aa->Option (Val×aa)
def cJ:Bi->Lh
 | .len=>fun vs st=>match vs with
   | [.d (.str x)]=>guard' (x.length<=sizeLine) (dat st (.int x.length))
   | [.bW ns]=>dat st (.int ns.length)
   | [v]=>match tyOf st v with
     |some .dict=>(eG st v).bind fun kvs=>dat st (.int kvs.length)
     |_=>(iI st v).bind fun xs=>dat st (.int xs.length)
   |_=>none
 | .tuple=>fun vs st=>match vs with
   | [v]=>(dO st v).bind fun ds=>dat st (.tuple ds)
   |_=>none
 | .list=>fun vs st=>match vs with
   | [.d (.str x)]=>guard' (x.length<=1000) (dat st (.list (x.cps.toList.map fun c=>PyData.str ⟨#[c]⟩)))
   | [v]=>(dO st v).bind fun ds=>dat st (.list ds)
   |_=>none
 | .UY=>fun vs st=>match vs with
   | [v]=>(iI st v).bind fun xs=>some (.loc st.length,st++[.lst xs])
   |_=>none
 | .all=>fun vs st=>match vs with
   | [v]=>(fu st v).bind fun ds=>(boolsOf ds).bind fun bs=>bl st (bs.all id)
   |_=>none
 | .any=>fun vs st=>match vs with
   | [v]=>(fu st v).bind fun ds=>(boolsOf ds).bind fun bs=>bl st (bs.any id)
   |_=>none
 | .str=>fun vs st=>match vs with
   | [.d (.int n)]=>guard' (n.natAbs.log2<1920) (dat st (.str (toString n)))
   | [.d (.str x)]=>dat st (.str x)
   | [v]=>(iA st v).bind fun d=>guard' (d.showable=true/\d.depth<=64/\d.shown.length<=sizeLine) (dat st (.str d.shown))
   |_=>none
 | .repr=>fun vs st=>match vs with
   | [v]=>(iA st v).bind fun d=>guard' (d.showable=true/\d.depth<=64/\d.shown.length<=sizeLine) (dat st (.str d.shown))
   |_=>none
 | .sorted=>fun vs st=>match vs with
   | [v]=>match tyOf st v with
     |some .dict=>(eG st v).bind fun kvs=>(strsOf (kvs.map (·.1))).bind fun xs=>guard' (xs.length<64) (dat st (.list ((Lg xs).map PyData.str)))
     |_=>(fu st v).bind fun ds=>match intsOf ds with
      |some ns=>dat st (.list ((sortI ns).map PyData.int))
      |none=>match strsOf ds with
       |some xs=>guard' (xs.length<64) (dat st (.list ((Lg xs).map PyData.str)))
       |none=>guard' (U4 ds=true) (dat st (.list (U5 ds)))
   |_=>none
 | .int=>fun vs st=>match vs with
   | [.d (.int n)]=>dat st (.int n)
   | [.d (.bool b)]=>dat st (.int (if b then 1 else 0))
   | [.d (.str x)]=>(PySem.intText? x).bind fun n=>guard' (x.length<=640) (dat st (.int n))
   |_=>none
 | .abs=>fun vs st=>match vs with
   | [.d (.int n)]=>dat st (.int (if n<0 then -n else n))
   |_=>none
 | .min2=>fun vs st=>match vs with
   | [.d (.int m),.d (.int n)]=>dat st (.int (if n<m then n else m))
   |_=>none
 | .max2=>fun vs st=>match vs with
   | [.d (.int m),.d (.int n)]=>dat st (.int (if n > m then n else m))
   |_=>none
 | .sum=>fun vs st=>match vs with
   | [v]=>(fu st v).bind fun ds=>(intsOf ds).bind fun ns=>dat st (.int ns.sum)
   |_=>none
 | .Yi=>fun vs st=>match vs with
   | [v]=>(fu st v).bind fun ds=>guard' (0<ds.length/\uP ds=true) (dat st (ds.getD (CJ ds (ds.length-1)) .none))
   |_=>none
 | .Yh=>fun vs st=>match vs with
   | [v]=>(fu st v).bind fun ds=>(intsOf ds).bind fun ns=>(Yj ns).bind fun i=>dat st (.int i)
   |_=>none
 | .dict=>fun vs st=>match vs with
   | [v]=>(dO st v).bind fun ds=>(zf ds).bind fun kvs=>(bY (aq [] kvs)).bind fun d=>dat st (.dict d)
   |_=>none
 | .UZ=>fun vs st=>match vs with
   | [v]=>(dO st v).bind fun ds=>(zf ds).bind fun kvs=>some (.loc st.length,st++[.dct (aq [] kvs)])
   |_=>none
 |_=>fun _ _=>none
def CK:Me->Ty
 | .append | .extend | .pop | .K5 | .insert | .remove | .index | .EJ | .O6=>.list
 | .O7 | .lg | .update | .CF=>.dict
 |_=>.str
def recv(m:Me)(st:aa)(v:Val):Bool:=match CK m,v with
 | .str,.d (.str _)=>true
 | .list,v=>(fT st v).isSome
 | .dict,v=>(eG st v).isSome
 |_,_=>false
abbrev Wt:=Val->List Val->aa->Option (Val×aa)
def setC(st:aa)(n:Nat)(c:Cell):aa:=st.set n c
def bO:Me->Wt
 | .append=>fun a vs st=>match a,vs with
   | .loc n,[v]=>match st[n]? with
     |some (.lst xs)=>guard' (xs.length<sizeLine) (some (.d .none,setC st n (.lst (xs++[v]))))
     |_=>none
   |_,_=>none
 | .extend=>fun a vs st=>match a,vs with
   | .loc n,[v]=>match st[n]?,iI st v with
     |some (.lst xs),some ys=>guard' (xs.length+ys.length<=sizeLine) (some (.d .none,setC st n (.lst (xs++ys))))
     |_,_=>none
   |_,_=>none
 | .pop=>fun a vs st=>match a,vs with
   | .loc n,[]=>match st[n]? with
     |some (.lst xs)=>(xs[xs.length-1]?).bind fun y=>some (y,setC st n (.lst xs.dropLast))
     |_=>none
   |_,_=>none
 | .K5=>fun a vs st=>match a,vs with
   | .loc n,[.d (.int i)]=>match st[n]? with
     |some (.lst xs)=>guard' (-(2 ^ 63)<=i/\i<2 ^ 63) ((seqIndex? i xs.length).bind fun k=>(xs[k]?).bind fun y=>some (y,setC st n (.lst (xs.eraseIdx k))))
     |_=>none
   |_,_=>none
 | .join=>fun a vs st=>match a,vs with
   | .d (.str s),[v]=>(dO st v).bind fun ds=>(strsOf ds).bind fun ys=>guard' ((ys.map (·.length)).sum+ys.length * s.length<=16777216) (dat st (.str (Txt.join s ys)))
   |_,_=>none
 | .upper=>fun a vs st=>match a,vs with
   | .d (.str s),[]=>guard' (s.length<=5592405) (dat st (.str (Txt.upper s)))
   |_,_=>none
 | .split=>fun a vs st=>match a,vs with
   | .d (.str s),[.d (.str b)]=>guard' ((b.length == 0)=false/\s.length+2<=sizeLine) (dat st (.list ((Txt.split s b).map PyData.str)))
   |_,_=>none
 | .find3=>fun a vs st=>match a,vs with
   | .d (.str s),[.d (.str b),.d (.int i)]=>dat st (.int (Txt.find3 s b i))
   |_,_=>none
 | .mO=>fun a vs st=>match a,vs with
   | .d (.str s),[.d (.str b),.d (.int i),.d (.int j)]=>dat st (.int (Txt.findIn s b i j))
   |_,_=>none
 | .i8=>fun a vs st=>match a,vs with
   | .d (.str s),[.d (.str b)]=>guard' (s.length<=sizeLine) (dat st (.str (Txt.rstripChars s b)))
   |_,_=>none
 | .count=>fun a vs st=>match a,vs with
   | .d (.str s),[.d (.str b)]=>dat st (.int (Txt.count s b))
   |_,_=>none
 | .isalnum=>fun a vs st=>match a,vs with
   | .d (.str s),[]=>dat st (.bool (Txt.isalnum s))
   |_,_=>none
 | .O7=>fun a vs st=>match vs with
   | [.d k]=>(eG st a).bind fun kvs=>guard' (isKey k=true) (some ((bJ kvs k).getD (.d .none),st))
   |_=>none
 | .lg=>fun a vs st=>match vs with
   | [.d k,x]=>(eG st a).bind fun kvs=>guard' (isKey k=true) (some ((bJ kvs k).getD x,st))
   |_=>none
 | .update=>fun a vs st=>match a,vs with
   | .loc n,[v]=>match st[n]?,eG st v with
     |some (.dct kvs),some ys=>guard' (kvs.length+ys.length<=sizeLine/\v≠.loc n) (some (.d .none,setC st n (.dct (aq kvs ys))))
     |_,_=>none
   |_,_=>none
 | .jm=>fun a vs st=>match a,vs with
   | .d (.str s),[.d (.str b)]=>((Builtin.Str.occurrences s b 0 s.length 1).head?).bind fun i=>dat st (.int (i:Nat))
   |_,_=>none
 | .strip=>fun a vs st=>match a,vs with
   | .d (.str s),[]=>guard' (s.length<=sizeLine) (dat st (.str (Txt.strip s)))
   |_,_=>none
 | .lstrip=>fun a vs st=>match a,vs with
   | .d (.str s),[]=>guard' (s.length<=sizeLine) (dat st (.str (Txt.lstrip s)))
   |_,_=>none
 | .O8=>fun a vs st=>match a,vs with
   | .d (.str s),[.d (.str b)]=>guard' (s.length<=sizeLine) (dat st (.str (Txt.stripChars s b)))
   |_,_=>none
 | .Mn=>fun a vs st=>match a,vs with
   | .d (.str s),[.d (.str b)]=>guard' (s.length<=sizeLine) (dat st (.str (Txt.lstripChars s b)))
   |_,_=>none
 | .startswith=>fun a vs st=>match a,vs with
   | .d (.str s),[.d (.str b)]=>dat st (.bool (Txt.startswith s b))
   |_,_=>none
 | .replace=>fun a vs st=>match a,vs with
   | .d (.str s),[.d (.str y),.d (.str z)]=>guard' (s.length+(s.length+1) * z.length<=16777216) (dat st (.str (Txt.replace s y z)))
   |_,_=>none
 | .index=>fun a vs st=>match vs with
   | [.d (.int k)]=>(fu st a).bind fun ds=>(intsOf ds).bind fun ns=>(ns.findIdx? (· == k)).bind fun j=>dat st (.int (j:Nat))
   | [.d (.str k)]=>(fu st a).bind fun ds=>(strsOf ds).bind fun ns=>(ns.findIdx? (· == k)).bind fun j=>dat st (.int (j:Nat))
   |_=>none
 | .remove=>fun a vs st=>match a,vs with
   | .loc n,[.d (.int k)]=>match st[n]? with
     |some (.lst xs)=>(datas xs).bind fun ds=>(intsOf ds).bind fun ns=>(ns.findIdx? (· == k)).bind fun j=>some (.d .none,setC st n (.lst (xs.eraseIdx j)))
     |_=>none
   |_,_=>none
 | .EJ=>fun a vs st=>match vs with
   | [.d (.bool b)]=>(fu st a).bind fun ds=>(boolsOf ds).bind fun bs=>dat st (.int (bs.count b:Nat))
   | [.d (.str b)]=>(fu st a).bind fun ds=>(strsOf ds).bind fun bs=>dat st (.int (bs.count b:Nat))
   |_=>none
 |_=>fun _ _ _=>none
structure Cl where
 name:Str
 ini:Bool
 az:List Str
 fV:List Str
def dX(l:List Cl)(x:Str):Option Cl:=l.find? fun c=>decide (c.name=x)
structure Ob where
 name:Str
 attrs:List Str
 meths:List (Str×Nat)
def fW(l:List Ob)(x:Str):Option Ob:=l.find? fun o=>decide (o.name=x)
structure bz where
 glob:Nat->Option PyData
 fns:Nat->List Val->aa->R Val
 cls:List Cl
 obs:List Ob
def fQ{α:Type}(o:Option α)(st:aa):R α:=match o with
 |some a=>.ok a st
 |none=>.no
def aX(v:Val)(st:aa):R Bool:=fQ (uN st v) st
abbrev lC:=Option (Nat×Cell)
def lC.ok(g:lC)(st:aa):Prop:=match g with
 |none=>True
 |some (n,c)=>st[n]?=some c
instance (g:lC) (st:aa):Decidable (g.ok st):=match g with
 |none=>.isTrue trivial
 |some (n,c)=>inferInstanceAs (Decidable (st[n]?=some c))
abbrev cC:=List Val×lC
def bS(v:Val)(st:aa):Option cC:=match v with
 | .d (.str x)=>some (x.cps.toList.map fun c=>Val.d (.str ⟨#[c]⟩),none)
 | .d (.tuple xs)=>some (xs.map Val.d,none)
 | .d (.list xs)=>some (xs.map Val.d,none)
 | .loc n=>match st[n]? with
   |some (.lst xs)=>some (xs,some (n,.lst xs))
   |_=>none
 |_=>none
def rng(lo:Int)(n:Nat)(c:Int):List Val:=(List.range n).map fun i=>Val.d (.int (lo+(i:Nat) * c))
def lJ(i:Int):Prop:=-(2 ^ 62)<=i/\i<2 ^ 62
instance (i:Int):Decidable (lJ i):=inferInstanceAs (Decidable (_/\_))
def pairD(a b:Val):Option Val:=match a,b with
 | .d x,.d y=>some (.d (.tuple [x,y]))
 | .d x,.loc n=>some (.dN x n)
 | .d x,.td kvs=>some (.eo x kvs)
 |_,_=>none
def HB{α:Type}:List (Option α)->Option (List α)
 | []=>some []
 |some a::r=>(HB r).map (a::·)
 |none::_=>none
def CL(i:Nat):List Val->List (Option Val)
 | []=>[]
 |x::r=>pairD (.d (.int (i:Nat))) x::CL (i+1) r
def lj(vs:List Val):Option cC:=match vs with
 | [.d (.int j)]=>if lJ j then some (rng 0 j.toNat 1,none)else none
 | [.d (.int i),.d (.int j)]=>if lJ i/\lJ j then some (rng i (j-i).toNat 1,none)else none
 | [.d (.int i),.d (.int j),.d (.int k)]=>if(k≠0/\k.natAbs<1073741824)/\Builtin.Range.small i j k=true/\0<=Builtin.Range.rangeSize i j k then some (rng i (Builtin.Range.rangeSize i j k).toNat k,none)else none
 |_=>none
def U6(vs:List Val)(st:aa):Option cC:=match vs with
 | [.d (.tuple ds)]=>(HB (CL 0 (ds.map .d))).map fun ys=>(ys,none)
 | [v]=>match fT st v with
   |some xs=>(HB (CL 0 xs)).map fun ys=>(ys,match v with
    | .loc n=>some (n,.lst xs)
    |_=>none)
   |none=>none
 |_=>none
def lU(xs ys:List PyData):List Val:=List.zipWith (fun x y=>Val.d (.tuple [x,y])) xs ys
def HC(vs:List Val)(st:aa):Option cC:=match vs with
 | [.d (.tuple xs),.d (.tuple ys)]=>some (lU xs ys,none)
 | [.d (.list xs),.d (.list ys)]=>some (lU xs ys,none)
 | [.d (.list xs),.d (.tuple ys)]=>some (lU xs ys,none)
 | [.loc n,.d (.list ys)]=>match st[n]? with
   |some (.lst us)=>match datas us with
    |some xs=>some (lU xs ys,some (n,.lst us))
    |none=>none
   |_=>none
 | [.d (.tuple xs),.d (.list ys)]=>some (lU xs ys,none)
 |_=>none
def R.bP{α:Type}(r:R α):R α:=match r with
 | .exc _ _=>.no
 |r=>r
def cY(f:Val->aa->R (Option Val))(g:lC):List Val->aa->R (List Val)
 | [],st=>if g.ok st then .ok [] st else .no
 |x::r,st=>if g.ok st then(f x st).bind fun o st1=>(cY f g r st1).bind fun ys st2=>.ok (o.toList++ys) st2 else .no
def iK(f:Val->aa->R (List Val))(g:lC):List Val->aa->R (List Val)
 | [],st=>if g.ok st then .ok [] st else .no
 |x::r,st=>if g.ok st then(f x st).bind fun o st1=>(iK f g r st1).bind fun ys st2=>.ok (o++ys) st2 else .no
def distinct:List Str->List Str->List Str
 | σ,[]=>σ
 | σ,x::r=>distinct (if σ.any (· == x)then σ else σ++[x]) r
def bT(ρ:ae):List Nat->ae
 | []=>ρ
 |v::vs=>(bT ρ vs).set v none
def aU(mu:Bool)(ys:List Val)(st:aa):R Val:=
 if ys.length<=sizeLine then(if mu then .ok (.loc st.length) (st++[.lst ys])else match datas ys with
  |some ds=>.ok (.d (.list ds)) st
  |none=>.no)else .no
def Yl(vs:List Val)(st:aa):R Val:=match lj vs with
 |some (xs,none)=>if vs.length=3/\xs.length<=2 ^ 24 then aU false xs st else .no
 |_=>.no
def jq(ks vs:List Val):Option (List (PyData×Val)):=match ks,vs with
 | [],[]=>some []
 | .d k::ks,v::vs=>if isKey k=true then(jq ks vs).map ((k,v)::·)else none
 |_,_=>none
def gy(mu:Bool)(ks vs:List Val)(st:aa):R Val:=match jq ks vs with
 |some kvs=>if kvs.length<=15 then(if mu then .ok (.loc st.length) (st++[.dct (aq [] kvs)])else match bY (aq [] kvs)with
  |some ds=>.ok (.d (.dict ds)) st
  |none=>.no)else .no
 |none=>.no
def gR(f:Val->aa->R (Option (Val×Val)))(g:lC):List Val->aa->R (List (Val×Val))
 | [],st=>if g.ok st then .ok [] st else .no
 |x::r,st=>if g.ok st then(f x st).bind fun o st1=>(gR f g r st1).bind fun ys st2=>.ok (o.toList++ys) st2 else .no
def gS:List (Val×Val)->Option (List (PyData×Val))
 | []=>some []
 |(.d k,v)::r=>if isKey k=true then(gS r).map ((k,v)::·)else none
 |_::_=>none
def qm(mu:Bool)(ps:List (Val×Val))(st:aa):R Val:=match gS ps with
 |some kvs=>if kvs.length<=sizeLine then(if mu then .ok (.loc st.length) (st++[.dct (aq [] kvs)])else match bY (aq [] kvs)with
  |some ds=>.ok (.d (.dict ds)) st
  |none=>.no)else .no
 |none=>.no
def jr(o i v:Val)(st:aa):Option aa:=match o with
 | .loc n=>match st[n]?,i with
   |some (.lst xs),.d (.int k)=>(ixN xs.length k).bind fun j=>some (setC st n (.lst (xs.set j v)))
   |some (.dct kvs),.d k=>if isKey k=true/\kvs.length<sizeLine then some (setC st n (.dct (aq kvs [(k,v)])))else none
   |_,_=>none
 |_=>none
def iW(cl:List Cl)(cs:List Str)(v:Val)(st:aa):Option (Val×aa):=match v with
 | .xc c _=>(dX cl c).bind fun k=>bl st (cs.any fun y=>k.fV.contains y)
 |_=>none
def cU(cl:List Cl)(ob:List Ob)(f:Str)(v:Val)(st:aa):Option (Val×aa):=match v with
 | .xc c fs=>(dX cl c).bind fun k=>guard' (k.az.contains f=true) ((fs.lookup f).bind fun d=>dat st d)
 | .loc n=>match st[n]? with
   |some (.obj c fs)=>(fW ob c).bind fun o=>guard' (o.attrs.contains f=true) ((fs.lookup f).map fun v=>(v,st))
   |_=>none
 |_=>none
def nD(f:Str)(v:Val):List (Str×Val)->List (Str×Val)
 | []=>[(f,v)]
 |p::r=>if p.1=f then(f,v)::r else p::nD f v r
def bF(ob:List Ob)(f:Str)(o v:Val)(st:aa):Option aa:=match o with
 | .loc n=>match st[n]? with
   |some (.obj c fs)=>(fW ob c).bind fun o=>if o.attrs.contains f=true/\fs.length<1000 then some (setC st n (.obj c (nD f v fs)))else none
   |_=>none
 |_=>none
def j6(o:jK)(v u:Val)(st:aa):Option (Val×aa):=match v,u with
 | .d (.int _),.d (.int _)=>gZ o v u st
 | .d (.str x),.d (.str y)=>match o with
   | .add=>nC (.d (.str x)) (.d (.str y)) st
   |_=>none
 |_,_=>none
def cD(ob:List Ob)(c m:Str):Option Nat:=(fW ob c).bind fun o=>o.meths.lookup m
def cG(ob:List Ob)(c m:Str)(v:Val)(st:aa):Option Nat:=match v with
 | .loc n=>match st[n]? with
   |some (.obj c' fs)=>if c'=c/\fs.lookup m=none then cD ob c m else none
   |_=>none
 |_=>none
def newR(c:Str)(Fm:List Val->aa->R Val)(vs:List Val)(st:aa):R Val:=(Fm (.loc st.length::vs) (st++[.obj c []])).bind fun v st2=>match v with
 | .d .none=>.ok (.loc st.length) st2
 |_=>.no
def wD:PyData->Option (List Int)
 | .tuple ds=>intsOf ds
 |_=>none
def Pn(st:aa):Val->Option (List (PyData×Val))
 | .td kvs=>some (kvs.map fun p=>(p.1,Val.d p.2))
 | .loc n=>match st[n]? with
   |some (.gQ kvs)=>some kvs
   |_=>none
 |_=>none
def Ym(neg:Bool)(x o:Val)(st:aa):Option (Val×aa):=match x,Pn st o with
 | .d k,some kvs=>if(wD k).isSome=true then some (.d (.bool (if neg then !(bJ kvs k).isSome else(bJ kvs k).isSome)),st)else none
 |_,_=>none
def Yn(o x:Val)(st:aa):Option (Val×aa):=match x,Pn st o with
 | .d k,some kvs=>if(wD k).isSome=true then(bJ kvs k).map fun v=>(v,st)else none
 |_,_=>none
def Po(k:PyData)(v:Val)(kvs:List (PyData×Val)):List (PyData×Val):=kvs.map fun p=>if p.1=k then(p.1,v)else p
def Pp(o x:Val)(st:aa):Option (Val×aa):=match o,x with
 | .loc c,.d k=>match st[c]? with
   |some (.gQ kvs)=>if(wD k).isSome=true then match bJ kvs k with
    |some (.td ds)=>some (.td ds,st)
    |some (.loc n)=>match st[n]? with
     |some (.gQ ws)=>match bY ws with
      |some ds=>if n≠c then some (.td ds,(st.set n .dead).set c (.gQ (Po k (.td ds) kvs)))else none
      |none=>none
     |_=>none
    |_=>none else none
   |_=>none
 |_,_=>none
def ph(o x v:Val)(st:aa):Option aa:=match o,x with
 | .loc n,.d k=>match st[n]? with
   |some (.gQ kvs)=>if(wD k).isSome=true/\kvs.length<sizeLine then some (setC st n (.gQ (aq kvs [(k,v)])))else none
   |_=>none
 |_,_=>none
def Mq(a:Val)(lo hi:Option Int)(st:aa):Option (Val×aa):=(fT st a).map fun xs=>(.loc st.length,st++[.lst (g7 xs lo hi)])
def Pq(ks vs:List Val)(st:aa):R Val:=match ks,vs with
 | [.d x],[.d y]=>if(wD x).isSome=true then .ok (.td [(x,y)]) st else .no
 |_,_=>.no
def Pu:Val->Option Bool
 | .td kvs=>some kvs.isEmpty
 |_=>none
def Yo(c:Str)(cs:List Str)(v:Val)(st:aa):Option (Val×aa):=match v with
 | .loc n=>match st[n]? with
   |some (.obj c' _)=>if cs.contains c'=true then some (.d (.bool (decide (c'=c))),st)else none
   |_=>none
 |_=>none
def uQ:List (PyData×Val)->Option (List Val)
 | []=>some []
 |(k,.d x)::r=>(uQ r).map (Val.d (.tuple [k,x])::·)
 |(k,.loc n)::r=>(uQ r).map (Val.dN k n::·)
 |(k,.td ws)::r=>(uQ r).map (Val.eo k ws::·)
 |_::_=>none
def Mr(v:Val)(st:aa):R cC:=match v with
 | .td kvs=>.ok (kvs.map fun p=>Val.d (.tuple [p.1,p.2]),none) st
 | .loc n=>match st[n]? with
   |some (.gQ kvs)=>match uQ kvs with
    |some xs=>.ok (xs,none) (st.set n .dead)
    |none=>.no
   |_=>.no
 |_=>.no
def Yp(fk:ae->aa->R Val)(i:Nat)(ρ:ae)(st:aa)(d:PyData):Option PyData:=match fk (ρ.set i (some (.d d))) st with
 | .ok (.d k) st'=>if st'=st then some k else none
 |_=>none
def Li(fk:ae->aa->R Val)(i:Nat)(ρ:ae)(st:aa):List PyData->Option (List PyData)
 | []=>some []
 |d::ds=>(Yp fk i ρ st d).bind fun k=>(Li fk i ρ st ds).map (k::·)
def U7(v:Val)(st:aa):R Val:=match v with
 | .td kvs=>if 0<kvs.length/\uP (kvs.map (·.2))=true then .ok (.d ((kvs.map (·.2)).getD (CJ (kvs.map (·.2)) (kvs.length-1)) .none)) st else .no
 |_=>.no
def Yq(t:Nat)(x:Str)(i:Nat)(fk:ae->aa->R Val)(v:Val)(ρ:ae)(st:aa):R Val:=match v with
 | .d (.list ds)=>if 0<ds.length/\st[t]?=some (.tab x)/\i<ρ.length then
  match Li fk i ρ st ds with
  |some ks=>if uP ks=true then .ok (.d (ds.getD (CJ ks (ds.length-1)) .none)) st else .no
  |none=>.no
   else .no
 |_=>.no
mutual
def ev(N:bz):E->ae->aa->R Val
 | .var i,ρ,st=>match ρ[i]? with
   |some (some v)=>.ok v st
   |_=>.no
 | .cst d,_,st=>.ok (.d d) st
 | .glob n,_,st=>match N.glob n with
   |some d=>.ok (.d d) st
   |none=>.no
 | .bin o a b,ρ,st=>iH (gZ o) (ev N a) (ev N b) ρ st
 | .neg a,ρ,st=>(ev N a ρ st).bind fun v st1=>match v with
   | .d (.int i)=>.ok (.d (.int (-i))) st1
   |_=>.no
 | .cmp o a b,ρ,st=>iH (cI o) (ev N a) (ev N b) ρ st
 | .chain o o' a b c,ρ,st=>(ev N a ρ st).bind fun x st1=>(ev N b ρ st1).bind fun y st2=>(R.aS (cI o x y st2)).bind fun k st3=>match k with
   | .d (.bool true)=>(ev N c ρ st3).bind fun z st4=>R.aS (cI o' y z st4)
   | .d (.bool false)=>.ok (.d (.bool false)) st3
   |_=>.no
 | .and es,ρ,st=>dP N es ρ st
 | .or es,ρ,st=>fX N es ρ st
 | .not a,ρ,st=>(ev N a ρ st).bind fun v st1=>(aX v st1).bind fun b st2=>.ok (.d (.bool (!b))) st2
 | .ite c a b,ρ,st=>(ev N c ρ st).bind fun v st1=>(aX v st1).bind fun k st2=>if k then ev N a ρ st2 else ev N b ρ st2
 | .tup es,ρ,st=>(bj N es ρ st).bind fun vs st1=>match datas vs with
   |some ds=>if ds.length<=sizeLine then .ok (.d (.tuple ds)) st1 else .no
   |none=>.no
 | .lst mu es,ρ,st=>(bj N es ρ st).bind fun vs st1=>aU mu vs st1
 | .dct mu kvs,ρ,st=>(fM N kvs ρ st).bind fun p st1=>gy mu p.1 p.2 st1
 | .ix a i,ρ,st=>iH cW (ev N a) (ev N i) ρ st
 | .slice a lo hi,ρ,st=>(ev N a ρ st).bind fun x st1=>(cZ N lo ρ st1).bind fun l st2=>(cZ N hi ρ st2).bind fun u st3=>R.aS (fU x l u st3)
 | .rev a,ρ,st=>(ev N a ρ st).bind fun x st1=>match x with
   | .d (.tuple xs)=>.ok (.d (.tuple xs.reverse)) st1
   | .d (.str x)=>if x.length<=16777216 then .ok (.d (.str ⟨x.cps.toList.reverse.toArray⟩)) st1 else .no
   |x=>match fu st1 x with
    |some xs=>.ok (.d (.list xs.reverse)) st1
    |none=>.no
 | .K6 a lo,ρ,st=>(ev N a ρ st).bind fun x st1=>match fu st1 x with
   |some xs=>.ok (.d (.list (U0 (if lo=0 then none else some (lo:Nat)) xs))) st1
   |none=>.no
 | .none_,_,st=>.ok (.d .none) st
 | .Wo neg a g,ρ,st=>(ev N a ρ st).bind fun v st1=>match v,N.glob g with
   | .d (.str x),some (.dict kvs)=>.ok (.d (.bool (if neg then !(gp kvs x).isSome else(gp kvs x).isSome))) st1
   |_,_=>.no
 | .xA g i,ρ,st=>(ev N i ρ st).bind fun v st1=>match v,N.glob g with
   | .d (.str x),some (.dict kvs)=>match gp kvs x with
     |some d=>.ok (.d d) st1
     |none=>.no
   |_,_=>.no
 | .call f args,ρ,st=>(bj N args ρ st).bind fun vs st1=>N.fns f vs st1
 | .bi b args,ρ,st=>(bj N args ρ st).bind fun vs st1=>R.aS (cJ b vs st1)
 | .nS a ts,ρ,st=>(ev N a ρ st).bind fun v st1=>R.aS ((lQ st1 v ts).bind fun k=>bl st1 k)
 | .me m a args,ρ,st=>(ev N a ρ st).bind fun x st1=>if recv m st1 x=true then(bj N args ρ st1).bind fun vs st2=>R.aS (bO m x vs st2)else .no
 | .comp mu elt tg it ifs own,ρ,st=>(cK N it ρ st).bind fun p st1=>((cY (fun x st2=>(asg N tg x (bT ρ own) st2).bind fun ρ1 st3=>(bR N ifs ρ1 st3).bind fun b st4=>if b then(ev N elt ρ1 st4).bind fun y st5=>.ok (some y) st5 else .ok none st4) p.2 p.1 st1).bP).bind fun ys st6=>aU mu ys st6
 | .O9 a,ρ,st=>(ev N a ρ st).bind fun v st1=>U3 v st1
 | .frz a,ρ,st=>(ev N a ρ st).bind fun v st1=>match v with
   | .loc n=>match st1[n]? with
     |some (.lst xs)=>match datas xs with
      |some ds=>.ok (.d (.list ds)) (st1.set n .dead)
      |none=>.no
     |some (.dct kvs)=>match bY kvs with
      |some ds=>.ok (.d (.dict ds)) (st1.set n .dead)
      |none=>.no
     |some (.gQ kvs)=>match bY kvs with
      |some ds=>.ok (.td ds) (st1.set n .dead)
      |none=>.no
     |_=>.no
   |v=>.ok v st1
 | .never,_,_=>.no
 | .o7 mu elt tg it ifs tg1 it1 ifs1 own own1,ρ,st=>(cK N it ρ st).bind fun p st1=>((iK (fun x st2=>(asg N tg x (bT ρ own) st2).bind fun ρ1 st3=>(bR N ifs ρ1 st3).bind fun b st4=>if b then(cK N it1 ρ1 st4).bind fun p1 st5=>cY (fun x1 st6=>(asg N tg1 x1 (bT ρ1 own1) st6).bind fun ρ2 st7=>(bR N ifs1 ρ2 st7).bind fun b1 st8=>if b1 then(ev N elt ρ2 st8).bind fun y st9=>.ok (some y) st9 else .ok none st8) p1.2 p1.1 st5 else .ok [] st4) p.2 p.1 st1).bP).bind fun ys st6=>aU mu ys st6
 | .yZ a,ρ,st=>(ev N a ρ st).bind fun v st1=>match fu st1 v with
   |some ds=>match strsOf ds with
    |some xs=>if xs.length<4000 then .ok (.d (.int ((distinct [] xs).length:Nat))) st1 else .no
    |none=>.no
   |none=>.no
 | .Pc a,ρ,st=>(ev N a ρ st).bind fun v st1=>match v with
   | .d (.tuple ds)=>aU true (ds.reverse.map Val.d) st1
   |_=>.no
 | .EK a,ρ,st=>(ev N a ρ st).bind fun v st1=>match v with
   | .loc n=>match st1[n]? with
     |some (.dct kvs)=>match bY kvs with
      |some ds=>.ok (.loc st1.length) (st1++[.lst (ds.map fun p=>.d (.tuple [p.1,p.2]))])
      |none=>.no
     |_=>.no
   |_=>.no
 | .Pb mu a,ρ,st=>(ev N a ρ st).bind fun v st1=>match v with
   | .d (.int n)=>if -(2 ^ 62)<=n/\n<=16777216 then aU mu (rng 0 n.toNat 1) st1 else .no
   |_=>.no
 | .Wq as,ρ,st=>(bj N as ρ st).bind Yl
 | .sV a cs,ρ,st=>(ev N a ρ st).bind fun v st1=>R.aS (iW N.cls cs v st1)
 | .fld a f,ρ,st=>(ev N a ρ st).bind fun v st1=>R.aS (cU N.cls N.obs f v st1)
 | .new c args ks,ρ,st=>(bj N args ρ st).bind fun vs st1=>(bj N ks ρ st1).bind fun zs st2=>match cD N.obs c "__init__" with
   |some i=>newR c (N.fns i) (vs++zs) st2
   |none=>.no
 | .av c m a args,ρ,st=>(ev N a ρ st).bind fun v st1=>match cG N.obs c m v st1 with
   |some i=>(bj N args ρ st1).bind fun vs st2=>N.fns i (v::vs) st2
   |none=>.no
 | .EL t x a i k,ρ,st=>(ev N a ρ st).bind fun v st1=>Yq t x i (fun ρ' st'=>ev N k ρ' st') v ρ st1
 | .K7 mu,_,st=>if mu then .ok (.loc st.length) (st++[.gQ []])else .ok (.td []) st
 | .K8 kvs,ρ,st=>(fM N kvs ρ st).bind fun p st1=>Pq p.1 p.2 st1
 | .Ws neg a d,ρ,st=>iH (Ym neg) (ev N a) (ev N d) ρ st
 | .K9 d k,ρ,st=>iH Yn (ev N d) (ev N k) ρ st
 | .La d k,ρ,st=>iH Pp (ev N d) (ev N k) ρ st
 | .Pd d,ρ,st=>(ev N d ρ st).bind fun v st1=>U7 v st1
 | .Pe d,ρ,st=>(ev N d ρ st).bind fun v st1=>R.aS ((Pu v).bind fun k=>bl st1 k)
 | .kJ a c cs,ρ,st=>(ev N a ρ st).bind fun v st1=>R.aS (Yo c cs v st1)
 | .EM a lo hi,ρ,st=>(ev N a ρ st).bind fun x st1=>(cZ N lo ρ st1).bind fun l st2=>(cZ N hi ρ st2).bind fun u st3=>R.aS (Mq x l u st3)
 | .Lb a,ρ,st=>(ev N a ρ st).bind fun v st1=>match fT st1 v with
   |some xs=>.ok (.d (.bool (!xs.isEmpty))) st1
   |none=>.no
 | .o8 mu kx vx tg it ifs own,ρ,st=>(cK N it ρ st).bind fun p st1=>((gR (fun x st2=>(asg N tg x (bT ρ own) st2).bind fun ρ1 st3=>(bR N ifs ρ1 st3).bind fun b st4=>if b then(ev N kx ρ1 st4).bind fun y st5=>(ev N vx ρ1 st5).bind fun z st6=>.ok (some (y,z)) st6 else .ok none st4) p.2 p.1 st1).bP).bind fun ys st6=>qm mu ys st6
def cZ(N:bz):Pt->ae->aa->R (Option Int)
 | .no,_,st=>.ok none st
 | .e a,ρ,st=>(ev N a ρ st).bind fun v st1=>match v with
   | .d (.int i)=>.ok (some i) st1
   |_=>.no
def dP(N:bz):Es->ae->aa->R Val
 | .nil,_,_=>.no
 | .cons a .nil,ρ,st=>ev N a ρ st
 | .cons a r,ρ,st=>(ev N a ρ st).bind fun v st1=>(aX v st1).bind fun b st2=>if b then dP N r ρ st2 else .ok v st2
def fX(N:bz):Es->ae->aa->R Val
 | .nil,_,_=>.no
 | .cons a .nil,ρ,st=>ev N a ρ st
 | .cons a r,ρ,st=>(ev N a ρ st).bind fun v st1=>(aX v st1).bind fun b st2=>if b then .ok v st2 else fX N r ρ st2
def bj(N:bz):Es->ae->aa->R (List Val)
 | .nil,_,st=>.ok [] st
 | .cons e r,ρ,st=>(ev N e ρ st).bind fun v st1=>(bj N r ρ st1).bind fun vs st2=>.ok (v::vs) st2
def fM(N:bz):nR->ae->aa->R (List Val×List Val)
 | .nil,_,st=>.ok ([],[]) st
 | .cons k v r,ρ,st=>(ev N k ρ st).bind fun x st1=>(ev N v ρ st1).bind fun y st2=>(fM N r ρ st2).bind fun p st3=>.ok (x::p.1,y::p.2) st3
def bR(N:bz):Es->ae->aa->R Bool
 | .nil,_,st=>.ok true st
 | .cons e .nil,ρ,st=>(ev N e ρ st).bind fun v st1=>aX v st1
 |_,_,_=>.no
def cK(N:bz):It->ae->aa->R cC
 | .e a,ρ,st=>(ev N a ρ st).bind fun v st1=>fQ (bS v st1) st1
 | .rng as,ρ,st=>(bj N as ρ st).bind fun vs st1=>fQ (lj vs) st1
 | .Pf as,ρ,st=>(bj N as ρ st).bind fun vs st1=>fQ (U6 vs st1) st1
 | .zip as,ρ,st=>(bj N as ρ st).bind fun vs st1=>fQ (HC vs st1) st1
 | .items a,ρ,st=>(ev N a ρ st).bind fun v st1=>match v with
   | .loc n=>match st1[n]? with
     |some (.dct kvs)=>match bY kvs with
      |some ds=>.ok (ds.map fun p=>Val.d (.tuple [p.1,p.2]),none) (st1.set n .dead)
      |none=>.no
     |_=>.no
   |_=>.no
 | .EN a,ρ,st=>(ev N a ρ st).bind fun v st1=>Mr v st1
 | .Pg es,ρ,st=>(bj N es ρ st).bind fun vs st1=>if vs.length<=sizeLine then .ok (vs,none) st1 else .no
 | .values a,ρ,st=>(ev N a ρ st).bind fun v st1=>match v with
   | .d (.dict kvs)=>.ok (kvs.map fun p=>Val.d p.2,none) st1
   |_=>.no
 | .rev a,ρ,st=>(ev N a ρ st).bind fun v st1=>match v with
   | .d (.list xs)=>.ok (xs.reverse.map Val.d,none) st1
   |_=>.no
def asg(N:bz):Tg->Val->ae->aa->R ae
 | .name i,v,ρ,st=>if i<ρ.length then .ok (ρ.set i (some v)) st else .no
 | .tup ts,v,ρ,st=>match v with
   | .d (.tuple xs)=>dg N ts (xs.map Val.d) ρ st
   | .d (.list xs)=>dg N ts (xs.map Val.d) ρ st
   | .dN x n=>dg N ts [.d x,.loc n] ρ st
   | .eo x kvs=>dg N ts [.d x,.td kvs] ρ st
   |_=>.no
 | .sub a i,v,ρ,st=>(ev N a ρ st).bind fun o st1=>(ev N i ρ st1).bind fun k st2=>match jr o k v st2 with
   |some st3=>.ok ρ st3
   |none=>.no
 | .fld a f,v,ρ,st=>(ev N a ρ st).bind fun o st1=>match bF N.obs f o v st1 with
   |some st2=>.ok ρ st2
   |none=>.no
 | .subT a i,v,ρ,st=>(ev N a ρ st).bind fun o st1=>(ev N i ρ st1).bind fun k st2=>match ph o k v st2 with
   |some st3=>.ok ρ st3
   |none=>.no
 | .star i j,v,ρ,st=>match dO st v with
   |some (x::r)=>if i<ρ.length/\j<ρ.length then .ok ((ρ.set i (some (.d x))).set j (some (.d (.list r)))) st else .no
   |_=>.no
def dg(N:bz):jL->List Val->ae->aa->R ae
 | .nil,[],ρ,st=>.ok ρ st
 | .cons t r,v::vs,ρ,st=>(asg N t v ρ st).bind fun ρ1 st1=>dg N r vs ρ1 st1
 |_,_,_,_=>.no
end
inductive Fl where
 |next (ρ:ae)
 |ret (v:Val)
 |brk (ρ:ae)
 |cont (ρ:ae)
 |exc (e:jl) (ρ:ae)
def R.cat{α:Type}(r:R α)(ρ:ae)(f:α->aa->R Fl):R Fl:=match r with
 | .ok a st=>f a st
 | .exc e st=>.ok (.exc e ρ) st
 | .no=>.no
def R.i9:R Fl->R Fl
 | .exc _ _=>.no
 |r=>r
def forL(f:Val->ae->aa->R Fl)(g:lC):List Val->ae->aa->R Fl
 | [],ρ,st=>if g.ok st then .ok (.next ρ) st else .no
 |x::r,ρ,st=>if g.ok st then(f x ρ st).i9.bind fun fl st1=>match fl with
  | .next ρ1=>forL f g r ρ1 st1
  | .cont ρ1=>forL f g r ρ1 st1
  | .brk ρ1=>.ok (.next ρ1) st1
  | .ret v=>.ok (.ret v) st1
  | .exc e ρ1=>.ok (.exc e ρ1) st1 else .no
def qo(c:ae->aa->R Bool)(b:ae->aa->R Fl):Nat->ae->aa->R Fl
 | 0,_,_=>.no
 |n+1,ρ,st=>(c ρ st).cat ρ fun k st1=>if k then(b ρ st1).i9.bind fun fl st2=>match fl with
  | .next ρ1=>qo c b n ρ1 st2
  | .cont ρ1=>qo c b n ρ1 st2
  | .brk ρ1=>.ok (.next ρ1) st2
  | .ret v=>.ok (.ret v) st2
  | .exc e ρ1=>.ok (.exc e ρ1) st2 else .ok (.next ρ) st1
def uR:Nat:=1000000
def ER(N:bz)(e:E):ae->aa->R Bool:=fun ρ st=>(ev N e ρ st).bind fun v st1=>aX v st1
def lV:List (Str×Val)->Option (List (Str×PyData))
 | []=>some []
 |(f,.d x)::r=>(lV r).map ((f,x)::·)
 |_::_=>none
def jt(fl:List Str)(fs:List (Str×PyData))(ρ:ae)(st:aa):SI->Option (PyData×aa)
 | .cst d=>some (d,st)
 | .var i=>match ρ[i]? with
   |some (some (.d d))=>some (d,st)
   |_=>none
 | .frz i=>match ρ[i]? with
   |some (some (.d d))=>some (d,st)
   |some (some (.loc n))=>match st[n]? with
    |some (.lst xs)=>(datas xs).map fun ds=>(.list ds,st.set n .dead)
    |_=>none
   |_=>none
 | .fld f=>guard' (fl.contains f=true) ((fs.lookup f).map fun d=>(d,st))
def eH(fl:List Str)(fs:List (Str×PyData))(ρ:ae):List SI->aa->Option (List PyData×aa)
 | [],st=>some ([],st)
 |x::r,st=>(jt fl fs ρ st x).bind fun p=>(eH fl fs ρ r p.2).map fun q=>(p.1::q.1,q.2)
def unset(i:Option Nat)(ρ:ae):ae:=match i with
 |some i=>ρ.set i none
 |none=>ρ
def fR(fl:List Str)(i:Option Nat)(su:Su)(e:jl)(ρ:ae)(st:aa):R Fl:=match lV e.az with
 |none=>.no
 |some fs=>match su with
  | .keep j=>match i with
    |some i=>if j<ρ.length/\i≠j then .ok (.next ((ρ.set j (some (.xc e.cls fs))).set i none)) st else .no
    |none=>.no
  | .ret b xs=>match eH fl fs (unset i ρ) xs st with
    |some (ds,st1)=>if b then(if ds.length<=sizeLine then .ok (.ret (.d (.tuple ds))) st1 else .no)else match ds with
     | [d]=>.ok (.ret (.d d)) st1
     |_=>.no
    |none=>.no
  | .set j d=>if j<ρ.length then .ok (.next (unset i (ρ.set j (some (.d d))))) st else .no
  | .o9 c fl2 xs=>match eH fl fs (unset i ρ) xs st with
    |some (ds,st1)=>if ds.length=fl2.length/\ds.length<=800 then .ok (.exc ⟨c,(fl2.zip (ds.map Val.d)).reverse⟩ (unset i ρ)) st1 else .no
    |none=>.no
def BA(i:Option Nat)(ρ:ae):Bool:=match i with
 |some i=>decide (i<ρ.length)
 |none=>true
def gI(cl:List Cl)(cs:List Str)(i:Option Nat)(su:Su)(fl:Fl)(st:aa):R Fl:=match fl with
 | .exc e ρ=>match dX cl e.cls with
   |some k=>if cs.any (fun y=>k.fV.contains y)=true then(if BA i ρ=true then fR k.az i su e ρ st else .no)else .ok (.exc e ρ) st
   |none=>.no
 |fl=>.ok fl st
def gz(cl:List Cl)(c:Str)(vs:List Val)(ρ:ae)(st:aa):R Fl:=match dX cl c with
 |some k=>if vs.length=k.az.length/\vs.length<=900 then .ok (.exc ⟨c,(k.az.zip vs).reverse⟩ ρ) st else .no
 |none=>.no
mutual
def ex(N:bz):S->ae->aa->R Fl
 | .expr e,ρ,st=>(ev N e ρ st).cat ρ fun _ st1=>.ok (.next ρ) st1
 | .asg t e,ρ,st=>(ev N e ρ st).cat ρ fun v st1=>(asg N t v ρ st1).bP.bind fun ρ1 st2=>.ok (.next ρ1) st2
 | .par i j a b,ρ,st=>(ev N a ρ st).cat ρ fun v st1=>(ev N b ρ st1).cat ρ fun u st2=>if i<ρ.length/\j<ρ.length then .ok (.next ((ρ.set i (some v)).set j (some u))) st2 else .no
 | .jP i j l a b c,ρ,st=>(ev N a ρ st).cat ρ fun v st1=>(ev N b ρ st1).cat ρ fun u st2=>(ev N c ρ st2).cat ρ fun w st3=>if i<ρ.length/\j<ρ.length/\l<ρ.length then .ok (.next (((ρ.set i (some v)).set j (some u)).set l (some w))) st3 else .no
 | .lO ts es,ρ,st=>(bj N es ρ st).cat ρ fun vs st1=>if vs.length<=sizeLine then(dg N ts vs ρ st1).bP.bind fun ρ1 st2=>.ok (.next ρ1) st2 else .no
 | .never,_,_=>.no
 | .aug i o e,ρ,st=>match ρ[i]? with
   |some (some v)=>(ev N e ρ st).cat ρ fun u st1=>match v,u with
    | .d (.int _),.d (.int _)=>(R.aS (gZ o v u st1)).cat ρ fun z st2=>.ok (.next (ρ.set i (some z))) st2
    |_,_=>.no
   |_=>.no
 | .qk a f o e,ρ,st=>(ev N a ρ st).cat ρ fun x st1=>(R.aS (cU [] N.obs f x st1)).cat ρ fun v st2=>(ev N e ρ st2).cat ρ fun u st3=>(R.aS (j6 o v u st3)).cat ρ fun z st4=>match bF N.obs f x z st4 with
   |some st5=>.ok (.next ρ) st5
   |none=>.no
 | .ret e,ρ,st=>(ev N e ρ st).cat ρ fun v st1=>.ok (.ret v) st1
 | .y9,_,st=>.ok (.ret (.d .none)) st
 | .ite c a b,ρ,st=>(ER N c ρ st).cat ρ fun k st1=>if k then aF N a ρ st1 else aF N b ρ st1
 | .gY t it b,ρ,st=>(cK N it ρ st).cat ρ fun p st1=>forL (fun x ρ1 st2=>(asg N t x ρ1 st2).bP.bind fun ρ2 st3=>aF N b ρ2 st3) p.2 p.1 ρ st1
 | .cX c b,ρ,st=>qo (ER N c) (aF N b) uR ρ st
 | .brk,ρ,st=>.ok (.brk ρ) st
 | .cont,ρ,st=>.ok (.cont ρ) st
 | .pass,ρ,st=>.ok (.next ρ) st
 | .raise c es,ρ,st=>(bj N es ρ st).cat ρ fun vs st1=>gz N.cls c vs ρ st1
 | .nB body cs i su,ρ,st=>(aF N body ρ st).i9.bind fun fl st1=>gI N.cls cs i su fl st1
def aF(N:bz):Ss->ae->aa->R Fl
 | .nil,ρ,st=>.ok (.next ρ) st
 | .cons s r,ρ,st=>(ex N s ρ st).i9.bind fun fl st1=>match fl with
   | .next ρ1=>aF N r ρ1 st1
   |fl=>.ok fl st1
end
def aI(n:Nat):Val->Bool
 | .loc k=>decide (k<n)
 | .dN _ k=>decide (k<n)
 |_=>true
def iL(n:Nat):Cell->Bool
 | .lst xs=>xs.all (aI n)
 | .dct kvs=>kvs.all fun p=>aI n p.2
 | .dead=>true
 | .tab _=>true
 | .obj _ fs=>fs.all fun p=>aI n p.2
 | .gQ kvs=>kvs.all fun p=>aI n p.2
def aK(keep:Bool)(st0:aa)(ok:Bool)(st:aa):Option aa:=
 if keep=true\/st.length=st0.length then some st
 else if ok=true/\(st.take st0.length=st0\/(st.take st0.length).all (iL st0.length)=true)then some (st.take st0.length)
 else none
def fq(n:Nat)(vs:List Val):ae:=vs.map some++List.replicate (n-vs.length) none
def j7(N:bz)(fn:Fn)(vs:List Val)(st:aa):R Val:=
 if vs.length=fn.np then(aF N fn.body (fq fn.ns vs) st).i9.bind fun fl st1=>match fl with
  | .next _=>match aK fn.keep st true st1 with
    |some st2=>.ok (.d .none) st2
    |none=>.no
  | .ret v=>match aK fn.keep st (aI st.length v) st1 with
    |some st2=>.ok v st2
    |none=>.no
  | .exc e _=>match aK fn.keep st (e.az.all fun p=>aI st.length p.2) st1 with
    |some st2=>.exc e st2
    |none=>.no
  |_=>.no
 else .no
structure bU where
 glob:List PyData
 fns:List Fn
 cls:List Cl:=[]
 obs:List Ob:=[]
def aD(P:bU):Nat->Nat->List Val->aa->R Val
 | 0,_,_,_=>.no
 |k+1,f,vs,st=>match P.fns[f]? with
  |some fn=>j7 ⟨fun n=>P.glob[n]?,aD P k,P.cls,P.obs⟩ fn vs st
  |none=>.no
abbrev bU.env(P:bU)(k:Nat):bz:=⟨fun n=>P.glob[n]?,aD P k,P.cls,P.obs⟩
section
variable {prog:Program} {w:World} {A:Around} {E:Value->Shared->Prop} {s:Shared}
theorem HD(a:Bool)(b:Int)(u:Tok):Gives (Builtin.«int.__add__» ⟨[.bool a,.int b u],[]⟩) (.int ((if a=true then(1:Int)else 0)+b)):=.of_wp fun M A E s Q h=>by obtain⟨hp,g,d,tk,os⟩:=s;wp_walk;exact⟨_,rfl,h⟩
theorem HE(a:Bool)(b:Int)(u:Tok):Gives (Builtin.«int.__sub__» ⟨[.bool a,.int b u],[]⟩) (.int ((if a=true then(1:Int)else 0)-b)):=.of_wp fun M A E s Q h=>by obtain⟨hp,g,d,tk,os⟩:=s;wp_walk;exact⟨_,rfl,h⟩
theorem xB:isSubtype (.type "int") (.type "bool")=pure false:=by kernel_rfl
theorem Bf:reflectedDiffers (.type "int") (.type "bool") "sub" = pure false:=by unfold reflectedDiffers;show (typeLookup (.type "bool") (dunderR "sub") >>= fun x=>typeLookup (.type "int") (dunderR "sub") >>= fun y=>pure (x.isSome && x != y))=pure false;rw[typeLookup_type,typeLookup_type,builtinLookup_eq_fast];kernel_rfl
theorem Pw{a:Int}{t:Tok}{b:Bool}{Q:Value->Shared->Prop}(h:Q (.int (a-if b=true then(1:Int)else 0) s.toks) { s with toks:=s.toks+1 }):wpAny (model prog w) A (binaryOp .Sub (.int a t) (.bool b)) Q E s:=binaryOp_sub_gives (op:=.Sub) (T:="int") (U:="bool") (by decide) (zbW s a t) rfl F.fills_int_sub F.fills_bool_sub isSubtype_bool_int Bf F.slot_int_sub F.entry_int_sub (F.args_int_sub_2 _ _) (AutoIntG7.int___sub___int_bool_0 a t b) trivial h
theorem Px{a:Bool}{b:Int}{u:Tok}{Q:Value->Shared->Prop}(h:Q (.int ((if a=true then(1:Int)else 0)+b) s.toks) { s with toks:=s.toks+1 }):wpAny (model prog w) A (binaryOp .Add (.bool a) (.int b u)) Q E s:=binaryOp_left_gives (op:=.Add) (T:="bool") (U:="int") (by decide) rfl (fun s=>zbW s b u) F.fills_bool_add F.fills_int_add xB F.slot_bool_add F.slot_int_radd F.entry_int_add (F.args_int_add_2 _ _) (HD a b u) trivial h
theorem Py{a:Bool}{b:Int}{u:Tok}{Q:Value->Shared->Prop}(h:Q (.int ((if a=true then(1:Int)else 0)-b) s.toks) { s with toks:=s.toks+1 }):wpAny (model prog w) A (binaryOp .Sub (.bool a) (.int b u)) Q E s:=binaryOp_left_gives (op:=.Sub) (T:="bool") (U:="int") (by decide) rfl (fun s=>zbW s b u) F.fills_bool_sub F.fills_int_sub xB F.slot_bool_sub F.slot_int_rsub F.entry_int_sub (F.args_int_sub_2 _ _) (HE a b u) trivial h
end
end G
namespace L2
open PySem PySem.Spec PyProof.Rows
theorem CM(l:Addr)(items:Array Value)(n:Nat)(dd:Option Addr)(sl:Array (Option Value))(x:Int)(u:Tok)(c0:(decide (x < -(2 ^ 63)) ||decide (x>=2 ^ 63))=false)(c1:(items.isEmpty ||x == 1)=true):
 Meets (Builtin.«tuple.__mul__» ⟨[.ref l,.int x u],[]⟩) (fun _ R s=>s.heap.get? l=some { cls:=.type "tuple",dict:=dd,data:=.seq items n,slots:=sl }/\R (.ok (.ret (.ref l))) s):=
 .of_wp fun prog w A R s h=>by
  obtain⟨hp,g,d,tk,os⟩:=s;obtain⟨hl,h⟩:=h;have f1:=AutoSeq1.idx_int
  wp_walk using wpAny_loadPart' hl
  repeat (first
   |(refine wpAny_ite_false (zaH (by rw[c0];exact zaP)) ?_;wp_walk using wpAny_loadPart' hl)
   |(refine wpAny_ite_true (zbo c1) ?_;wp_walk using wpAny_loadPart' hl))
  exact⟨_,rfl,h⟩
theorem CN(l:Addr)(items:Array Value)(n:Nat)(dd:Option Addr)(sl:Array (Option Value))(x:Int)(u:Tok)(c0:(decide (x < -(2 ^ 63)) ||decide (x>=2 ^ 63))=false)(c1:(items.isEmpty ||x == 1)=false)(c2:(decide (x<=0) ||items.isEmpty)=true):
 Meets (Builtin.«tuple.__mul__» ⟨[.ref l,.int x u],[]⟩) (fun _ R s=>s.heap.get? l=some { cls:=.type "tuple",dict:=dd,data:=.seq items n,slots:=sl }/\ R (.ok (.ret (Value.ref s.heap.objs.size))) { s with heap:=s.heap.push { cls:=Value.type "tuple",data:=Data.seq #[] },toks:=s.toks }):=
 .of_wp fun prog w A R s h=>by
  obtain⟨hp,g,d,tk,os⟩:=s;obtain⟨hl,h⟩:=h;have f1:=AutoSeq1.idx_int
  wp_walk using wpAny_loadPart' hl
  repeat (first
   |(refine wpAny_ite_false (zaH (by rw[c0];exact zaP)) ?_;wp_walk using wpAny_loadPart' hl)
   |(refine wpAny_ite_false (zaH (by rw[c1];exact zaP)) ?_;wp_walk using wpAny_loadPart' hl)
   |(refine wpAny_ite_true (zbo c2) ?_;wp_walk using wpAny_loadPart' hl))
  exact⟨_,rfl,h⟩
def PB(K:PySem.W.Frag):R2:=fun x y H Q=>∃ l k xs,x= .ref l/\y= .int k/\SqT K H l xs/\(xs=[]\/k=1)/\-1000<=k/\k<=1000/\Q (.ref l) H
def PD(K:PySem.W.Frag):R2:=fun x y H Q=>∃ l k xs,x= .ref l/\y= .int k/\SqT K H l xs/\xs≠[]/\-1000<=k/\k<=0/\tT H [] fun p H'=>Q (.ref p) H'
section
variable {X:Cx}
theorem HF:OpR X (binaryOp .Mult) (PB X.K):=by
 intro pins s σ H x y v u Q I rx ry h;obtain⟨l,k,xs,rfl,rfl,hT,hk,h1,h2,q⟩:=h;cases rx;obtain⟨t,rfl⟩:=ry;obtain⟨its,r,⟨⟨cls,dd,data,sl⟩,ho,hc,n,hd⟩,hs⟩:=I.tuple hT;simp only at hc hd;subst hc hd;have hle:its.length=xs.length:=r.length.symm;have c0:(decide (k < -(2 ^ 63)) ||decide (k>=2 ^ 63))=false:=by rw[zaH (by omega),zaH (by omega)] <;> rfl
 have c1:(its.toArray.isEmpty ||k == 1)=true:=by
  rcases hk with e |e
  ·rw[e]at hle;rw[zbI hle];rfl
  ·rw[e];simp
 refine wpAny_binaryOp_repeat_ref (T:="tuple") (U:="int") (by decide) ⟨_,ho,rfl⟩ (fun s'=>zbW s' k t) noFill_tuple_mul F.fills_int_mul zbL repeat_tuple F.slot_int_index.lookup
  (call_meets zbL (zbW s k t) F.entry_int_rmul (F.args_int_rmul_2 _ _) (int_rmul_tuple k t l its.toArray n dd sl)
   ⟨ho,rfl,⟨_,ho,rfl⟩,call_meets F.slot_tuple_mul ⟨_,ho,rfl⟩ F.entry_tuple_mul (F.args_tuple_mul_2 _ _) (CM l its.toArray n dd sl k t c0 c1) ⟨ho,?_⟩⟩)
 exact⟨.ref l,H,I,rfl,q⟩
theorem HG:OpR X (binaryOp .Mult) (PD X.K):=by
 intro pins s σ H x y v u Q I rx ry h;obtain⟨l,k,xs,rfl,rfl,hT,hne,h1,h2,q⟩:=h;cases rx;obtain⟨t,rfl⟩:=ry;obtain⟨its,r,⟨⟨cls,dd,data,sl⟩,ho,hc,n,hd⟩,hs⟩:=I.tuple hT;simp only at hc hd;subst hc hd;have hle:its.length=xs.length:=r.length.symm;have hn:its≠[]:=fun e=>hne (by rw[e]at hle;exact zbI hle.symm);have hi:its.toArray.isEmpty=false:=by
  cases its with
  |nil=>exact absurd rfl hn
  |cons a b=>rfl
 have c0:(decide (k < -(2 ^ 63)) ||decide (k>=2 ^ 63))=false:=by rw[zaH (by omega),zaH (by omega)] <;> rfl
 have c1:(its.toArray.isEmpty ||k == 1)=false:=by rw[hi,zb7];exact zaQ.mpr (by omega)
 have c2:(decide (k<=0) ||its.toArray.isEmpty)=true:=by rw[zbo (by omega)];rfl
 refine wpAny_binaryOp_repeat_ref (T:="tuple") (U:="int") (by decide) ⟨_,ho,rfl⟩ (fun s'=>zbW s' k t) noFill_tuple_mul F.fills_int_mul zbL repeat_tuple F.slot_int_index.lookup
  (call_meets zbL (zbW s k t) F.entry_int_rmul (F.args_int_rmul_2 _ _) (int_rmul_tuple k t l its.toArray n dd sl)
   ⟨ho,rfl,⟨_,ho,rfl⟩,call_meets F.slot_tuple_mul ⟨_,ho,rfl⟩ F.entry_tuple_mul (F.args_tuple_mul_2 _ _) (CN l its.toArray n dd sl k t c0 c1 c2) ⟨ho,?_⟩⟩)
 exact Inv.wk (us:=[]) (tk:=s.toks) I .nil (by rw[zap];decide) q
theorem HH:OpR X (binaryOp .Mult) (fun x y H Q=>∃ l k xs,x= .ref l/\y= .int k/\SqT X.K H l xs/\xs≠[]/\2<=k/\k<=1000/\xs.length<=1000/\tT H (List.replicate k.toNat xs).flatten fun p H'=>Q (.ref p) H'):=by
 intro pins s σ H x y v u Q I rx ry ⟨l,k,xs,ex,ey,hT,hne,h1,h2,hz,q⟩;subst ex ey;cases rx;obtain⟨t,et⟩:=ry;subst et;obtain⟨us,r,⟨⟨cls,dd,data,sl⟩,ho,hc,n,hd⟩,_⟩:=I.tuple hT;dsimp only at hc hd;subst hc hd;have le:=r.length;have n0:us.toArray.isEmpty=false:=by
  cases us with
  |nil=>exact(hne (zbI le)).elim
  |cons _ _=>rfl
 have small:k.toNat * xs.length<=1000 * 1000:=Nat.mul_le_mul (by omega) hz;have fl:(List.replicate k.toNat us).flatten.length<=sizeLine:=by rw[zb8,←le,zap];omega
 have c0:(decide (k < -(2 ^ 63)) ||decide (k>=2 ^ 63))=false:=by rw[zbh];exact⟨zaH (by omega),zaH (by omega)⟩
 have c1:(us.toArray.isEmpty ||k == 1)=false:=by rw[zbh];exact⟨n0,zaQ.mpr (by omega)⟩
 have c2:(decide (k<=0) ||us.toArray.isEmpty)=false:=by rw[zbh];exact⟨zaH (by omega),n0⟩
 have many:((us.toArray.size:Nat):Int) * k<=1000000:=by rw[zba,←le];have a1:((xs.length:Nat):Int) * k<=1000 * k:=Int.mul_le_mul_of_nonneg_right (by omega) (by omega);omega
 have c4:Builtin.Tuple.tupleTooMany (((us.toArray.size:Nat):Int) * k)=false:=by show decide _=false;rw[zap];exact zaH (by omega)
 refine wpAny_binaryOp_repeat_ref (T:="tuple") (U:="int") (by decide) ⟨_,ho,rfl⟩ (fun s'=>zbW s' k t) noFill_tuple_mul F.fills_int_mul zbL repeat_tuple F.slot_int_index.lookup
  (call_meets zbL (zbW s k t) F.entry_int_rmul (F.args_int_rmul_2 _ _) (int_rmul_tuple k t l us.toArray n dd sl)
   ⟨ho,rfl,⟨_,ho,rfl⟩,call_meets F.slot_tuple_mul ⟨_,ho,rfl⟩ F.entry_tuple_mul (F.args_tuple_mul_2 _ _) (tuple_mulW l us.toArray n dd sl k t c0 c1 c2 (by omega) c4 (by rw[size_rep,zba];exact fl)) ⟨ho,?_⟩⟩)
 rw[size_rep];exact Inv.wk (tk:=s.toks) I (r.rep k.toNat) (by rw[zb8,zap];omega) q
end
end L2
namespace G
open PySem PySem.Spec PyProof.Rows L2
section
variable {K:PySem.W.Frag} {H:Hp} {m:Mp} {x:V} {st:aa}
theorem cN{d:PyData}(h:Rep K H m x (.d d)):bG K H m x d:=by cases h;assumption
theorem ay{i:Int}(h:Rep K H m x (.d (.int i))):x= .int i:=by cases cN h;rfl
theorem aQ{i:Str}(h:Rep K H m x (.d (.str i))):x= .str i:=by cases cN h;rfl
theorem g8{i:Bool}(h:Rep K H m x (.d (.bool i))):x= .bl i:=by cases cN h;rfl
theorem lK(h:Rep K H m x (.d .none)):x= .non:=by cases cN h;rfl
theorem gD{ds:List PyData}(h:Rep K H m x (.d (.tuple ds))):∃ a xs,x= .ref a/\iV K H m a xs/\aY K H m xs ds:=by cases cN h;exact⟨_,_,rfl,by assumption,by assumption⟩
theorem rM{ds:List PyData}(h:Rep K H m x (.d (.list ds))):∃ a xs,x= .ref a/\Hy H m a xs/\aY K H m xs ds:=by cases cN h;exact⟨_,_,rfl,by assumption,by assumption⟩
theorem BB{ds:List (PyData×PyData)}(h:Rep K H m x (.d (.dict ds))):∃ a xs,x= .ref a/\O4 H m a xs/\eE K H m xs ds:=by cases cN h;exact⟨_,_,rfl,by assumption,by assumption⟩
theorem wG{ns:List Int}(h:Rep K H m x (.bW ns)):∃ a,x= .ref a/\SqL K H a (ns.map V.int):=by
 cases h with
 |bW h=>exact⟨_,rfl,h.imp (fun⟨o,h1,_⟩=>.inr ⟨o,h1⟩) id⟩
theorem zg{c:Str}{fs:List (Str×PyData)}(h:Rep K H m x (.xc c fs)):∃ a D fv,x= .ref a/\PySem.W.nsIn K mainGlobals c=some (some (.ref D))/\xy H m a D fv/\wu K H m fv fs:=by
 cases h with
 |xc h1 h2 h3=>exact⟨_,_,_,rfl,h1,h2,h3⟩
theorem aY.pair:∀ {vs:List V} {ds:List PyData},aY K H m vs ds->Paired (bG K H m) vs ds
 |_,_,.nil=>.nil
 |_,_,.cons h r=>.cons h (aY.pair r)
theorem aY.of:∀ {vs:List V} {ds:List PyData},Paired (bG K H m) vs ds->aY K H m vs ds
 |_,_,.nil=>.nil
 |_,_,.cons h r=>.cons h (aY.of r)
theorem lW:∀ {vs:List V} {ds:List PyData},aY K H m vs ds->aW K H m vs (ds.map Val.d)
 |_,_,.nil=>.nil
 |_,_,.cons h r=>.cons (.d h) (lW r)
theorem gr:∀ {vs:List V} {xs:List Val} {ds:List PyData},aW K H m vs xs->datas xs=some ds->aY K H m vs ds
 |_,_,_,.nil,e=>by cases e;exact .nil
 |_,_,_,.cons (a:=v) (b:=x) h r,e=>by
  cases x with
  |d y=>unfold datas at e;obtain⟨ds',e1,e2⟩:=zaG.mp e;subst e2;exact .cons (cN h) (gr r e1)
  |_=>cases e
theorem gE{p:Addr}{vs:List V}{ds:List PyData}(s:ak K H m st)(hp:H p=none)(r:aY K H m vs ds):Rep K (upd H p (.lst vs)) m (.ref p) (.d (.list ds)):=.d (.lst ⟨upd_same,s.frz hp⟩ (r.stay (bH (bf hp)).stay))
theorem eO{p:Addr}{o:Obj}{vs:List V}{ds:List PyData}(s:ak K H m st)(hp:H p=none)(ho:o.dict=none)(r:aY K H m vs ds):Rep K (upd H p (.frz o (.tup vs))) m (.ref p) (.d (.tuple ds)):=.d (.tup (.inl ⟨⟨o,upd_same,ho⟩,s.frz hp⟩) (r.stay (bH (bf hp)).stay))
theorem ju(s:ak K H m st){v:Val}{xs:List Val}(h:Rep K H m x v)(e:fT st v=some xs):∃ p vs,x= .ref p/\H p=some (.lst vs)/\aW K H m vs xs:=by
 cases v with
 |d d=>
  cases d with
  |list ds=>obtain⟨a,vs,ex,hl,r⟩:=rM h;cases e;exact⟨a,vs,ex,hl.1,lW r⟩
  |_=>cases e
 |bW ns=>cases e
 |xc _ _=>cases e
 |td _=>cases e
 |dN _ _=>cases e
 |eo _ _=>cases e
 |loc n=>
  cases h with
  |loc hn hv=>
   have e:(match st[n]? with |some (.lst xs)=>some xs |_=>none)=some xs:=e
   cases ec:st[n]? with
   |none=>rw[ec]at e;cases e
   |some c=>
    rw[ec]at e;cases c with
    |lst ys=>
     cases e;cases el:m.ls[n]? with
     |none=>exact absurd (za2.mp el) (by omega)
     |some o=>
      cases o with
      |none=>rw[s.dead n el]at ec;cases ec
      |some a=>obtain⟨vs,h1,h2⟩:=s.cell n a _ el ec;exact⟨a,vs,hv a el,h1,h2⟩
    |_=>cases e
theorem wH(s:ak K H m st){v:Val}{ds:List PyData}(h:Rep K H m x v)(e:fu st v=some ds):∃ p vs,x= .ref p/\H p=some (.lst vs)/\aY K H m vs ds:=by obtain⟨xs,e1,e2⟩:=zax.mp e;obtain⟨p,vs,ex,hl,r⟩:=ju s h e1;exact⟨p,vs,ex,hl,gr r e2⟩
theorem zh(s:ak K H m st){v:Val}{xs:List Val}(h:Rep K H m x v)(e:iI st v=some xs):∃ p vs,x= .ref p/\(SqL K H p vs\/SqT K H p vs)/\aW K H m vs xs:=by
 unfold iI at e;split at e
 ·obtain⟨a,vs,ex,hl,r⟩:=gD h;cases e;exact⟨a,vs,ex,.inr hl.sq,lW r⟩
 ·obtain⟨p,vs,ex,hl,r⟩:=ju s h e;exact⟨p,vs,ex,.inl (.inl (.inl hl)),r⟩
theorem zj(s:ak K H m st){v:Val}{ds:List PyData}(h:Rep K H m x v)(e:dO st v=some ds):∃ p vs,x= .ref p/\(SqL K H p vs\/SqT K H p vs)/\aY K H m vs ds:=by obtain⟨xs,e1,e2⟩:=zax.mp e;obtain⟨p,vs,ex,hl,r⟩:=zh s h e1;exact⟨p,vs,ex,hl,gr r e2⟩
end
theorem paired_get{α β:Type}{F:α->β->Prop}:∀ {l:List α} {k:List β} {i:Nat} {b:β},Paired F l k->k[i]?=some b->∃ a,l[i]?=some a/\F a b
 |_,_,_,_,.nil,e=>by simp at e
 |_,_,0,_,.cons h _,e=>by simp at e;subst e;exact⟨_,rfl,h⟩
 |_,_,i+1,_,.cons _ r,e=>by obtain⟨a,h1,h2⟩:=paired_get (i:=i) r (by simpa using e);exact⟨a,by simpa using h1,h2⟩
theorem bM{α β:Type}{F:α->β->Prop}:∀ {l l':List α} {k k':List β},Paired F l k->Paired F l' k'->Paired F (l++l') (k++k')
 |_,_,_,_,.nil,q=>q
 |_,_,_,_,.cons h r,q=>.cons h (bM r q)
theorem sW{α β:Type}{F:α->β->Prop}:∀ (n:Nat) {l:List α} {k:List β},Paired F l k->Paired F (l.take n) (k.take n)
 | 0,_,_,_=>.nil
 |_+1,_,_,.nil=>.nil
 |n+1,_,_,.cons h r=>.cons h (sW n r)
theorem sX{α β:Type}{F:α->β->Prop}:∀ (n:Nat) {l:List α} {k:List β},Paired F l k->Paired F (l.drop n) (k.drop n)
 | 0,_,_,q=>q
 |_+1,_,_,.nil=>.nil
 |n+1,_,_,.cons _ r=>sX n r
theorem uU{α β:Type}{F:α->β->Prop}{a:α}{b:β}(h:F a b):∀ (n:Nat) {l:List α} {k:List β},Paired F l k->Paired F (l.set n a) (k.set n b)
 |_,_,_,.nil=>.nil
 | 0,_,_,.cons _ r=>.cons h r
 |n+1,_,_,.cons q r=>.cons q (uU h n r)
theorem CO{α β:Type}{F:α->β->Prop}{l:List α}{k:List β}(h:Paired F l k):Paired F l.reverse k.reverse:=by
 induction h with
 |nil=>exact .nil
 |cons a _ ih=>rw[List.reverse_cons,List.reverse_cons];exact bM ih (.cons a .nil)
theorem pq{α β:Type}{F:α->β->Prop}{l:List α}{k:List β}(h:Paired F l k):∀ n:Nat,Paired F (List.replicate n l).flatten (List.replicate n k).flatten
 | 0=>.nil
 |n+1=>by rw[zbs,zbs,zbR,zbR];exact bM h (pq h n)
structure bQ (X:Cx):Prop where
 calm:X.calm=true
 nd:X.N.Nodup
 un:X.A.units+200<cLine
 gd:X.A.guards=some []
 sm:∃ o,X.base.get? sysModules=some o
section
variable {g:Gx} {m:Mp} {H:Hp} {st:aa} {α β:Type} {k:β->aa->Mp->Hp->Prop}
theorem ai.guard{c:Prop}[Decidable c]{r:Option (β×aa)}(h:ai g m H (guard' c r) k):c/\ai g m H r k:=by
 unfold guard' at h;split at h
 ·exact⟨by assumption,h⟩
 ·exact h.elim
theorem ai.bind{o:Option α}{f:α->Option (β×aa)}(h:ai g m H (o.bind f) k):∃ a,o=some a/\ai g m H (f a) k:=by
 cases o with
 |none=>exact h.elim
 |some a=>exact⟨a,rfl,h⟩
end
mutual
theorem bG.reads{X:Cx}{pins:List (Addr×Obj)}{σ:L2.St}{H:Hp}{s:Shared}{m:Mp}(C:∃ o,X.base.get? sysModules=some o)(I:Inv X pins σ H s):∀ (d:PyData) (v:V) (u:Value),bG X.K H m v d->RelV v u->∃ as,Reads s.heap u d as/\sysModules∉as
 | .none,_,_,h,r=>by cases h;cases r;exact⟨_,Reads.none,by simp⟩
 | .bool b,_,_,h,r=>by cases h;cases r;exact⟨_,Reads.bool b,by simp⟩
 | .int i,_,_,h,r=>by cases h;obtain⟨t,rfl⟩:=r;exact⟨_,Reads.int i t,by simp⟩
 | .str x,_,_,h,r=>by cases h;obtain⟨t,rfl⟩:=r;exact⟨_,Reads.str x t,by simp⟩
 | .list ds,_,_,h,r=>by
   cases h with
   | @lst a xs _ hs ha=>
     cases r;obtain⟨_,its,n,rv,ho⟩:=(show ObjOk X.prog X.w H s.heap a (.lst xs)from I.hok a _ hs.1);obtain⟨as,hr,hn⟩:=aY.reads C I ds _ its ha rv;refine⟨_,Reads.list ho rfl rfl hr,fun z=>?_⟩;rcases zas.mp z with e |z
     ·obtain⟨o,e2⟩:=C;rw[e]at e2;exact eY hs.1 (I.bs a o e2).2
     ·exact hn z
 | .tuple ds,_,_,h,r=>by
   cases h with
   |tup hs ha=>cases r;obtain⟨its,rv,⟨o,ho,hc,n,hd⟩,_⟩:=I.tuple hs.sq;obtain⟨as,hr,hn⟩:=aY.reads C I ds _ its ha rv;exact⟨_,Reads.tuple ho hc hd hr,hn⟩
 | .dict kvs,_,_,h,r=>by
   cases h with
   | @dct a es _ hs ha=>
     cases r;obtain⟨_,hx,vs,rv,o,des,ep,ho,hc,hd,_,hp,_⟩:=(show ObjOk X.prog X.w H s.heap a (.dK es)from I.hok a _ hs.1);obtain⟨as,bs,r1,r2,n1,n2⟩:=eE.reads C I kvs es vs des.toList ha rv hp;refine⟨_,Reads.dict ho hc.1 hd r1 r2,fun z=>?_⟩;have hx : ¬ a=sysModules:=fun e=>by rw[e]at hx;simp at hx
     rcases zaX.mp z with z |z
     ·rcases zas.mp z with z |z
      ·exact hx z.symm
      ·exact n1 z
     ·exact n2 z
theorem eE.reads{X:Cx}{pins:List (Addr×Obj)}{σ:L2.St}{H:Hp}{s:Shared}{m:Mp}(C:∃ o,X.base.get? sysModules=some o)(I:Inv X pins σ H s):∀ (kvs:List (PyData×PyData)) (es:List (Key×V)) (vs:List (Key×Value)) (l:List DictEntry),eE X.K H m es kvs->KV es vs->Pairs (mixKind X.prog X.w) l vs->
 ∃ as bs,ReadsAll s.heap (l.map (·.key)) (kvs.map (·.1)) as/\ReadsAll s.heap (l.map (·.val)) (kvs.map (·.2)) bs/\sysModules∉as/\sysModules∉bs
 | [],_,_,_,h,r,p=>by cases h;cases r;cases p;exact⟨_,_,ReadsAll.nil,ReadsAll.nil,by simp,by simp⟩
 |(kd,d)::kvs,_,_,_,h,r,p=>by
  cases h with
  | @cons k v es _ _ h1 h2=>
    cases r with
    |cons r1 r2=>
     cases p with
     | @cons e' _ _ _ p1 p2 p3=>
       obtain⟨as,bs,q1,q2,n1,n2⟩:=eE.reads C I kvs _ _ _ h2 r2 p3;obtain⟨e1,e2⟩:=r1;obtain⟨cs,q3,n3⟩:=bG.reads C I d _ _ h1 e2;have kr:∃ ds,Reads s.heap e'.key (keyD k) ds/\ds=[]:=by
        rcases keyIs_shape p1 with⟨i,t,z1,z2⟩|⟨x,t,z1,z2⟩
        ·rw[z2];have:k= .inl i:=e1.trans z1;rw[this];exact⟨_,Reads.int i t,rfl⟩
        ·rw[z2];have:k= .inr x:=e1.trans z1;rw[this];exact⟨_,Reads.str x t,rfl⟩
       obtain⟨ds,q4,rfl⟩:=kr;refine⟨_,_,ReadsAll.cons q4 q1,ReadsAll.cons (show Reads s.heap e'.val d cs by rw[p2];exact q3) q2,by simpa using n1,fun z=>?_⟩;exact(zaX.mp z).elim n3 n2
theorem aY.reads{X:Cx}{pins:List (Addr×Obj)}{σ:L2.St}{H:Hp}{s:Shared}{m:Mp}(C:∃ o,X.base.get? sysModules=some o)(I:Inv X pins σ H s):∀ (ds:List PyData) (vs:List V) (us:List Value),aY X.K H m vs ds->Vals vs us->∃ as,ReadsAll s.heap us ds as/\sysModules∉as
 | [],_,_,h,r=>by cases h;cases r;exact⟨_,ReadsAll.nil,by simp⟩
 |d::ds,_,_,h,r=>by
  cases h with
  |cons h1 h2=>
   cases r with
   |cons r1 r2=>obtain⟨as,q1,n1⟩:=bG.reads C I d _ _ h1 r1;obtain⟨bs,q2,n2⟩:=aY.reads C I ds _ _ h2 r2;exact⟨_,ReadsAll.cons q1 q2,fun z=>(zaX.mp z).elim n1 n2⟩
end
section
variable {X:Cx}
abbrev gx(X:Cx):Gx:=⟨X.K,X.mg⟩
abbrev GO(X:Cx)(f:Value->Value->Sem Value)(o:jM):Prop:=OpR X f (K4 (gx X) o)
theorem ES:OpR X (binaryOp .Add) (fun x y H Q=>∃ k i,x= .bl k/\y= .int i/\Q (.int (pY k+i)) H):=by rintro pins s σ H x y v u Q I rx ry ⟨k,i,rfl,rfl,q⟩;obtain⟨t,rfl⟩:=ry;cases rx;exact Px ⟨.int (pY k+i),H,I.tok _,⟨_,rfl⟩,q⟩
theorem CP:OpR X (binaryOp .Add) (fun x y H Q=>∃ i k,x= .int i/\y= .bl k/\Q (.int (i+pY k)) H):=by rintro pins s σ H x y v u Q I rx ry ⟨i,k,rfl,rfl,q⟩;obtain⟨t,rfl⟩:=rx;cases ry;exact add_int_bool ⟨.int (i+pY k),H,I.tok _,⟨_,rfl⟩,q⟩
theorem ET:OpR X (binaryOp .Sub) (fun x y H Q=>∃ k i,x= .bl k/\y= .int i/\Q (.int (pY k-i)) H):=by rintro pins s σ H x y v u Q I rx ry ⟨k,i,rfl,rfl,q⟩;obtain⟨t,rfl⟩:=ry;cases rx;exact Py ⟨.int (pY k-i),H,I.tok _,⟨_,rfl⟩,q⟩
theorem EU:OpR X (binaryOp .Sub) (fun x y H Q=>∃ i k,x= .int i/\y= .bl k/\Q (.int (i-pY k)) H):=by rintro pins s σ H x y v u Q I rx ry ⟨i,k,rfl,rfl,q⟩;obtain⟨t,rfl⟩:=rx;cases ry;exact Pw ⟨.int (i-pY k),H,I.tok _,⟨_,rfl⟩,q⟩
theorem PL:GO X (binaryOp .Add) nC:=by
 refine OpR.pick ?_;rintro x y H Q ⟨m,st,a,b,s,ra,rb,o⟩;unfold nC at o;split at o
 ·rw[ay ra,ay rb];exact⟨_,op_add,_,_,rfl,rfl,ai.here o s _ (.d (.int _))⟩
 ·rw[g8 ra,ay rb];exact⟨_,ES,_,_,rfl,rfl,ai.here o s _ (.d (.int _))⟩
 ·rw[ay ra,g8 rb];exact⟨_,CP,_,_,rfl,rfl,ai.here o s _ (.d (.int _))⟩
 ·obtain⟨hz,o⟩:=o.guard;rw[aQ ra,aQ rb];exact⟨_,op_add_str,_,_,rfl,rfl,hz,ai.here o s _ (.d (.str _))⟩
 ·obtain⟨hz,o⟩:=o.guard;obtain⟨p,vs,e1,h1,r1⟩:=gD ra;obtain⟨q,ws,e2,h2,r2⟩:=gD rb;subst e1 e2;have l1:=r1.pair.length;have l2:=r2.pair.length;refine⟨_,Mg,_,_,vs,ws,rfl,rfl,h1.sq,h2.sq,by omega,fun e=>?_,fun _ e=>?_,fun _ _ z oo hz ho=>ai.fresh o s hz _ (eO s hz ho (.of (bM r1.pair r2.pair)))⟩
  ·subst e;cases r1;exact ai.here o s _ rb
  ·subst e;cases r2;rw[zau]at o;exact ai.here o s _ ra
 ·obtain⟨xs,ea,o⟩:=o.bind;obtain⟨ys,eb,o⟩:=o.bind;obtain⟨hz,o⟩:=o.guard;obtain⟨p,vs,e1,h1,r1⟩:=wH s ra ea;obtain⟨q,ws,e2,h2,r2⟩:=wH s rb eb;subst e1 e2;have l1:=r1.pair.length;have l2:=r2.pair.length;exact⟨_,op_cat,_,_,vs,ws,rfl,rfl,h1,h2,by omega,fun z hz=>ai.fresh o s hz _ (gE s hz (.of (bM r1.pair r2.pair)))⟩
theorem PM:GO X (binaryOp .Sub) za:=by
 refine OpR.pick ?_;rintro x y H Q ⟨m,st,a,b,s,ra,rb,o⟩;unfold za at o;split at o
 ·rw[ay ra,ay rb];exact⟨_,op_sub,_,_,rfl,rfl,ai.here o s _ (.d (.int _))⟩
 ·rw[g8 ra,ay rb];exact⟨_,ET,_,_,rfl,rfl,ai.here o s _ (.d (.int _))⟩
 ·rw[ay ra,g8 rb];exact⟨_,EU,_,_,rfl,rfl,ai.here o s _ (.d (.int _))⟩
 ·exact o.elim
theorem mul_str(x:Str)(k:Int)(h1 : -(2 ^ 63)<=k)(h2:k<2 ^ 63)(h3:x.length * k.toNat<=sizeLine):OpR X (binaryOp .Mult) (fun a b H Q=>a= .str x/\b= .int k/\Q (.str ⟨(lP k x.cps.toList).toArray⟩) H):=by
 intro pins s σ H a b v u Q I rx ry h;obtain⟨rfl,rfl,q⟩:=h;obtain⟨t,rfl⟩:=rx;obtain⟨t',rfl⟩:=ry;have e:Txt.mul x k=⟨(lP k x.cps.toList).toArray⟩:=by
  unfold Txt.mul lP;by_cases k1:k<1
  ·rw[zah k1,show k.toNat=0 by omega];rfl
  ·rw[zaj k1];by_cases k2:(k == 1 ||x.length == 0)=true
   ·rw[zah k2];rw[za3]at k2;rcases k2 with k2 |k2
    ·rw[eq_of_beq k2];simp
    ·have hz:x.cps.toList=[]:=by
      have q:x.cps.size=0:=eq_of_beq k2;simpa using q
     rw[hz];have:∀ n:Nat,(List.replicate n ([]:List Nat)).flatten=[]:=fun n=>by induction n with
      |zero=>rfl
      |succ n ih=>rw[zbs,zbR,ih];rfl
     obtain⟨cps⟩:=x;have hz:cps.toList=[]:=hz;rw[this];congr 1
     rw[←Array.toArray_toList (xs:=cps),hz]
   ·rw[zaj k2];congr 1
    have:∀ (n:Nat) (acc:Array Nat),((List.replicate n x.cps).foldl (·++·) acc)=acc++((List.replicate n x.cps.toList).flatten).toArray:=fun n=>by
     induction n with
     |zero=>intro acc;simp
     |succ n ih=>intro acc;rw[zbs,List.foldl_cons,ih,zbs,zbR];apply zbT.mp;simp
    rw[this];simp
 refine PySem.SB.mul ⟨by simp;omega,fun k1 k2=>?_,fun k1 k2=>?_⟩ fun t2 k2=>⟨.str _,H,I.tok _,⟨t2,by rw[e]⟩,q⟩
 ·intro hgt;have hk:0<k:=by omega
  have h4:(2 ^ 63-1:Int)<(x.length:Int) * k:=by have:=Int.lt_mul_of_ediv_lt hk hgt;exact this
  have h5:(x.length:Int) * k=((x.length * k.toNat:Nat):Int):=by rw[Int.natCast_mul,Int.toNat_of_nonneg (by omega)]
  rw[h5]at h4;rw[zap]at h3;omega
 ·unfold PySem.Builtin.Str.tooLong;simp;exact h3
theorem PN:GO X (binaryOp .Mult) zb:=by
 refine OpR.pick ?_;rintro x y H Q ⟨m,st,a,b,s,ra,rb,o⟩;unfold zb at o;split at o
 ·obtain⟨hz,o⟩:=o.guard;rw[ay ra,ay rb];exact⟨_,op_mulW,_,_,rfl,rfl,hz,ai.here o s _ (.d (.int _))⟩
 ·obtain⟨⟨h1,h2,h3⟩,o⟩:=o.guard;rw[aQ ra,ay rb];exact⟨_,mul_str _ _ h1 h2 h3,rfl,rfl,ai.here o s _ (.d (.str _))⟩
 ·obtain⟨⟨h2,h3,h4⟩,o⟩:=o.guard;obtain⟨p,vs,e1,h1,r1⟩:=gD ra;subst e1;rw[ay rb];have l1:=r1.pair.length;rename_i xs k _;by_cases h5:xs=[]\/k=1
  ·have e:lP k xs=xs:=by
    rcases h5 with e |e
    ·subst e;unfold lP;simp
    ·subst e;unfold lP;simp
   rw[e]at o;refine⟨_,HF,_,_,vs,rfl,rfl,h1.sq,?_,h2,h3,ai.here o s _ ra⟩;refine h5.imp (fun e=>?_) id;subst e;cases r1;rfl
  ·by_cases h6:k<=0
   ·have e:lP k xs=[]:=by
     unfold lP;rw[show k.toNat=0 by omega];rfl
    rw[e]at o;refine⟨_,HG,_,_,vs,rfl,rfl,h1.sq,fun e=>?_,h2,h6,fun z oo hz ho=>ai.fresh o s hz _ (eO s hz ho .nil)⟩;subst e;cases r1;exact h5 (.inl rfl)
   ·refine⟨_,HH,_,_,vs,rfl,rfl,h1.sq,fun e=>?_,by omega,h3,by omega,fun z oo hz ho=>ai.fresh o s hz _ (eO s hz ho (.of (pq r1.pair _)))⟩;subst e;cases r1;exact h5 (.inl rfl)
 ·obtain⟨⟨h2,h3,h4⟩,o⟩:=o.guard;obtain⟨p,vs,e1,h1,r1⟩:=rM ra;subst e1;rw[ay rb];have l1:=r1.pair.length;exact⟨_,op_rep,_,_,vs,rfl,rfl,h1.1,h2,h3,by rw[l1];exact h4,fun z hz=>ai.fresh o s hz _ (gE s hz (.of (pq r1.pair _)))⟩
 ·exact o.elim
theorem PP:GO X (binaryOp .Mod) oMod:=by
 refine OpR.pick ?_;rintro x y H Q ⟨m,st,a,b,s,ra,rb,o⟩;unfold oMod at o;split at o
 ·obtain⟨hz,o⟩:=o.guard;rw[ay ra,ay rb];exact⟨_,op_mod,_,_,rfl,rfl,hz,ai.here o s _ (.d (.int _))⟩
 ·exact o.elim
theorem Ms:GO X (binaryOp .FloorDiv) uO:=by
 refine OpR.pick ?_;rintro x y H Q ⟨m,st,a,b,s,ra,rb,o⟩;unfold uO at o;split at o
 ·obtain⟨hz,o⟩:=o.guard;rw[ay ra,ay rb];exact⟨_,op_fdivW,_,_,rfl,rfl,hz,ai.here o s _ (.d (.int _))⟩
 ·exact o.elim
theorem PR:GO X (binaryOp .Pow) wB:=by
 refine OpR.pick ?_;rintro x y H Q ⟨m,st,a,b,s,ra,rb,o⟩;unfold wB at o;split at o
 ·obtain⟨hz,o⟩:=o.guard;rw[ay ra,ay rb];exact⟨_,op_pow,_,_,rfl,rfl,hz,ai.here o s _ (.d (.int _))⟩
 ·exact o.elim
theorem PU:GO X (binaryOp .RShift) HA:=by
 refine OpR.pick ?_;rintro x y H Q ⟨m,st,a,b,s,ra,rb,o⟩;unfold HA at o;split at o
 ·obtain⟨hz,o⟩:=o.guard;rw[ay ra,ay rb];exact⟨_,op_shr,_,_,rfl,rfl,hz,ai.here o s _ (.d (.int _))⟩
 ·exact o.elim
theorem Mu:GO X (binaryOp .BitAnd) CG:=by
 refine OpR.pick ?_;rintro x y H Q ⟨m,st,a,b,s,ra,rb,o⟩;unfold CG at o;split at o
 ·rw[ay ra,ay rb];exact⟨_,op_and,_,_,rfl,rfl,ai.here o s _ (.d (.int _))⟩
 ·exact o.elim
end
section
variable {X:Cx}
theorem eS{pins:List (Addr×Obj)}{σ:L2.St}{H:Hp}{s:Shared}{m:Mp}{st:aa}(C:bQ X)(I:Inv X pins σ H s)(S:ak X.K H m st){v:Val}{d:PyData}{x:V}{u:Value}(h:Rep X.K H m x v)(e:iA st v=some d)(r:RelV x u):
 ∃ as,Reads s.heap u d as/\sysModules∉as:=by
 cases v with
 |d y=>cases e;exact bG.reads C.sm I _ x u (cN h) r
 |bW ns=>cases e
 |xc _ _=>cases e
 |td _=>cases e
 |dN _ _=>cases e
 |eo _ _=>cases e
 |loc n=>
  have e:(match st[n]? with |some (.lst xs)=>(datas xs).map PyData.list |_=>none)=some d:=e
  have e2:∃ xs ds,fT st (.loc n)=some xs/\datas xs=some ds/\d= .list ds:=by
   cases ec:st[n]? with
   |none=>rw[ec]at e;cases e
   |some c=>
    rw[ec]at e;cases c with
    |lst ys=>obtain⟨ds,h1,h2⟩:=zaG.mp e;exact⟨ys,ds,by show (match st[n]? with |some (.lst xs)=>some xs |_=>none)=some ys;rw[ec],h1,h2.symm⟩
    |_=>cases e
  obtain⟨xs,ds,h1,h2,rfl⟩:=e2;obtain⟨p,vs,rfl,hl,rr⟩:=ju S h h1;cases r;obtain⟨_,its,n,rv,ho⟩:=(show ObjOk X.prog X.w H s.heap p (.lst vs)from I.hok p _ hl);obtain⟨as,hr,hn⟩:=aY.reads C.sm I ds _ its (gr rr h2) rv;refine⟨_,Reads.list ho rfl rfl hr,fun z=>?_⟩;rcases zas.mp z with e |z
  ·obtain⟨o,e2⟩:=C.sm;rw[e]at e2;exact eY hl (I.bs p o e2).2
  ·exact hn z
theorem readsAll_len{h:Heap}:∀ (xs:List PyData) (vs:List Value) (as:List Addr),ReadsAll h vs xs as->vs.length=xs.length
 | [],_,_,r=>by cases r;rfl
 |_::xs,_,_,r=>by
  cases r with
  |cons _ r=>rw[zaf,zaf,readsAll_len xs _ _ r]
theorem EV(xs:List PyData):((List.range 0).all (fun _=>true) && xs.length == 0)=xs.isEmpty:=by cases xs <;> simp
theorem Mv(xs:List PyData):(!((List.range 0).all (fun _=>true) && xs.length == 0)) = !xs.isEmpty:=by rw[EV]
def rEqG(X:Cx)(neg:Bool):R2:=fun x y H Q=>∃ m st a b k,ak X.K H m st/\Rep X.K H m x a/\Rep X.K H m y b/\ql st a b=some k/\Q (.bl (if neg then !k else k)) H
theorem op_eqG(C:bQ X):OpR X (compareOp .Eq) (rEqG X false):=by
 intro pins s σ H x y v u Q I rx ry h;obtain⟨m,st,a,b,k,S,ra,rb,e,q⟩:=h;unfold ql at e;cases ea:iA st a with
 |none=>simp only[ea]at e;cases e
 |some d=>
  cases eb:iA st b with
  |none=>simp only[ea,eb]at e;cases e
  |some d'=>
   simp only[ea,eb]at e;obtain⟨as,r1,_⟩:=eS C I S ra ea rx;obtain⟨bs,r2,_⟩:=eS C I S rb eb ry;have hu:=C.un;unfold eqO at e;split at e
   ·rename_i hc;cases e;refine SeqAt.eq_plain r1 r2 hc.1 hc.2.1 ?_ ⟨.bl _,H,I,rfl,q⟩;have:=zcb d.depth d'.depth;omega
   ·split at e
    ·cases e;cases r1 with
     | @tuple l o vs n xs as₁ h1 h2 h3 h4=>
       cases r2 with
       | @tuple l' o' vs' n' ys bs₁ k1 k2 k3 k4=>
         have n1:=readsAll_len _ _ _ h4;rw[zaS]at n1;have n2:vs'.size=0:=by simpa using readsAll_len _ _ _ k4
         refine SeqAt.RcAt.tuples (e:=fun _=>true) ⟨_,h1,h2,_,h3⟩ ⟨_,k1,k2,_,k3⟩ (by omega) (fun j _ j2=>absurd j2 (by omega)) X.prog X.w _ _ ⟨.bl _,H,I,?_,q⟩;show Value.bool _=Value.bool _;congr 1
         rw[n2,Nat.min_zero,n1];exact EV _
    ·split at e
     ·rename_i hne;cases e;cases r1 with
      |list h1 h2 h3 h4=>
       cases r2 with
       |list k1 k2 k3 k4=>have n1:=readsAll_len _ _ _ h4;have n2:=readsAll_len _ _ _ k4;refine SeqAt.RcAt.lists_lengths ⟨_,h1,h2,_,h3⟩ ⟨_,k1,k2,_,k3⟩ ?_ (by omega) X.prog X.w _ _ ⟨.bl _,H,I,rfl,q⟩;simp only[zaS]at n1 n2;simp only[zbX,ne_eq];omega
     ·cases e
    ·cases e
theorem PY(C:bQ X):OpR X (compareOp .NotEq) (rEqG X true):=by
 intro pins s σ H x y v u Q I rx ry h;obtain⟨m,st,a,b,k,S,ra,rb,e,q⟩:=h;unfold ql at e;cases ea:iA st a with
 |none=>simp only[ea]at e;cases e
 |some d=>
  cases eb:iA st b with
  |none=>simp only[ea,eb]at e;cases e
  |some d'=>
   simp only[ea,eb]at e;obtain⟨as,r1,_⟩:=eS C I S ra ea rx;obtain⟨bs,r2,_⟩:=eS C I S rb eb ry;have hu:=C.un;unfold eqO at e;split at e
   ·rename_i hc;cases e;refine SeqAt.ne_plain r1 r2 hc.1 hc.2.1 ?_ ⟨.bl _,H,I,rfl,q⟩;have:=zcb d.depth d'.depth;omega
   ·split at e
    ·cases e;cases r1 with
     | @tuple l o vs n xs as₁ h1 h2 h3 h4=>
       cases r2 with
       | @tuple l' o' vs' n' ys bs₁ k1 k2 k3 k4=>
         have n1:=readsAll_len _ _ _ h4;rw[zaS]at n1;have n2:vs'.size=0:=by simpa using readsAll_len _ _ _ k4
         refine SeqAt.RcNeAt.tuples (e:=fun _=>true) ⟨_,h1,h2,_,h3⟩ ⟨_,k1,k2,_,k3⟩ (by omega) (fun j _ j2=>absurd j2 (by omega)) X.prog X.w _ _ ⟨.bl _,H,I,?_,q⟩;show Value.bool _=Value.bool _;congr 1
         rw[n2,Nat.min_zero,n1];exact Mv _
    ·split at e
     ·rename_i hne;cases e;cases r1 with
      |list h1 h2 h3 h4=>
       cases r2 with
       |list k1 k2 k3 k4=>have n1:=readsAll_len _ _ _ h4;have n2:=readsAll_len _ _ _ k4;refine SeqAt.RcNeAt.lists_lengths ⟨_,h1,h2,_,h3⟩ ⟨_,k1,k2,_,k3⟩ ?_ (by omega) X.prog X.w _ _ ⟨.bl _,H,I,rfl,q⟩;simp only[zaS]at n1 n2;simp only[zbX,ne_eq];omega
     ·cases e
    ·cases e
abbrev rB(p:V->V->Option Bool):R2:=fun x y H Q=>∃ k,p x y=some k/\Q (.bl k) H
theorem ai.sY{g:Gx}{m:Mp}{H:Hp}{st:aa}{k:Bool}{Q:VK}(s:ak g.K H m st)(o:ai g m H (bl st k) fun z _ m' H'=>∀ v,Rep g.K H' m' v z->Q v H'):Q (.bl k) H:=ai.here o s _ (.d (.bl k))
theorem U8(C:bQ X):GO X (compareOp .Eq) (cI .eq):=by refine OpR.pick ?_;rintro x y H Q ⟨m,st,a,b,s,ra,rb,o⟩;obtain⟨k,e,o⟩:=ai.bind o;exact⟨_,op_eqG C,m,st,a,b,k,s,ra,rb,e,ai.sY s o⟩
theorem U9(C:bQ X):GO X (compareOp .NotEq) (cI .ne):=by refine OpR.pick ?_;rintro x y H Q ⟨m,st,a,b,s,ra,rb,o⟩;obtain⟨k,e,o⟩:=ai.bind o;exact⟨_,PY C,m,st,a,b,k,s,ra,rb,e,ai.sY s o⟩
def Yr(X:Cx):R2:=fun x y H Q=>∃ m st xs ys,ak X.K H m st/\Rep X.K H m x (.d (.list xs))/\Rep X.K H m y (.d (.list ys))/\PySem.W.alike (.list xs) (.list ys)=true/\(PyData.list xs).depth<=64/\Q (.bl (PySem.W.dataLt (.list xs) (.list ys))) H
theorem PZ(C:bQ X):OpR X (compareOp .Lt) (Yr X):=by intro pins s σ H x y v u Q I rx ry h;obtain⟨m,st,xs,ys,S,ra,rb,al,hd,q⟩:=h;obtain⟨as,r1,_⟩:=eS C I S ra (show iA st (.d (.list xs))=some (.list xs)from rfl) rx;obtain⟨bs,r2,_⟩:=eS C I S rb (show iA st (.d (.list ys))=some (.list ys)from rfl) ry;have hu:=C.un;exact PySem.W.rcLt_alike _ _ _ _ _ _ as bs r1 r2 al (fun z=>by cases z) (by have:=zcb (PyData.list xs).depth (PyData.list ys).depth;omega) X.prog X.w _ _ ⟨.bl _,H,I,rfl,q⟩
def rLtT(X:Cx):R2:=fun x y H Q=>∃ m st xs ys,ak X.K H m st/\Rep X.K H m x (.d (.tuple xs))/\Rep X.K H m y (.d (.tuple ys))/\PySem.W.alike (.tuple xs) (.tuple ys)=true/\(PyData.tuple xs).depth<=64/\Q (.bl (PySem.W.dataLt (.tuple xs) (.tuple ys))) H
theorem op_ltT(C:bQ X):OpR X (compareOp .Lt) (rLtT X):=by intro pins s σ H x y v u Q I rx ry h;obtain⟨m,st,xs,ys,S,ra,rb,al,hd,q⟩:=h;obtain⟨as,r1,_⟩:=eS C I S ra (show iA st (.d (.tuple xs))=some (.tuple xs)from rfl) rx;obtain⟨bs,r2,_⟩:=eS C I S rb (show iA st (.d (.tuple ys))=some (.tuple ys)from rfl) ry;have hu:=C.un;exact PySem.W.rcLt_alike _ _ _ _ _ _ as bs r1 r2 al (fun z=>by cases z) (by have:=zcb (PyData.tuple xs).depth (PyData.tuple ys).depth;omega) X.prog X.w _ _ ⟨.bl _,H,I,rfl,q⟩
theorem Va(C:bQ X):GO X (compareOp .Lt) (cI .lt):=by
 refine OpR.pick ?_;rintro x y H Q ⟨m,st,a,b,s,ra,rb,o⟩;obtain⟨k,e,o⟩:=ai.bind o;have q:=ai.sY s o;unfold EQ at e;split at e
 ·split at e
  ·rename_i hc;cases e;exact⟨_,PZ C,m,st,_,_,s,ra,rb,hc.1,hc.2,q⟩
  ·cases e
 ·split at e
  ·rename_i hc;cases e;exact⟨_,op_ltT C,m,st,_,_,s,ra,rb,hc.1,hc.2,q⟩
  ·cases e
 unfold zd at e;split at e
 ·cases e;rw[ay ra,ay rb];exact⟨_,op_lt,_,_,rfl,rfl,q⟩
 ·cases e;rw[aQ ra,aQ rb];exact⟨_,op_lt_str,_,_,rfl,rfl,q⟩
 ·cases e
theorem Vb:GO X (compareOp .Gt) (cI .gt):=by
 refine OpR.pick ?_;rintro x y H Q ⟨m,st,a,b,s,ra,rb,o⟩;obtain⟨k,e,o⟩:=ai.bind o;have q:=ai.sY s o;unfold zd at e;split at e
 ·cases e;rw[ay ra,ay rb];exact⟨_,op_gt,_,_,rfl,rfl,q⟩
 ·cases e;rw[aQ ra,aQ rb];exact⟨_,op_gt_str,_,_,rfl,rfl,q⟩
 ·cases e
theorem Vc:GO X (compareOp .LtE) (cI .le):=by
 refine OpR.pick ?_;rintro x y H Q ⟨m,st,a,b,s,ra,rb,o⟩;obtain⟨k,e,o⟩:=ai.bind o;have q:=ai.sY s o;unfold ze at e;split at e
 ·cases e;rw[ay ra,ay rb];exact⟨_,op_le,_,_,rfl,rfl,q⟩
 ·cases e;rw[aQ ra,aQ rb];exact⟨_,op_le_str,_,_,rfl,rfl,q⟩
 ·cases e
theorem Vd:GO X (compareOp .GtE) (cI .ge):=by
 refine OpR.pick ?_;rintro x y H Q ⟨m,st,a,b,s,ra,rb,o⟩;obtain⟨k,e,o⟩:=ai.bind o;have q:=ai.sY s o;unfold ze at e;split at e
 ·cases e;rw[ay ra,ay rb];exact⟨_,op_ge,_,_,rfl,rfl,q⟩
 ·cases e;rw[aQ ra,aQ rb];exact⟨_,op_ge_str,_,_,rfl,rfl,q⟩
 ·cases e
theorem BC{K:PySem.W.Frag}{H:Hp}{m:Mp}{x:V}{d:PyData}(h:bG K H m x d):decide (x= .non)=decide (d= .none):=by cases h <;> simp
theorem Ve:GO X (compareOp .Is) (cI .is):=by
 refine OpR.pick ?_;rintro x y H Q ⟨m,st,a,b,s,ra,rb,o⟩;obtain⟨k,e,o⟩:=ai.bind o;have q:=ai.sY s o;unfold kK at e;split at e
 ·cases e;rw[lK rb];obtain⟨_,_,_,rfl,_⟩:=zg ra;exact⟨_,op_isN,rfl,by simpa using q⟩
 ·cases e;rw[lK rb];exact⟨_,op_isN,rfl,by rw[BC (cN ra)];exact q⟩
 ·cases e;rw[g8 ra,g8 rb];exact⟨_,op_is_bl,_,_,rfl,rfl,q⟩
 ·cases e
theorem HJ:GO X (compareOp .IsNot) (cI .oY):=by
 refine OpR.pick ?_;rintro x y H Q ⟨m,st,a,b,s,ra,rb,o⟩;obtain⟨k,e,o⟩:=ai.bind o;have q:=ai.sY s o;unfold kK at e;split at e
 ·cases e;rw[lK rb];obtain⟨_,_,_,rfl,_⟩:=zg ra;exact⟨_,op_notN,rfl,by simpa using q⟩
 ·cases e;rw[lK rb];exact⟨_,op_notN,rfl,by rw[BC (cN ra)];exact q⟩
 ·cases e;rw[g8 ra,g8 rb];exact⟨_,op_isnot_bl,_,_,rfl,rfl,q⟩
 ·cases e
theorem BD{K:PySem.W.Frag}{H:Hp}{m:Mp}:∀ {es:List (Key×V)} {kvs:List (PyData×PyData)},eE K H m es kvs->bX K H m es (kvs.map fun p=>(p.1,Val.d p.2))
 |_,_,.nil=>.nil
 |_,_,.cons h r=>.cons ⟨rfl,.d h⟩ (BD r)
theorem lX{K:PySem.W.Frag}{H:Hp}{m:Mp}{x:V}{st:aa}(s:ak K H m st){v:Val}{kvs:List (PyData×Val)}(h:Rep K H m x v)(e:eG st v=some kvs):∃ p es,x= .ref p/\H p=some (.dK es)/\bX K H m es kvs:=by
 cases v with
 |d d=>
  cases d with
  |dict ds=>obtain⟨a,vs,ex,hl,r⟩:=BB h;cases e;exact⟨a,vs,ex,hl.1,BD r⟩
  |_=>cases e
 |bW ns=>cases e
 |xc _ _=>cases e
 |td _=>cases e
 |dN _ _=>cases e
 |eo _ _=>cases e
 |loc n=>
  cases h with
  |loc hn hv=>
   have e:(match st[n]? with |some (.dct kvs)=>some kvs |_=>none)=some kvs:=e
   cases ec:st[n]? with
   |none=>rw[ec]at e;cases e
   |some c=>
    rw[ec]at e;cases c with
    |dct ys=>
     cases e;cases el:m.ls[n]? with
     |none=>exact absurd (za2.mp el) (by omega)
     |some o=>
      cases o with
      |none=>rw[s.dead n el]at ec;cases ec
      |some a=>obtain⟨vs,h1,h2⟩:=s.cell n a _ el ec;exact⟨a,vs,hv a el,h1,h2⟩
    |_=>cases e
theorem tV{a b:Key}(h:keyD a=keyD b):a=b:=by cases a <;> cases b <;> simp_all [keyD]
theorem pA{K:PySem.W.Frag}{H:Hp}{m:Mp}{k:Key}:∀ {es:List (Key×V)} {kvs:List (PyData×Val)},bX K H m es kvs->(valV es k=none/\bJ kvs (keyD k)=none)\/∃ v x,valV es k=some v/\bJ kvs (keyD k)=some x/\Rep K H m v x
 |_,_,.nil=>.inl ⟨rfl,rfl⟩
 |(j,v)::es,(d,x)::kvs,.cons h r=>by
  have h1:keyD j=d:=h.1;have ih:=pA (k:=k) r;by_cases e:j=k
  ·subst e;right;refine⟨v,x,?_,?_,h.2⟩
   ·simp[valV]
   ·show (if d=keyD j then some x else _)=some x;rw[zah h1.symm]
  ·have e2 : ¬ d=keyD k:=fun z=>e (tV (h1.trans z));have w1:valV ((j,v)::es) k=valV es k:=by simp[valV,e]
   have w2:bJ ((d,x)::kvs) (keyD k)=bJ kvs (keyD k):=by show (if d=keyD k then some x else _)=_;rw[zaj e2]
   rw[w1,w2];exact ih
theorem nU{K:PySem.W.Frag}{H:Hp}{m:Mp}{y:V}{d:PyData}(h:bG K H m y d)(hk:isKey d=true):∃ k,keyD k=d/\y=kV k:=by
 cases h with
 |int i=>exact⟨.inl i,rfl,rfl⟩
 |str i=>exact⟨.inr i,rfl,rfl⟩
 |_=>cases hk
theorem P0(hu:X.A.units+1<cLine)(neg:Bool):OpR X (compareOp (if neg then .NotIn else .In)) (fun y x H Q=>∃ a o,x= .ref a/\DGet H a y o/\Q (.bl (if neg then !o.isSome else o.isSome)) H):=by
 intro pins s σ H y x v u Q I ry rx h;obtain⟨a,o,rfl,g,q⟩:=h;cases rx;cases neg with
 |false=>exact d_in hu I g ry fun s3 I3=>⟨.bl _,H,I3,rfl,q⟩
 |true=>exact d_notIn hu I g ry fun s3 I3=>⟨.bl _,H,I3,rfl,q⟩
def Ys(X:Cx)(neg:Bool):R2:=fun x y H Q=>∃ m st d b ds k,ak X.K H m st/\bG X.K H m x d/\Rep X.K H m y b/\dO st b=some ds/\By d ds=some k/\Q (.bl (if neg then !k else k)) H
theorem P4(C:bQ X)(neg:Bool):OpR X (compareOp (if neg then .NotIn else .In)) (Ys X neg):=by
 intro pins s σ H x y v u Q I rx ry h;obtain⟨m,st,d,b,ds,k,S,ra,rb,e,ek,q⟩:=h;obtain⟨as,r1,_⟩:=bG.reads C.sm I _ _ _ ra rx;obtain⟨p,vs,rfl,hp,rd⟩:=zj S rb e;cases ry;have hu:=C.un;unfold By at ek;split at ek
 ·rename_i hc;cases ek;have hm:=Nat.min_le_right (PyData.depthAll ds) d.depth;rcases hp with hp |hp
  ·obtain⟨its,rv,⟨o,n,ho,hc1,_,hd⟩,_⟩:=I.list hp;obtain⟨bs,hr,_⟩:=aY.reads C.sm I ds _ its rd rv;cases neg with
   |false=>exact SeqAt.in_list_data (Reads.list ho hc1 hd hr) r1 hc.2.2.1 hc.1 (by omega) ⟨.bl _,H,I,rfl,q⟩
   |true=>exact SeqAt.notIn_list_data (Reads.list ho hc1 hd hr) r1 hc.2.2.1 hc.1 (by omega) ⟨.bl _,H,I,rfl,q⟩
  ·obtain⟨its,rv,⟨o,ho,hc1,n,hd⟩,_⟩:=I.tuple hp;obtain⟨bs,hr,_⟩:=aY.reads C.sm I ds _ its rd rv;cases neg with
   |false=>exact SeqAt.in_tuple_data (Reads.tuple ho hc1 hd hr) r1 hc.2.2.1 hc.1 (by omega) ⟨.bl _,H,I,rfl,q⟩
   |true=>exact SeqAt.notIn_tuple_data (Reads.tuple ho hc1 hd hr) r1 hc.2.2.1 hc.1 (by omega) ⟨.bl _,H,I,rfl,q⟩
 ·cases ek
theorem EW(C:bQ X)(neg:Bool):GO X (compareOp (if neg then .NotIn else .In)) (fun a b st=>(gq a b st).bind fun k=>bl st (if neg then !k else k)):=by
 refine OpR.pick ?_;rintro x y H Q ⟨m,st,a,b,s,ra,rb,o⟩;obtain⟨k,e,o⟩:=ai.bind o;have q:=ai.sY s o;have hu:=C.un;unfold gq at e;split at e
 ·cases e;rw[aQ ra,aQ rb];cases neg with
  |false=>exact⟨_,op_in_str,_,_,rfl,rfl,q⟩
  |true=>exact⟨_,op_notin_str,_,_,rfl,rfl,q⟩
 ·split at e
  ·obtain⟨kvs,e1,e2⟩:=zax.mp e;unfold guard' at e2;split at e2
   ·rename_i hk;cases e2;obtain⟨p,es,rfl,hp,r⟩:=lX s rb e1;obtain⟨kk,rfl,rfl⟩:=nU (cN ra) hk;refine⟨_,P0 (by omega) neg,p,valV es kk,rfl,DGet.k hp,?_⟩;rcases pA (k:=kk) r with⟨h1,h2⟩|⟨v,x,h1,h2,_⟩
    ·rw[h1];rw[h2]at q;exact q
    ·rw[h1];rw[h2]at q;exact q
   ·cases e2
  ·obtain⟨ds,e1,e2⟩:=zax.mp e;exact⟨_,P4 C neg,m,st,_,b,ds,k,s,cN ra,rb,e1,e2,q⟩
 ·cases e
theorem Vf(C:bQ X):GO X (compareOp .In) (cI .isin):=EW C false
theorem HK(C:bQ X):GO X (compareOp .NotIn) (cI .oZ):=EW C true
end
section
variable {X:Cx}
theorem IxR.pick{r:R2}(h:∀ x y H Q,r x y H Q->∃ r',IxR X r'/\r' x y H Q):IxR X r:=fun value slice pins s σ H x y v u Q I rx ry q hs=>let⟨_,h1,h2⟩:=h x y H Q q;h1 value slice pins s σ H x y v u Q I rx ry h2 hs
theorem SlR.pick{r:V->Option Int->Option Int->Hp->VK->Prop}(h:∀ x lo hi H Q,r x lo hi H Q->∃ r',SlR X r'/\r' x lo hi H Q):SlR X r:=fun pins s σ H x v vl vu lo hi sl Q I rx hs p1 p2 q=>let⟨_,h1,h2⟩:=h x lo hi H Q q;h1 pins s σ H x v vl vu lo hi sl Q I rx hs p1 p2 h2
theorem MtR.pick{id:String}{r:V->List V->Hp->VK->Prop}(h:∀ x xs H Q,r x xs H Q->∃ r',MtR X id r'/\r' x xs H Q):MtR X id r:=fun pins s σ H x xs v us Q I rx rs q=>let⟨_,h1,h2⟩:=h x xs H Q q;h1 pins s σ H x xs v us Q I rx rs h2
theorem zk{α β:Type}{F:α->β->Prop}{l:List α}{k:List β}{i:Int}{b:β}(h:Paired F l k)(e:atI k i=some b):∃ a,atI l i=some a/\F a b:=by unfold atI at e⊢;obtain⟨j,e1,e2⟩:=zax.mp e;obtain⟨a,h1,h2⟩:=paired_get h e2;exact⟨a,by rw[h.length,e1];exact h1,h2⟩
theorem Mw(hu:X.A.units+1<cLine):IxR X (fun x y H Q=>∃ a v,x= .ref a/\DGet H a y (some v)/\Q v H):=by intro value slice pins s σ H x y v u Q I rx ry h hs;obtain⟨a,w',rfl,g,q⟩:=h;cases rx;exact tail_any (dict_typeIs I g) slot_dict_getitem.lookup (d_getItem hu I g ry fun w2 s' I' r=>⟨w',H,I',r,q⟩) hs
theorem Vg(C:bQ X):IxR X (K4 (gx X) cW):=by
 refine IxR.pick ?_;rintro x y H Q ⟨m,st,a,b,s,ra,rb,o⟩;have hu:=C.un;unfold cW at o;split at o
 ·obtain⟨v,e,o⟩:=o.bind;obtain⟨p,rfl,hp⟩:=wG ra;rw[ay rb];refine⟨_,ix_list,p,_,_,.int v,rfl,rfl,hp,?_,ai.here o s _ (.d (.int _))⟩;unfold atI at e⊢;obtain⟨j,e1,e2⟩:=zax.mp e;rw[zaw,e1];show (List.map V.int _)[j]?=_;rw[zat,e2] <;> rfl
 ·split at o
  ·rename_i hz;obtain⟨c,e,o⟩:=o.bind;rw[aQ ra,ay rb];exact⟨_,ix_str,_,_,c,rfl,rfl,hz,e,ai.here o s _ (.d (.str _))⟩
  ·exact o.elim
 ·obtain⟨v,e,o⟩:=o.bind;obtain⟨p,vs,rfl,hp,r⟩:=gD ra;rw[ay rb];obtain⟨w',e',rv⟩:=zk r.pair e;exact⟨_,ix_tup,p,vs,_,w',rfl,rfl,hp.sq,e',ai.here o s _ (.d rv)⟩
 ·split at o
  ·obtain⟨kvs,e1,o1⟩:=o.bind;obtain⟨hk,o2⟩:=o1.guard;obtain⟨v,e2,o3⟩:=o2.bind;clear o o1 o2;obtain⟨p,es,rfl,hp,r⟩:=lX s ra e1;obtain⟨kk,rfl,rfl⟩:=nU (cN rb) hk;rcases pA (k:=kk) r with⟨h1,h2⟩|⟨w',x,h1,h2,rx⟩
   ·rw[h2]at e2;cases e2
   ·rw[h2]at e2;cases e2;exact⟨_,Mw (by omega),p,w',rfl,by rw[←h1];exact DGet.k hp,ai.here o3 s _ rx⟩
  ·split at o
   ·obtain⟨xs,e1,o⟩:=o.bind;obtain⟨v,e2,o⟩:=o.bind;obtain⟨p,vs,rfl,hp,r⟩:=ju s ra e1;rw[ay rb];obtain⟨w',e',rv⟩:=zk r e2;exact⟨_,ix_list,p,vs,_,w',rfl,rfl,.inl (.inl hp),e',ai.here o s _ rv⟩
   ·exact o.elim
 ·exact o.elim
theorem uV{α β:Type}{F:α->β->Prop}{l:List α}{k:List β}(lo hi:Option Int)(h:Paired F l k):Paired F (g7 l lo hi) (g7 k lo hi):=by unfold g7;rw[h.length];exact sW _ (sX _ h)
theorem HL{α:Type}{l:List α}{lo hi:Option Int}(h:HT.sIx l.length 0 lo=0/\HT.sIx l.length l.length hi=l.length):g7 l lo hi=l:=by unfold g7;rw[h.1,h.2,zbc,Nat.sub_zero,za6]
theorem HM(l:List Int)(lo hi:Option Int):cutV (l.map V.int) lo hi=(g7 l lo hi).map V.int:=by show g7 _ lo hi=_;unfold g7;rw[zaw,List.map_take,List.map_drop]
theorem HP:SlR X (fun x lo hi H Q=>∃ m st a,ak X.K H m st/\Rep X.K H m x a/\ai (gx X) m H (fU a lo hi st) fun z _ m' H'=>∀ v,Rep X.K H' m' v z->Q v H'):=by
 refine SlR.pick ?_;rintro x lo hi H Q ⟨m,st,a,s,ra,o⟩;unfold fU at o;split at o
 ·obtain⟨hz,o⟩:=o.guard;rw[aQ ra];refine⟨_,sl_str,_,rfl,hz,?_⟩;have q:=ai.here o s _ (.d (.str _));unfold g7 at q;rw[zaS]at q;exact q
 ·obtain⟨p,vs,rfl,hp,r⟩:=gD ra;have hl:=r.pair.length;refine⟨_,Mh,p,vs,rfl,hp.sq,fun hw=>?_,fun hw z oo hz ho=>?_⟩
  ·refine ai.here o s _ ?_;rw[HL (by rw[←hl];exact hw)];exact ra
  ·exact ai.fresh o s hz _ (eO s hz ho (.of (uV lo hi r.pair)))
 ·obtain⟨p,rfl,hp⟩:=wG ra;refine⟨_,sl_list,p,_,rfl,hp,fun z hz=>ai.fresh o s hz _ (gE s hz ?_)⟩;have:∀ (l:List Int),aY X.K H m (l.map V.int) (l.map PyData.int):=fun l=>by
   induction l with
   |nil=>exact .nil
   |cons a l ih=>exact .cons (.int a) ih
  rw[HM];exact this _
 ·obtain⟨ds,e1,o⟩:=o.bind;obtain⟨p,vs,rfl,hp,r⟩:=wH s ra e1;exact⟨_,sl_list,p,vs,rfl,.inl (.inl hp),fun z hz=>ai.fresh o s hz _ (gE s hz (.of (uV lo hi r.pair)))⟩
def uW:Ty->String
 | .tuple=>"tuple" | .list=>"list" | .str=>"str" | .int=>"int" | .bool=>"bool" | .dict=>"dict"
def P5:Option Ty->String
 |none=>"NoneType"
 |some t=>uW t
theorem Mx(t:Option Ty)(u:Ty):kitB (P5 t) (uW u)=some (isT t u):=by
 cases t with
 |none=>cases u <;> decide +kernel
 |some t=>cases t <;> cases u <;> decide +kernel
theorem P6{H:Hp}{m:Mp}{st:aa}{x:V}{v:Val}(s:ak X.K H m st)(h:Rep X.K H m x v)(e:Ld st v=true):TyX X.K H x (.type (P5 (tyOf st v))):=by
 cases v with
 |d d=>
  cases cN h with
  |non=>exact .base .non
  |bl b=>exact .base (.bl b)
  |int b=>exact .base (.int b)
  |str b=>exact .base (.str b)
  |tup ht _=>
   rcases ht with⟨⟨o,ht,_⟩,_⟩|⟨o,its,n,ht,hc,_⟩
   ·exact .fTuple ht
   ·exact .kTuple ht hc
  |lst ht _=>exact .base (.lst ht.1)
  |dct ht _=>exact .base (.dK ht.1)
 |bW ns=>cases e
 |xc _ _=>cases e
 |td _=>cases e
 |dN _ _=>cases e
 |eo _ _=>cases e
 |loc n=>
  have e:(match st[n]? with |some (.lst _)=>true |some (.dct _)=>true |_=>false)=true:=e
  cases ec:st[n]? with
  |none=>rw[ec]at e;cases e
  |some c=>
   rw[ec]at e;cases c with
   |lst ys=>
    obtain⟨p,vs,rfl,hp,_⟩:=ju (xs:=ys) s h (by show (match st[n]? with |some (.lst xs)=>some xs |_=>none)=some ys;rw[ec])
    have ht:tyOf st (.loc n)=some .list:=by show (match st[n]? with |some (.lst _)=>some Ty.list |some (.dct _)=>some Ty.dict |_=>none)=_;rw[ec]
    rw[ht];exact .base (.lst hp)
   |dct ys=>
    obtain⟨p,vs,rfl,hp,_⟩:=lX (kvs:=ys) s h (by show (match st[n]? with |some (.dct xs)=>some xs |_=>none)=some ys;rw[ec])
    have ht:tyOf st (.loc n)=some .dict:=by show (match st[n]? with |some (.lst _)=>some Ty.list |some (.dct _)=>some Ty.dict |_=>none)=_;rw[ec]
    rw[ht];exact .base (.dK hp)
   |dead=>cases e
   |tab _=>cases e
   |obj _ _=>cases e
   |gQ _=>cases e
def Yt(X:Cx)(t:Ty):List V->Hp->VK->Prop:=fun xs H Q=>∃ m st x v,ak X.K H m st/\xs=[x,.ty (uW t)]/\Rep X.K H m x v/\ai (gx X) m H ((lQ st v [t]).bind fun k=>bl st k) fun z _ m' H'=>∀ v,Rep X.K H' m' v z->Q v H'
theorem HQ(t:Ty):CallR X (.builtin "isinstance") (Yt X t):=by
 refine CallR.pick ?_;rintro xs H Q ⟨m,st,x,v,s,rfl,r,o⟩;obtain⟨k,e,o⟩:=o.bind;have q:=ai.sY s o;unfold lQ at e;split at e
 ·rename_i hh;cases e;refine⟨_,call_isi,x,.ty (uW t),_,.type (uW t),isT (tyOf st v) t,rfl,.ty _,P6 s r hh,kit_ty (Mx _ _),?_⟩;rw[zbn,List.any_nil,zbD]at q;exact q
 ·cases e
end
end G
namespace L2
open PySem PySem.Spec PyProof.Rows
end L2
namespace G
open PySem PySem.Spec PyProof.Rows L2
def Mp.push(m:Mp)(p:Addr):Mp:=⟨m.ls++[some p],m.P⟩
section
variable {K:PySem.W.Frag} {H:Hp} {m:Mp} {st:aa} {p a:Addr} {o:HO} {c:Cell}
theorem wI{b:Addr}:(m.push p).In b↔m.In b\/b=p:=by unfold Mp.In Mp.push;simp
theorem eU(hp:H p=none):Ext m H (m.push p) (upd H p o) where
 len:=by unfold Mp.push;simp
 at_:=fun n hn=>.inl (by unfold Mp.push;rw[zaA hn])
 P:=rfl
 keep:=fun b u e _=>bf hp b u e
 new:=fun b h n=>by
  rcases wI.mp h with z |z
  ·exact absurd z n
  ·rw[z];exact hp
theorem kL(s:ak K H m st)(hp:H p=none)(hc:dH K (upd H p o) (m.push p) p c):ak K (upd H p o) (m.push p) (st++[c]) where
 len:=by unfold Mp.push;simp[s.len]
 inj:=fun i j b h1 h2=>by
  unfold Mp.push at h1 h2;have hb:∀ i:Nat,(m.ls++[some p])[i]?=some (some b)->(i<m.ls.length/\m.ls[i]?=some (some b))\/(i=m.ls.length/\b=p):=fun i h=>by
   by_cases hi:i<m.ls.length
   ·rw[zaA hi]at h;exact .inl ⟨hi,h⟩
   ·rw[zaC (by omega)]at h;have:i-m.ls.length=0:=by
     cases e:i-m.ls.length with
     |zero=>rfl
     |succ k=>rw[e]at h;simp at h
    rw[this]at h;simp at h;exact .inr ⟨by omega,h.symm⟩
  have nin:∀ i:Nat,m.ls[i]?=some (some p)->False:=fun i h=>s.live p (zag h) hp;rcases hb i h1 with⟨_,q1⟩|⟨q1,z1⟩<;> rcases hb j h2 with⟨_,q2⟩|⟨q2,z2⟩
  ·exact s.inj i j b q1 q2
  ·rw[z2]at q1;exact(nin _ q1).elim
  ·rw[z1]at q2;exact(nin _ q2).elim
  ·omega
 dead:=fun n h=>by
  unfold Mp.push at h;by_cases hi:n<m.ls.length
  ·rw[zaA hi]at h;have:=s.dead n h;rw[zaA (by rw[←s.len];exact hi)];exact this
  ·rw[zaC (by omega)]at h;cases e:n-m.ls.length with
   |zero=>rw[e]at h;simp at h
   |succ k=>rw[e]at h;simp at h
 np:=fun b h z=>by
  rcases wI.mp h with q |q
  ·exact s.np b q z
  ·rw[q]at z;exact s.trk p z hp
 live:=fun b h z=>by
  rcases wI.mp h with q |q
  ·cases e:H b with
   |none=>exact s.live b q e
   |some u=>exact eY (bf hp b u e) z
  ·rw[q,upd_same]at z;cases z
 trk:=fun b h z=>by
  cases e:H b with
  |none=>exact s.trk b h e
  |some u=>exact eY (bf hp b u e) z
 cell:=fun n b d h1 h2=>by
  unfold Mp.push at h1;by_cases hi:n<m.ls.length
  ·rw[zaA hi]at h1;rw[zaA (by rw[←s.len];exact hi)]at h2;exact(s.cell n b d h1 h2).ext (eU hp) (bf hp b)
  ·rw[zaC (by omega)]at h1;rw[zaC (by rw[←s.len];omega)]at h2;rw[←s.len]at h2;cases e:n-m.ls.length with
   |zero=>rw[e]at h1 h2;simp at h1 h2;rw[←h1,←h2];exact hc
   |succ k=>rw[e]at h1;simp at h1
theorem fH{o':HO}(h:m.In a)(e:H a=some o):Ext m H m (upd H a o') where
 len:=zal _
 at_:=fun _ _=>.inl rfl
 P:=rfl
 keep:=fun b u q n=>by rw[upd_ne (fun z=>n (by rw[z];exact h))];exact q
 new:=fun b q n=>absurd q n
theorem rN{o':HO}{n:Nat}(s:ak K H m st)(hn:m.ls[n]?=some (some a))(e:H a=some o)(hc:dH K (upd H a o') m a c):ak K (upd H a o') m (st.set n c) where
 len:=by rw[zbq];exact s.len
 inj:=s.inj
 dead:=fun k h=>by
  have hk:n≠k:=fun z=>by rw[←z,hn]at h;cases h
  rw[zar hk];exact s.dead k h
 np:=s.np
 live:=fun b h z=>by
  by_cases hb:b=a
  ·rw[hb,upd_same]at z;cases z
  ·rw[upd_ne hb]at z;exact s.live b h z
 trk:=fun b h z=>by
  by_cases hb:b=a
  ·rw[hb,upd_same]at z;cases z
  ·rw[upd_ne hb]at z;exact s.trk b h z
 cell:=fun k b d h1 h2=>by
  by_cases hk:n=k
  ·subst hk;rw[hn]at h1;cases h1;have hl:n<st.length:=by rw[←s.len];exact(zak.mp hn).1
   rw[zan hl]at h2;cases h2;exact hc
  ·rw[zar hk]at h2;have hb:b≠a:=fun z=>hk (s.inj n k a hn (by rw[←z];exact h1));exact(s.cell k b d h1 h2).ext (fH (zag hn) e) fun u q=>by rw[upd_ne hb];exact q
theorem dQ(s:ak K H m st){x:V}{n:Nat}(h:Rep K H m x (.loc n))(ec:st[n]?=some c)(nd:c≠.dead):∃ a,m.ls[n]?=some (some a)/\x= .ref a/\dH K H m a c:=by
 cases h with
 |loc hn hv=>
  cases el:m.ls[n]? with
  |none=>exact absurd (za2.mp el) (by omega)
  |some o=>
   cases o with
   |none=>rw[s.dead n el]at ec;cases ec;exact absurd rfl nd
   |some a=>exact⟨a,rfl,hv a el,s.cell n a _ el ec⟩
end
section
variable {X:Cx}
abbrev GN(X:Cx)(f:Value)(o:Lh):Prop:=CallR X f (rDn (gx X) o)
theorem fK{K:PySem.W.Frag}{H:Hp}{m:Mp}{xs:List V}{v:Val}(h:aW K H m xs [v]):∃ x,xs=[x]/\Rep K H m x v:=by
 cases h with
 |cons a r=>cases r;exact⟨_,rfl,a⟩
theorem pB{K:PySem.W.Frag}{H:Hp}{m:Mp}{xs:List V}{v w':Val}(h:aW K H m xs [v,w']):∃ x y,xs=[x,y]/\Rep K H m x v/\Rep K H m y w':=by
 cases h with
 |cons a r=>
  cases r with
  |cons b r=>cases r;exact⟨_,_,rfl,a,b⟩
theorem zm:CallR X (.builtin "len") (fun xs H Q=>∃ a kvs,xs=[.ref a]/\H a=some (.dK kvs)/\Q (.int (kvs.length:Nat)) H):=by intro pins s σ H xs us Q I r h;obtain⟨a,kvs,rfl,e,q⟩:=h;obtain rfl:=Vals.ref1 r;exact d_len I (.inl e) fun t s' I'=>⟨.int _,H,I',⟨_,rfl⟩,q⟩
theorem P7:GN X (.builtin "len") (cJ .len):=by
 refine CallR.pick ?_;rintro xs H Q ⟨m,st,as,s,rs,o⟩;unfold cJ at o;simp only at o;split at o
 ·obtain⟨hz,o⟩:=o.guard;obtain⟨x,rfl,r⟩:=fK rs;rw[aQ r];exact⟨_,call_len_str,_,rfl,hz,ai.here o s _ (.d (.int _))⟩
 ·obtain⟨x,rfl,r⟩:=fK rs;obtain⟨p,rfl,hp⟩:=wG r;refine⟨_,call_len_seq,p,_,rfl,.inl hp,?_⟩;rw[zaw];exact ai.here o s _ (.d (.int _))
 ·split at o
  ·obtain⟨kvs,e1,o⟩:=o.bind;obtain⟨x,rfl,r⟩:=fK rs;obtain⟨p,es,rfl,hp,r⟩:=lX s r e1;refine⟨_,zm,p,es,rfl,hp,?_⟩;rw[r.length];exact ai.here o s _ (.d (.int _))
  ·obtain⟨ys,e1,o⟩:=o.bind;obtain⟨x,rfl,r⟩:=fK rs;obtain⟨p,vs,rfl,hp,r⟩:=zh s r e1;refine⟨_,call_len_seq,p,vs,rfl,hp,?_⟩;rw[r.length];exact ai.here o s _ (.d (.int _))
 ·exact o.elim
theorem HR:GN X (.type "tuple") (cJ .tuple):=by
 refine CallR.pick ?_;rintro xs H Q ⟨m,st,as,s,rs,o⟩;unfold cJ at o;simp only at o;split at o
 ·obtain⟨ds,e,o⟩:=o.bind;obtain⟨x,rfl,r⟩:=fK rs;rename_i v;obtain⟨xs,e1,e2⟩:=zax.mp e;unfold iI at e1;split at e1
  ·rename_i zs;cases e1;obtain⟨p,vs,rfl,hp,rr⟩:=gD r;refine⟨_,sU,p,vs,rfl,.inr ⟨hp.sq,ai.here o s _ ?_⟩⟩;have:∀ l:List PyData,datas (l.map Val.d)=some l:=fun l=>by
    induction l with
    |nil=>rfl
    |cons a l ih=>show (datas (l.map Val.d)).map _=_;rw[ih] <;> rfl
   rw[this]at e2;cases e2;exact r
  ·obtain⟨p,vs,rfl,hp,rr⟩:=ju s r e1;exact⟨_,sU,p,vs,rfl,.inl ⟨.inl (.inl hp),fun z oo hz ho=>ai.fresh o s hz _ (eO s hz ho (gr rr e2))⟩⟩
 ·exact o.elim
theorem j8{K:PySem.W.Frag}{H:Hp}{m:Mp}{st:aa}{p:Addr}(hl:m.ls.length=st.length):Rep K H (m.push p) (.ref p) (.loc st.length):=by refine .loc (by unfold Mp.push;simp[hl]) fun a e=>?_;unfold Mp.push at e;rw[←hl,zaC (zal _),Nat.sub_self]at e;simp at e;rw[e]
theorem ai.alloc{g:Gx}{m:Mp}{H:Hp}{st:aa}{α:Type}{a:α}{c:Cell}{k:α->aa->Mp->Hp->Prop}{p:Addr}{o:HO}(h:ai g m H (some (a,st++[c])) k)(s:ak g.K H m st)(hp:H p=none)
 (hc:dH g.K (upd H p o) (m.push p) p c):k a (st++[c]) (m.push p) (upd H p o):=h _ _ (eU hp) (kL s hp hc)
theorem EY{K:PySem.W.Frag}{H:Hp}{m:Mp}:∀ {vs:List V} {ds:List PyData} {bs:List Str},aY K H m vs ds->strsOf ds=some bs->vs=bs.map V.str
 |_,_,_,.nil,e=>by cases e;rfl
 |_,_,bs,.cons (d:=d) h r,e=>by
  cases h with
  |str b=>unfold strsOf at e;obtain⟨l,e1,rfl⟩:=zaG.mp e;rw[EY r e1] <;> rfl
  |_=>cases e
theorem P8(C:bQ X):GN X (.type "str") (cJ .str):=by
 intro pins sh σ H xs us Q I rx h;obtain⟨m,st,as,s,rs,o⟩:=h;unfold cJ at o;simp only at o;split at o
 ·obtain⟨hz,o⟩:=o.guard;obtain⟨x,rfl,r⟩:=fK rs;have q:=ai.here o s _ (.d (.str _));exact call_str_int pins sh σ H _ us Q I rx ⟨_,by rw[ay r],hz,q⟩
 ·rename_i z;obtain⟨x,rfl,r⟩:=fK rs;have q:=ai.here o s _ (.d (.str _));obtain⟨u,rfl,ru⟩:=Vals.one rx;rw[aQ r]at ru;obtain⟨t,rfl⟩:=ru;exact PySem.P.str_of_str ⟨.str z,H,I,⟨t,rfl⟩,q⟩
 ·rename_i v hni hns;obtain⟨d,e,o⟩:=o.bind;obtain⟨⟨h1,h2,h3⟩,o⟩:=o.guard;obtain⟨x,rfl,r⟩:=fK rs;obtain⟨u,rfl,ru⟩:=Vals.one rx;have q:=ai.here o s _ (.d (.str _));obtain⟨bs,rd,hn⟩:=eS C I s r e ru;have hu:=C.un;have fin:∀ h' u tk,(∀ b o,sh.heap.get? b=some o->h'.get? b=some o)->EP X pins σ Q (.str d.shown u) { sh with heap:=h',toks:=tk }:=fun h' u tk k=>⟨.str d.shown,H,I.kept k,⟨_,rfl⟩,q⟩;have hv:∀ y,d=y->(v= .d y\/∃ zs,y= .list zs):=fun y hy=>by
   subst hy;cases v with
   |d z=>cases e;exact .inl rfl
   |loc n=>
    have e:(match st[n]? with
     |some (.lst xs)=>(datas xs).map PyData.list
     |_=>none)=some d:=e
    split at e
    ·rename_i ws _;cases hz:datas ws with
     |none=>rw[hz]at e;cases e
     |some zs=>rw[hz]at e;exact .inr ⟨zs,(zam e).symm⟩
    ·cases e
   |bW ns=>cases e
   |xc _ _=>cases e
   |td _=>cases e
   |dN _ _=>cases e
   |eo _ _=>cases e
  cases rd with
  |none=>exact PySem.P.str_of_none (fin _ _ _ fun _ _ z=>z)
  |bool b=>exact PySem.P.str_of_bool (by cases b <;> exact fin _ _ _ fun _ _ z=>z)
  |int i t=>
   rcases hv _ rfl with z |⟨_,z⟩
   ·exact(hni i (by rw[z])).elim
   ·cases z
  |str y t=>
   rcases hv _ rfl with z |⟨_,z⟩
   ·exact(hns y (by rw[z])).elim
   ·cases z
  |list g1 g2 g3 g4=>exact str_of_reads (.list g1 g2 g3 g4) h1 (fun _=>hn) C.gd (by omega) (fun _ _ z=>z) fin h3
  |tuple g1 g2 g3 g4=>exact str_of_reads (.tuple g1 g2 g3 g4) h1 (fun _=>hn) C.gd (by omega) (fun _ _ z=>z) fin h3
  |dict g1 g2 g3 g4 g5=>exact str_of_reads (.dict g1 g2 g3 g4 g5) h1 (fun _=>hn) C.gd (by omega) (fun _ _ z=>z) fin h3
 ·exact o.elim
theorem P9:GN X (.builtin "abs") (cJ .abs):=by
 refine CallR.pick ?_;rintro xs H Q ⟨m,st,as,s,rs,o⟩;unfold cJ at o;simp only at o;split at o
 ·obtain⟨x,rfl,r⟩:=fK rs;rw[ay r];exact⟨_,call_abs,_,rfl,ai.here o s _ (.d (.int _))⟩
 ·exact o.elim
theorem My(C:bQ X):GN X (.builtin "min") (cJ .min2):=by
 refine CallR.pick ?_;rintro xs H Q ⟨m,st,as,s,rs,o⟩;unfold cJ at o;simp only at o;split at o
 ·obtain⟨x,y,rfl,r1,r2⟩:=pB rs;rw[ay r1,ay r2];exact⟨_,call_min2 C.calm,_,_,rfl,ai.here o s _ (.d (.int _))⟩
 ·exact o.elim
theorem Mz(C:bQ X):GN X (.builtin "max") (cJ .max2):=by
 refine CallR.pick ?_;rintro xs H Q ⟨m,st,as,s,rs,o⟩;unfold cJ at o;simp only at o;split at o
 ·obtain⟨x,y,rfl,r1,r2⟩:=pB rs;rw[ay r1,ay r2];exact⟨_,call_max2 C.calm,_,_,rfl,ai.here o s _ (.d (.int _))⟩
 ·exact o.elim
theorem MA(C:bQ X):GN X (.builtin "repr") (cJ .repr):=by
 intro pins sh σ H xs us Q I rx h;obtain⟨m,st,as,s,rs,o⟩:=h;unfold cJ at o;simp only at o;split at o
 ·obtain⟨d,e,o⟩:=o.bind;obtain⟨⟨h1,h2,h3⟩,o⟩:=o.guard;obtain⟨x,rfl,r⟩:=fK rs;obtain⟨u,rfl,ru⟩:=Vals.one rx;have q:=ai.here o s _ (.d (.str _));obtain⟨bs,rd,hn⟩:=eS C I s r e ru;have hu:=C.un;have fin:∀ h' u tk,(∀ b o,sh.heap.get? b=some o->h'.get? b=some o)->EP X pins σ Q (.str d.shown u) { sh with heap:=h',toks:=tk }:=fun h' u tk k=>⟨.str d.shown,H,I.kept k,⟨_,rfl⟩,q⟩;cases rd with
  |none=>exact PySem.P.repr_of_none (fin _ _ _ fun _ _ z=>z)
  |bool b=>exact PySem.P.repr_of_bool (by cases b <;> exact fin _ _ _ fun _ _ z=>z)
  |int i t=>
   have hi:i.natAbs.log2<1920:=by simpa[PyData.showable]using h1
   exact PySem.P.repr_of_int hi (fin _ _ _ fun _ _ z=>z)
  |str y t=>exact PySem.P.repr_of_str (fin _ _ _ fun _ _ z=>z) h3
  |list g1 g2 g3 g4=>exact repr_of_reads' (.list g1 g2 g3 g4) h1 (fun _=>hn) C.gd (by omega) (fun _ _ z=>z) fin h3
  |tuple g1 g2 g3 g4=>exact repr_of_reads' (.tuple g1 g2 g3 g4) h1 (fun _=>hn) C.gd (by omega) (fun _ _ z=>z) fin h3
  |dict g1 g2 g3 g4 g5=>exact repr_of_reads' (.dict g1 g2 g3 g4 g5) h1 (fun _=>hn) C.gd (by omega) (fun _ _ z=>z) fin h3
 ·exact o.elim
abbrev GM(X:Cx)(id:String)(o:Wt):Prop:=MtR X id (rDm (gx X) o)
theorem ai.mut{g:Gx}{m:Mp}{H:Hp}{st:aa}{α:Type}{b:α}{c:Cell}{n:Nat}{k:α->aa->Mp->Hp->Prop}{a:Addr}{o o':HO}(h:ai g m H (some (b,setC st n c)) k)(s:ak g.K H m st)(hn:m.ls[n]?=some (some a))(e:H a=some o)
 (hc:dH g.K (upd H a o') m a c):k b (setC st n c) m (upd H a o'):=h _ _ (fH (zag hn) e) (rN s hn e hc)
theorem xC:GM X "list.append" (bO .append):=by
 refine MtR.pick ?_;rintro x xs H Q ⟨m,st,a,as,s,ra,rs,o⟩;unfold bO at o;simp only at o;split at o
 ·split at o
  ·rename_i ec;obtain⟨hz,o⟩:=o.guard;obtain⟨p,hn,rfl,vs,hp,rr⟩:=dQ s ra ec (by simp);obtain⟨y,rfl,ry⟩:=fK rs;have l:=rr.length;exact⟨_,mt_append,p,vs,y,rfl,rfl,hp,by omega,ai.mut o s hn hp ⟨_,upd_same,aW.ext (fH (zag hn) hp) (bM rr (.cons ry .nil))⟩ _ (.d .non)⟩
  ·exact o.elim
 ·exact o.elim
theorem BE:GM X "str.join" (bO .join):=by
 refine MtR.pick ?_;rintro x xs H Q ⟨m,st,a,as,s,ra,rs,o⟩;unfold bO at o;simp only at o;split at o
 ·obtain⟨ds,e1,o⟩:=o.bind;obtain⟨ys,e2,o⟩:=o.bind;obtain⟨hz,o⟩:=o.guard;obtain⟨y,rfl,ry⟩:=fK rs;rw[aQ ra];obtain⟨p,vs,rfl,hp,rr⟩:=zj s ry e1;rw[EY rr e2]at hp;exact⟨_,mt_join,_,p,ys,rfl,rfl,hp,hz,ai.here o s _ (.d (.str _))⟩
 ·exact o.elim
def nV:Me->String:=fun m=>uW (CK m)
theorem BF{H:Hp}{mm:Mp}{st:aa}{x:V}{v:Val}{m:Me}(s:ak X.K H mm st)(r:Rep X.K H mm x v)(e:recv m st v=true):tyV X.K (nV m) x H:=by
 unfold recv at e;unfold nV;generalize CK m=t at e⊢;cases t with
 |str=>
  cases v with
  |d d=>
   cases d with
   |str z=>rw[aQ r] <;> rfl
   |_=>cases e
  |_=>cases e
 |list=>obtain⟨xs,ex⟩:=zbz.mp (show (fT st v).isSome=true from by cases v <;> exact e);obtain⟨p,vs,rfl,hp,_⟩:=ju s r ex;exact .inl ⟨rfl,vs,.inl (.inl hp)⟩
 |dict=>obtain⟨xs,ex⟩:=zbz.mp (show (eG st v).isSome=true from by cases v <;> exact e);obtain⟨p,vs,rfl,hp,_⟩:=lX s r ex;exact .inr (.inr (.inl ⟨rfl,.inl ⟨vs,hp⟩⟩))
 |_=>cases v <;> cases e
theorem OpR.MB{t:TSet}(h:∀ o i v H Q,t o i v H Q->∃ t',PSet X t'/\t' o i v H Q):PSet X t:=fun pins s σ H o i v ov iv u Q I r1 r2 r3 q=>let⟨_,h1,h2⟩:=h o i v H Q q;h1 pins s σ H o i v ov iv u Q I r1 r2 r3 h2
theorem set_dict(hu:X.A.units+1<cLine):PSet X (fun o i v H Q=>∃ a H',o= .ref a/\DPut H a i v H'/\Q H'):=by intro pins s σ H o i v ov iv u Q I r1 r2 r3 h;obtain⟨a,H',rfl,g,q⟩:=h;cases r1;exact d_setItem hu I g r2 r3 fun s' I'=>⟨H',I',q⟩
theorem uX{K:PySem.W.Frag}{H:Hp}{m:Mp}{k:Key}{v:V}{x:Val}(hv:Rep K H m v x):∀ {es:List (Key×V)} {kvs:List (PyData×Val)},bX K H m es kvs->
 bX K H m (es.map fun kv=>if kv.1=k then(kv.1,v)else kv) (kvs.map fun p=>if p.1=keyD k then(keyD k,x)else p)
 |_,_,.nil=>.nil
 |p::_,q::_,.cons h t=>by
  refine .cons ?_ (uX hv t);show keyD (if p.1=k then(p.1,v)else p).1=(if q.1=keyD k then(keyD k,x)else q).1/\Rep K H m (if p.1=k then(p.1,v)else p).2 (if q.1=keyD k then(keyD k,x)else q).2;by_cases e:p.1=k
  ·have e2:q.1=keyD k:=by rw[←h.1,e]
   rw[zah e,zah e2];exact⟨by rw[e],hv⟩
  ·have e2 : ¬ q.1=keyD k:=fun z=>e (tV (h.1.trans z));rw[zaj e,zaj e2];exact h
theorem wJ{K:PySem.W.Frag}{H:Hp}{m:Mp}{k:Key}{v:V}{x:Val}(hv:Rep K H m v x):∀ {es:List (Key×V)} {kvs:List (PyData×Val)},bX K H m es kvs->bX K H m (putK es k v) (aq kvs [(keyD k,x)]):=by
 intro es kvs r;have hany:∀ {es:List (Key×V)} {kvs:List (PyData×Val)},bX K H m es kvs->(es.any fun kv=>decide (kv.1=k))=kvs.any fun p=>decide (p.1=keyD k):=by
  intro es kvs r;induction r with
  |nil=>rfl
  | @cons p q l l' h t ih=>
    rw[zbn,zbn,ih];congr 1
    rw[←h.1];exact decide_eq_decide.mpr ⟨fun z=>by rw[z],tV⟩
 unfold putK;show bX K H m _ (if kvs.any (fun p=>decide (p.1=keyD k))=true then kvs.map (fun p=>if p.1=keyD k then(keyD k,x)else p)else kvs++[(keyD k,x)]);rw[hany r];split
 ·exact uX hv r
 ·exact bM r (.cons ⟨rfl,hv⟩ .nil)
def Yu(X:Cx):TSet:=fun o i v H Q=>∃ m st a b c,ak X.K H m st/\Rep X.K H m o a/\Rep X.K H m i b/\Rep X.K H m v c/\ai (gx X) m H ((jr a b c st).map fun st=>((),st)) fun _ _ _ H'=>Q H'
theorem Qa(C:bQ X):PSet X (Yu X):=by
 refine OpR.MB ?_;rintro x i v H Q ⟨m,st,a,b,c,s,ra,rb,rc,o⟩;have hu:=C.un;unfold jr at o;split at o
 ·split at o
  ·rename_i ec;cases ej:ixN _ _ with
   |none=>rw[ej]at o;exact o.elim
   |some j=>rw[ej]at o;obtain⟨p,hn,rfl,vs,hp,rr⟩:=dQ s ra ec (by simp);rw[ay rb];refine⟨_,set_list,p,vs,_,j,rfl,rfl,hp,by rw[rr.length];exact ej,?_⟩;exact ai.mut o s hn hp ⟨_,upd_same,aW.ext (fH (zag hn) hp) (uU rc j rr)⟩
  ·rename_i ec;split at o
   ·rename_i hk;obtain⟨p,hn,rfl,es,hp,rr⟩:=dQ s ra ec (by simp);obtain⟨kk,rfl,rfl⟩:=nU (cN rb) hk.1;refine⟨_,set_dict (by omega),p,_,rfl,DPut.k hp (by rw[rr.length];exact hk.2),?_⟩;exact ai.mut o s hn hp ⟨_,upd_same,bX.ext (fH (zag hn) hp) (wJ rc rr)⟩
   ·exact o.elim
  ·exact o.elim
 ·exact o.elim
end
theorem Vh{K:PySem.W.Frag}{H:Hp}{m:Mp}{xs:List V}{v w' u:Val}(h:aW K H m xs [v,w',u]):∃ x y z,xs=[x,y,z]/\Rep K H m x v/\Rep K H m y w'/\Rep K H m z u:=by
 cases h with
 |cons a r=>obtain⟨y,z,rfl,h1,h2⟩:=pB r;exact⟨_,_,_,rfl,a,h1,h2⟩
section
variable {X:Cx}
theorem zo:GM X "str.find" (bO .find3):=by
 refine MtR.pick ?_;rintro x xs H Q ⟨m,st,a,as,s,ra,rs,o⟩;unfold bO at o;simp only at o;split at o
 ·obtain⟨y,z,rfl,ry,rz⟩:=pB rs;rw[aQ ra,aQ ry,ay rz];exact⟨_,mt_find3,_,_,_,rfl,rfl,ai.here o s _ (.d (.int _))⟩
 ·exact o.elim
theorem zq:GM X "str.find" (bO .mO):=by
 refine MtR.pick ?_;rintro x xs H Q ⟨m,st,a,as,s,ra,rs,o⟩;unfold bO at o;simp only at o;split at o
 ·obtain⟨y,z,w,rfl,ry,rz,rw'⟩:=Vh rs;rw[aQ ra,aQ ry,ay rz,ay rw'];exact⟨_,mt_find4,_,_,_,_,rfl,rfl,ai.here o s _ (.d (.int _))⟩
 ·exact o.elim
theorem uY:GM X "str.rstrip" (bO .i8):=by
 refine MtR.pick ?_;rintro x xs H Q ⟨m,st,a,as,s,ra,rs,o⟩;unfold bO at o;simp only at o;split at o
 ·obtain⟨hz,o⟩:=o.guard;obtain⟨y,rfl,ry⟩:=fK rs;rw[aQ ra,aQ ry];exact⟨_,mt_rstripChars,_,_,rfl,rfl,hz,ai.here o s _ (.d (.str _))⟩
 ·exact o.elim
theorem zu:GM X "str.count" (bO .count):=by
 refine MtR.pick ?_;rintro x xs H Q ⟨m,st,a,as,s,ra,rs,o⟩;unfold bO at o;simp only at o;split at o
 ·obtain⟨y,rfl,ry⟩:=fK rs;rw[aQ ra,aQ ry];exact⟨_,mt_count,_,_,rfl,rfl,ai.here o s _ (.d (.int _))⟩
 ·exact o.elim
end
section
open PySem.W PySem.SeqAt PySem.Calls
section
end
section
end
end
section
end
abbrev GE(X:Cx)(W:WX)(e:Expr)(f:ae->aa->R Val):Prop:=PE X e (DE (gx X) W f)
abbrev GT(X:Cx)(W:WX)(e:Expr)(f:ae->aa->R Bool):Prop:=PT X e (DT (gx X) W f)
abbrev uZ(X:Cx)(W:WX)(e:Expr)(f:ae->aa->R Bool):Prop:=PW X e (DT (gx X) W f)
abbrev jN(X:Cx)(W:WX)(es:List Expr)(f:ae->aa->R (List Val)):Prop:=PA X es (DA (gx X) W f)
def bZ(f:ae->aa->R Val):ae->aa->R Bool:=fun ρ st=>(f ρ st).bind fun v st1=>aX v st1
def aG:Expr->Bool
 | .Starred ..=>false
 | .Set ..=>false
 | .Slice ..=>false
 | .BoolOp ..=>true
 |_=>true
def eK:Expr->Bool
 | .Call _ [] [] _=>false
 |_=>true
def u3:Expr->Bool
 | .UnaryOp .Not _ _=>false
 | .BoolOp ..=>false
 | .IfExp ..=>false
 | .Compare ..=>false
 |_=>true
theorem aV{e:Expr}(h:aG e=true)(es:List Expr)(env:Env):starEach (e::es) env=(false,eval e env)::starEach es env:=by cases e <;> first |rfl |(cases h)
theorem lM{e:Expr}(h:eK e=true)(nm:Str)(env:Env):attributeBase e nm env (eval e env)=eval e env:=by
 cases e <;> try rfl
 rename_i f as ks p;cases as with
 |cons _ _=>cases f <;> rfl
 |nil=>cases ks with
  |nil=>cases h
  |cons _ _=>cases f <;> rfl
theorem BG{e:Expr}(h:aG e=true)(op:CmpOp):behindInMarks op e=false:=by cases e <;> first |rfl |(cases h)
theorem Lj{e:Expr}(h:aG e=true):PlainIx e:=fun o i=>by cases e <;> first |rfl |(cases h)
theorem HS{e:Expr}(h:u3 e=true)(env:Env)(whole:Sem Value):isTrue e env whole=(do let v ←whole;standAt e.pos;holding [v] (truthy v)):=by
 cases e with
 |UnaryOp o a p=>cases o <;> first |rfl |(cases h)
 |BoolOp _ _ _=>cases h
 |IfExp _ _ _ _=>cases h
 |Compare _ _ _ _=>cases h
 |_=>rfl
theorem Qc{K:PySem.W.Frag}{H:Hp}{p:Addr}{vs:List V}(h:SqL K H p vs\/SqT K H p vs){xs:List Val}(hl:vs.length=xs.length):TruV K (.ref p) H (!xs.isEmpty):=by
 have e:xs.isEmpty=vs.isEmpty:=by cases xs <;> cases vs <;> simp_all
 rw[e];rcases h with h |h
 ·exact .inl ⟨vs,h,rfl⟩
 ·exact .inr (.inl ⟨vs,h,rfl⟩)
theorem rO{K:PySem.W.Frag}{H:Hp}{m:Mp}{st:aa}{x:V}{v:Val}{b:Bool}(s:ak K H m st)(h:Rep K H m x v)(e:uN st v=some b):TruV K x H b:=by
 have sq:(iI st v).map (fun xs=>!xs.isEmpty)=some b->TruV K x H b:=fun e=>by
  cases q:iI st v with
  |none=>rw[q]at e;cases e
  |some xs=>rw[q]at e;obtain⟨p,vs,rfl,hs,r⟩:=zh s h q;have e2:(!xs.isEmpty)=b:=zam e;rw[←e2];exact Qc hs (zao r)
 cases v with
 |d d=>
  cases d with
  |none=>obtain rfl:=lK h;exact(zam e).symm
  |bool i=>obtain rfl:=g8 h;exact(zam e).symm
  |int i=>obtain rfl:=ay h;exact(zam e).symm
  |str i=>
   obtain rfl:=aQ h;have e:(if i.length<=sizeLine then some ((i.length:Int) != 0)else none)=some b:=e;split at e
   ·rename_i hl;exact⟨hl,(zam e).symm⟩
   ·cases e
  |list _=>exact sq e
  |tuple _=>exact sq e
  |dict _=>cases e
 |loc n=>exact sq e
 |bW ns=>cases e
 |xc _ _=>cases e
 |td _=>cases e
 |dN _ _=>cases e
 |eo _ _=>cases e
section
variable {X:Cx} {W:WX} {a b c e:Expr} {pos:Pos} {fa fb fc:ae->aa->R Val} {ga gb:ae->aa->R Bool}
theorem Out.opt{g:Gx}{m:Mp}{H:Hp}{σ:L2.St}{α:Type}{o:Option α}{st:aa}{k:α->aa->Mp->Hp->Prop}(h:Out g W m H σ (fQ o st) k)(s:ak g.K H m st):∃ x,o=some x/\k x st m H:=by
 cases o with
 |none=>exact h.elim
 |some x=>exact⟨x,rfl,Out.here (st:=st) h s⟩
theorem EZ{i:Nat}{x:Str}(hN:X.N[i]?=some x)(hv:Vis X.env.scope x)(hd:(x == ("__debug__" : Str))=false)(hcd:(x == ("__classdict__" : Str))=false):
 GE X W (.Name x pos) (fun ρ st=>match ρ[i]? with |some (some v)=>.ok v st |_=>.no):=PEw (pe_var hN hv hd hcd) fun σ H Q h=>by
 obtain⟨m,ρ,st,r,o⟩:=h;dsimp only at o;split at o
 ·rename_i v hv;obtain⟨u,h1,h2⟩:=r.env i v hv;exact⟨u,h1,(Out.here o r.st) u h2⟩
 ·exact o.elim
def litOk:Const->PyData->Bool
 | .none,.none=>true
 | .bool b,.bool c=>b == c
 | .int i,.int j=>i == j
 | .str x,.str y=>decide (x=y)
 |_,_=>false
theorem E2{k:Const}{d:PyData}{j:Nat}(h:litOk k d=true):GE X W (.Constant k j pos) (fun _ st=>.ok (.d d) st):=by
 cases k <;> cases d <;> first |(cases h;done) |skip
 ·exact PEw pe_non fun σ H Q h=>by obtain⟨m,ρ,st,r,o⟩:=h;exact(Out.here o r.st) _ (.d .non)
 ·rename_i b c;obtain rfl:b=c:=by simpa[litOk]using h
  exact PEw pe_bl fun σ H Q h=>by obtain⟨m,ρ,st,r,o⟩:=h;exact(Out.here o r.st) _ (.d (.bl _))
 ·rename_i b c;obtain rfl:b=c:=by simpa[litOk]using h
  exact PEw pe_int fun σ H Q h=>by obtain⟨m,ρ,st,r,o⟩:=h;exact(Out.here o r.st) _ (.d (.int _))
 ·rename_i b c;obtain rfl:b=c:=by simpa[litOk]using h
  exact PEw pe_str fun σ H Q h=>by obtain⟨m,ρ,st,r,o⟩:=h;exact(Out.here o r.st) _ (.d (.str _))
theorem MC{x:Str}{v:V}{u:Value}{d:PyData}(hg:Gl X x)(hm:X.mg x=some u)(r:RelV v u)(hd:(x == ("__debug__" : Str))=false)(hr:∀ H m,bG X.K H m v d):GE X W (.Name x pos) (fun _ st=>.ok (.d d) st):=PEw (L2.pe_glob hg hm r hd) fun σ H Q h=>by obtain⟨m,ρ,st,r,o⟩:=h;exact(Out.here o r.st) _ (.d (hr _ _))
theorem Qe(ha:GE X W a fa):GE X W (.UnaryOp .USub a pos) (fun ρ st=>(fa ρ st).bind fun v st1=>match v with | .d (.int i)=>.ok (.d (.int (-i))) st1 |_=>.no):=
 PEw (pe_un un_neg ha) fun σ H Q h=>by
  obtain⟨m,ρ,st,r,o⟩:=h;refine⟨m,ρ,st,r,(Out.bind o).imp fun v st1 m1 H1 e1 s1 o1 x rx=>?_⟩;dsimp only at o1;split at o1
  ·rename_i i;obtain rfl:=ay rx;exact⟨i,rfl,(Out.here o1 s1) _ (.d (.int _))⟩
  ·exact o1.elim
theorem Qg{o:CmpOp}{op:jM}(ho:GO X (compareOp o) op)(ha:GE X W a fa)(hb:GE X W b fb)(hp:aG b=true):GE X W (.Compare a [o] [b] pos) (iH op fa fb):=PEw (pe_cmpR ho ha hb (BG hp o)) fun _ _ _ h=>yv h
def wK(op:jM):Prop:=∀ a b st z st',op a b st=some (z,st')->∃ k,z= .d (.bool k)
theorem MD{o:Option Bool}{f:Bool->Bool}{st:aa}{z:Val}{st':aa}(h:(o.bind fun k=>bl st (f k))=some (z,st')):∃ k,z= .d (.bool k):=by
 cases o with
 |none=>cases h
 |some k=>have h:some (Val.d (.bool (f k)),st)=some (z,st'):=h;cases h;exact⟨_,rfl⟩
theorem HU(o:uM):wK (cI o):=fun a b st z st' h=>by cases o <;> exact MD h
theorem CQ{t:TE}{f:ae->aa->R Val}(h:∀ σ H Q,DE (gx X) W f σ H Q->t σ H Q)(hb:∀ ρ st z st',f ρ st= .ok z st'->∃ k,z= .d (.bool k))(σ:L2.St)(H:Hp)(Q:Bool->Hp->Prop)(q:DT (gx X) W (bZ f) σ H Q):tTest t σ H Q:=by
 obtain⟨m,ρ,st,r,o⟩:=q;refine h σ H _ ⟨m,ρ,st,r,?_⟩;have o:=Out.bind o;have hb:=hb ρ st;cases e:f ρ st with
 |no=>rw[e]at o;exact o
 |exc x st1=>rw[e]at o;exact o
 |ok z st1=>rw[e]at o;obtain⟨k,rfl⟩:=hb z st1 e;exact fun m' H' e' s' v rv=>⟨k,g8 rv,Out.here (o m' H' e' s') s'⟩
theorem HV{op:jM}(hb:wK op)(ρ:ae)(st:aa)(z:Val)(st':aa)(h:iH op fa fb ρ st= .ok z st'):∃ k,z= .d (.bool k):=by
 unfold iH at h;cases e1:fa ρ st with
 |no=>rw[e1]at h;cases h
 |exc x s=>rw[e1]at h;cases h
 |ok x s1=>
  rw[e1]at h;have h:(fb ρ s1).bind (fun y st2=>R.aS (op x y st2))= .ok z st':=h;cases e2:fb ρ s1 with
  |no=>rw[e2]at h;cases h
  |exc x s=>rw[e2]at h;cases h
  |ok y s2=>
   rw[e2]at h;have h:R.aS (op x y s2)= .ok z st':=h;cases e3:op x y s2 with
   |none=>rw[e3]at h;cases h
   |some p=>obtain⟨w,s3⟩:=p;rw[e3]at h;have h:R.ok w s3= .ok z st':=h;cases h;exact hb _ _ _ _ _ e3
theorem Qh{o:CmpOp}{op:jM}(hbo:wK op)(ho:GO X (compareOp o) op)(ha:GE X W a fa)(hb:GE X W b fb)(hp:aG b=true):GT X W (.Compare a [o] [b] pos) (bZ (iH op fa fb)):=PTw (pt_cmpR ho ha hb (BG hp o)) (CQ (fun _ _ _ h=>yv h) (HV hbo))
theorem Vi(ha:GE X W a fa)(h:u3 a=true):GT X W a (bZ fa):=PTw (pt_truth ha fun w=>HS h _ w) fun σ H Q q=>by obtain⟨m,ρ,st,r,o⟩:=q;refine⟨m,ρ,st,r,(Out.bind o).imp fun v st1 m1 H1 e1 s1 o1 x rx=>?_⟩;obtain⟨k,hk,q⟩:=Out.opt o1 s1;exact⟨k,rO s1 rx hk,q⟩
theorem Qi(ha:GE X W a fa):GE X W (.UnaryOp .Not a pos) (fun ρ st=>(fa ρ st).bind fun v st1=>(aX v st1).bind fun b st2=>.ok (.d (.bool (!b))) st2):=PEw (pe_notT ha) fun σ H Q q=>by obtain⟨m,ρ,st,r,o⟩:=q;refine⟨m,ρ,st,r,(Out.bind o).imp fun v st1 m1 H1 e1 s1 o1 x rx=>?_⟩;obtain⟨k,hk,q⟩:=Out.opt (Out.bind o1) s1;exact⟨k,rO s1 rx hk,(Out.here q s1) _ (.d (.bl _))⟩
theorem Qj(ha:GT X W a (bZ fa)):GT X W (.UnaryOp .Not a pos) (bZ fun ρ st=>(fa ρ st).bind fun v st1=>(aX v st1).bind fun b st2=>.ok (.d (.bool (!b))) st2):=PTw (pt_not ha) fun σ H Q q=>by
 obtain⟨m,ρ,st,r,o⟩:=q;refine⟨m,ρ,st,r,?_⟩;have o:Out (gx X) W m H σ ((fa ρ st).bind fun v st1=>(aX v st1).bind fun b st2=>.ok (!b) st2) fun b _ _ H'=>Q b H':=by
  have e:(bZ fun ρ st=>(fa ρ st).bind fun v st1=>(aX v st1).bind fun b st2=>.ok (.d (.bool (!b))) st2) ρ st=(fa ρ st).bind fun v st1=>(aX v st1).bind fun b st2=>.ok (!b) st2:=by
   unfold bZ;rw[R.bind_assoc];congr 1
   funext v st1
   rw[R.bind_assoc];rfl
  rw[e]at o;exact o
 rw[←R.bind_assoc]at o;exact(Out.bind o).imp fun b st1 m1 H1 e1 s1 o1=>Out.here o1 s1
theorem Qk(hc:GT X W c (bZ fc))(ha:GE X W a fa)(hb:GE X W b fb):GE X W (.IfExp c a b pos) (fun ρ st=>(fc ρ st).bind fun v st1=>(aX v st1).bind fun k st2=>if k then fa ρ st2 else fb ρ st2):=PEw (pe_ifExp hc ha hb) fun σ H Q q=>by
 obtain⟨m,ρ,st,r,o⟩:=q;refine⟨m,ρ,st,r,?_⟩;dsimp only at o;rw[←R.bind_assoc]at o;refine(Out.bind o).imp fun k st1 m1 H1 e1 s1 o1=>?_;cases k with
 |true=>exact⟨m1,ρ,st1,r.ext e1 s1,o1⟩
 |false=>exact⟨m1,ρ,st1,r.ext e1 s1,o1⟩
theorem Ql(hc:GT X W c (bZ fc))(ha:GT X W a (bZ fa))(hb:GT X W b (bZ fb)):GT X W (.IfExp c a b pos) (bZ fun ρ st=>(fc ρ st).bind fun v st1=>(aX v st1).bind fun k st2=>if k then fa ρ st2 else fb ρ st2):=by
 refine⟨fun pins s σ H Q I q=>?_⟩;obtain⟨m,ρ,st,r,o⟩:=q;have o:Out (gx X) W m H σ ((bZ fc ρ st).bind fun k st2=>if k then bZ fa ρ st2 else bZ fb ρ st2) fun b _ _ H'=>Q b H':=by
  have e:(bZ fun ρ st=>(fc ρ st).bind fun v st1=>(aX v st1).bind fun k st2=>if k then fa ρ st2 else fb ρ st2) ρ st=(bZ fc ρ st).bind fun k st2=>if k then bZ fa ρ st2 else bZ fb ρ st2:=by
   unfold bZ;rw[R.bind_assoc,R.bind_assoc];congr 1
   funext v st1
   rw[R.bind_assoc];congr 1
   funext k st2
   cases k <;> rfl
  rw[e]at o;exact o
 refine isTrue_IfExp (thn (hc.run pins s σ H _ I ⟨m,ρ,st,r,(Out.bind o).imp fun k st1 m1 H1 e1 s1 o1=>(show (fun (k:Bool) (H1:Hp)=>if k=true then DT (gx X) W (bZ fa) σ H1 Q else DT (gx X) W (bZ fb) σ H1 Q) k H1 from ?_)⟩) fun d s1 ⟨H1,I1,q1⟩=>?_)
 ·cases k with
  |true=>exact⟨m1,ρ,st1,r.ext e1 s1,o1⟩
  |false=>exact⟨m1,ρ,st1,r.ext e1 s1,o1⟩
 ·cases d with
  |true=>exact ha.run pins s1 σ H1 Q I1 q1
  |false=>exact hb.run pins s1 σ H1 Q I1 q1
end
def Mp.hide(m:Mp)(p:Addr):Mp:=⟨m.ls,fun a=>m.P a\/a=p⟩
structure dh (p:Addr) (m:Mp) (H:Hp) (m':Mp) (H':Hp):Prop where
 len:m.ls.length<=m'.ls.length
 at_:∀ n,n<m.ls.length->m'.ls[n]?=m.ls[n]?\/m'.ls[n]?=some none
 P:m'.P=m.P
 keep:∀ a o,H a=some o->¬ m.In a->a≠p->H' a=some o
 new:∀ a,m'.In a->¬ m.In a->H a=none
 no : ¬ m'.In p
theorem Ext.d{m m':Mp}{H H':Hp}(e:Ext m H m' H'){p:Addr}(h : ¬ m'.In p):dh p m H m' H':=⟨e.len,e.at_,e.P,fun a o h n _=>e.keep a o h n,e.new,h⟩
theorem dh.trans{p:Addr}{m m1 m2:Mp}{H H1 H2:Hp}(a:dh p m H m1 H1)(b:dh p m1 H1 m2 H2):dh p m H m2 H2 where
 len:=zbw a.len b.len
 at_:=fun n hn=>by
  rcases b.at_ n (zaU hn a.len)with e |e
  ·rw[e];exact a.at_ n hn
  ·exact .inr e
 P:=b.P.trans a.P
 keep:=fun x o h n np=>b.keep x o (a.keep x o h n np) (fun z=>eY h (a.new x z n)) np
 new:=fun x h n=>by
  have np:x≠p:=fun e=>b.no (e ▸ h);by_cases z:m1.In x
  ·exact a.new x z n
  ·have q:=b.new x h z;cases e:H x with
   |none=>rfl
   |some o=>exact(eY (a.keep x o e n np) q).elim
 no:=b.no
theorem dh.stay{p:Addr}{m m':Mp}{H H':Hp}(e:dh p m H m' H')(hp:m.P p):fS H m H' m':=fun a o h f=>by have np:a≠p:=fun z=>f.2 (z ▸ hp);exact⟨e.keep a o h f.1 np,fun z=>eY h (e.new a z f.1),by rw[e.P];exact f.2⟩
theorem Rep.j9{K:PySem.W.Frag}{H H':Hp}{m m':Mp}(s:fS H m H' m')(len:m.ls.length<=m'.ls.length)(at_:∀ n,n<m.ls.length->m'.ls[n]?=m.ls[n]?\/m'.ls[n]?=some none){v:V}{x:Val}(h:Rep K H m v x):Rep K H' m' v x:=by
 cases h with
 |d h=>exact .d (h.stay s)
 |bW h=>exact .bW (h.imp (fun⟨o,h1,h2⟩=>⟨o,s _ _ h1 h2⟩) id)
 |xc h1 h2 h3=>exact .xc h1 (h2.stay s) (Paired.mapP h3 fun _ _ z=>⟨z.1,z.2.stay s⟩)
 |td h1 h2 h3=>exact .td (s _ _ h1 h2).1 (s _ _ h1 h2).2 (h3.stay s)
 |dN h1 h2 hn h=>
  refine .dN (h1.stay s) (h2.stay s) (zaU hn len) fun a q=>?_;rcases at_ _ hn with z |z
  ·exact h a (z ▸ q)
  ·rw[z]at q;cases q
 |eo h1 h2 h3 h4 h5=>exact .eo (h1.stay s) (h2.stay s) (s _ _ h3 h4).1 (s _ _ h3 h4).2 (h5.stay s)
 |loc hn h=>
  refine .loc (zaU hn len) fun a q=>?_;rcases at_ _ hn with z |z
  ·exact h a (z ▸ q)
  ·rw[z]at q;cases q
section
variable {K:PySem.W.Frag} {H H':Hp} {m m':Mp} {p:Addr} {o o':HO} {st:aa} {σ:L2.St} {ρ:ae}
theorem kM(hp:H p=none):fS H m (upd H p o) (m.hide p):=fun a u h f=>⟨bf hp a u h,f.1,fun z=>z.elim f.2 fun e=>eY h (by rw[e];exact hp)⟩
theorem HW(hp:H p=none){v:V}{x:Val}(h:Rep K H m v x):Rep K (upd H p o) (m.hide p) v x:=h.j9 (kM hp) (zal _) fun _ _=>.inl rfl
theorem lE{a:Addr}{c:Cell}(s:fS H m H' m')(len:m.ls.length<=m'.ls.length)(at_:∀ n,n<m.ls.length->m'.ls[n]?=m.ls[n]?\/m'.ls[n]?=some none)(k:∀ o,H a=some o->H' a=some o)(h:dH K H m a c):dH K H' m' a c:=by
 cases c with
 |lst ds=>obtain⟨xs,h1,h2⟩:=h;exact⟨xs,k _ h1,Paired.mapP h2 fun _ _ z=>z.j9 s len at_⟩
 |dct kvs=>obtain⟨xs,h1,h2⟩:=h;exact⟨xs,k _ h1,Paired.mapP h2 fun _ _ z=>⟨z.1,z.2.j9 s len at_⟩⟩
 |dead=>trivial
 |tab x=>obtain⟨c,h1,h2⟩:=h;exact⟨c,h1,h2.stay s k⟩
 |obj c fs=>obtain⟨C,dx,vfs,h1,h2,h3⟩:=h;exact⟨C,dx,vfs,h1,k _ h2,Paired.mapP h3 fun _ _ z=>⟨z.1,z.2.j9 s len at_⟩⟩
 |gQ kvs=>obtain⟨ks,h1,h2⟩:=h;exact⟨ks,k _ h1,Paired.mapP h2 fun _ _ z=>⟨z.1,z.2.1.stay s,z.2.2.j9 s len at_⟩⟩
theorem rP(hp:H p=none)(s:ak K H m st):ak K (upd H p o) (m.hide p) st where
 len:=s.len
 inj:=s.inj
 dead:=s.dead
 np:=fun a i z=>z.elim (s.np a i) fun e=>s.live a i (by rw[e];exact hp)
 live:=fun a i=>by
  by_cases e:a=p
  ·exact absurd hp (by rw[←e];exact s.live a i)
  ·rw[upd_ne e];exact s.live a i
 trk:=fun a z=>by
  by_cases e:a=p
  ·rw[e,upd_same];exact fun q=>by cases q
  ·rw[upd_ne e];exact s.trk a (z.elim id fun q=>absurd q e)
 cell:=fun n a c h1 h2=>lE (kM hp) (zal _) (fun _ _=>.inl rfl) (bf hp a) (s.cell n a c h1 h2)
theorem HX(hp:H p=none)(r:Rel K H m σ ρ st):Rel K (upd H p o) (m.hide p) σ ρ st:=⟨r.len,fun i x h=>let⟨v,h1,h2⟩:=r.env i x h;⟨v,h1,HW hp h2⟩,rP hp r.st⟩
def Mp.back(m m':Mp):Mp:=⟨m'.ls,m.P⟩
theorem HY(hp:H p=none)(hl : ¬ m.In p)(e:dh p (m.hide p) (upd H p o) m' H'):Ext m H (m.back m') H' where
 len:=e.len
 at_:=e.at_
 P:=rfl
 keep:=fun a u h n=>e.keep a u (bf hp a u h) n (ne_of_none h hp)
 new:=fun a h n=>by have np:a≠p:=fun z=>e.no (z ▸ h);have q:=e.new a h n;rw[upd_ne np]at q;exact q
theorem u4(hP:m'.P=(m.hide p).P):fS H' m' H' (m.back m'):=fun a u h f=>⟨h,f.1,fun z=>f.2 (by rw[hP];exact .inl z)⟩
theorem Ia(hP:m'.P=(m.hide p).P)(s:ak K H' m' st):ak K H' (m.back m') st where
 len:=s.len
 inj:=s.inj
 dead:=s.dead
 np:=fun a i z=>s.np a i (by rw[hP];exact .inl z)
 live:=s.live
 trk:=fun a z=>s.trk a (by rw[hP];exact .inl z)
 cell:=fun n a c h1 h2=>lE (u4 hP) (zal _) (fun _ _=>.inl rfl) (fun _ q=>q) (s.cell n a c h1 h2)
theorem wz.stay{g:Gx}{e:jl}{cls:Value}{dd:Option Addr}(s:fS H m H' m')(len:m.ls.length<=m'.ls.length)(at_:∀ n,n<m.ls.length->m'.ls[n]?=m.ls[n]?\/m'.ls[n]?=some none)(h:wz g H m e cls dd):wz g H' m' e cls dd:=by obtain⟨C,h1,h2,h3⟩:=h;refine⟨C,h1,h2,h3.imp id ?_⟩;rintro⟨d,fs,e1,e2,e3,e4⟩;obtain⟨q1,q2⟩:=s _ _ e2 e3;exact⟨d,fs,e1,q1,q2,Paired.mapP e4 fun _ _ z=>⟨z.1,z.2.j9 s len at_⟩⟩
end
section
variable {X:Cx} {W:WX} {a b c e:Expr} {pos:Pos} {fa fb fc:ae->aa->R Val} {es:List Expr} {fs:ae->aa->R (List Val)}
theorem E3{op:BoolOp}(ha:GE X W a fa):GE X W (.BoolOp op [a] pos) fa:=pe_one ha
def zv(fa fb:ae->aa->R Val):ae->aa->R Val:=fun ρ st=>(fa ρ st).bind fun v st1=>(aX v st1).bind fun k st2=>if k then fb ρ st2 else .ok v st2
def E4(fa fb:ae->aa->R Val):ae->aa->R Val:=fun ρ st=>(fa ρ st).bind fun v st1=>(aX v st1).bind fun k st2=>if k then .ok v st2 else fb ρ st2
theorem Qm{rest:List Expr}(ha:GE X W a fa)(hb:GE X W (.BoolOp .And (b::rest) pos) fb):GE X W (.BoolOp .And (a::b::rest) pos) (zv fa fb):=PEw (pe_andT ha hb) fun σ H Q q=>by
 obtain⟨m,ρ,st,r,o⟩:=q;refine⟨m,ρ,st,r,(Out.bind o).imp fun v st1 m1 H1 e1 s1 o1 x rx=>?_⟩;obtain⟨k,hk,q⟩:=Out.opt (Out.bind o1) s1;refine⟨k,rO s1 rx hk,?_⟩;cases k with
 |true=>exact⟨m1,ρ,st1,r.ext e1 s1,q⟩
 |false=>exact(Out.here q s1) _ rx
theorem Vj{rest:List Expr}(ha:GE X W a fa)(hb:GE X W (.BoolOp .Or (b::rest) pos) fb):GE X W (.BoolOp .Or (a::b::rest) pos) (E4 fa fb):=PEw (pe_orT ha hb) fun σ H Q q=>by
 obtain⟨m,ρ,st,r,o⟩:=q;refine⟨m,ρ,st,r,(Out.bind o).imp fun v st1 m1 H1 e1 s1 o1 x rx=>?_⟩;obtain⟨k,hk,q⟩:=Out.opt (Out.bind o1) s1;refine⟨k,rO s1 rx hk,?_⟩;cases k with
 |true=>exact(Out.here q s1) _ rx
 |false=>exact⟨m1,ρ,st1,r.ext e1 s1,q⟩
theorem ME(ha:GT X W a (bZ fa)):uZ X W (.BoolOp .And [a] pos) (bZ fa):=pw_and1 ha
theorem Qn(ha:GT X W a (bZ fa)):uZ X W (.BoolOp .Or [a] pos) (bZ fa):=pw_or1 ha
theorem sZ{v:Val}{st st1:aa}{k:Bool}(h:aX v st= .ok k st1):st1=st/\uN st v=some k:=by
 unfold aX at h;cases e:uN st v with
 |none=>rw[e]at h;cases h
 |some b=>rw[e]at h;cases h;exact⟨rfl,rfl⟩
theorem Qo(ρ:ae)(st:aa):bZ (zv fa fb) ρ st=(bZ fa ρ st).bind fun k st1=>if k then bZ fb ρ st1 else .ok false st1:=by
 unfold bZ zv;rw[R.bind_assoc,R.bind_assoc];congr 1
 funext v st1
 cases e:aX v st1 with
 |no=>rfl
 |exc x s=>rfl
 |ok k s=>
  obtain⟨rfl,h2⟩:=sZ e;cases k with
  |true=>rfl
  |false=>exact e
theorem Vk(ρ:ae)(st:aa):bZ (E4 fa fb) ρ st=(bZ fa ρ st).bind fun k st1=>if k then .ok true st1 else bZ fb ρ st1:=by
 unfold bZ E4;rw[R.bind_assoc,R.bind_assoc];congr 1
 funext v st1
 cases e:aX v st1 with
 |no=>rfl
 |exc x s=>rfl
 |ok k s=>
  obtain⟨rfl,h2⟩:=sZ e;cases k with
  |true=>exact e
  |false=>rfl
theorem Qp{rest:List Expr}(ha:GT X W a (bZ fa))(hb:uZ X W (.BoolOp .And (b::rest) pos) (bZ fb)):uZ X W (.BoolOp .And (a::b::rest) pos) (bZ (zv fa fb)):=Wn (pw_and ha hb) fun σ H Q q=>by
 obtain⟨m,ρ,st,r,o⟩:=q;rw[Qo]at o;refine⟨m,ρ,st,r,(Out.bind o).imp fun k st1 m1 H1 e1 s1 o1=>?_⟩;cases k with
 |true=>exact⟨m1,ρ,st1,r.ext e1 s1,o1⟩
 |false=>exact Out.here o1 s1
theorem Vl{rest:List Expr}(ha:GT X W a (bZ fa))(hb:uZ X W (.BoolOp .Or (b::rest) pos) (bZ fb)):uZ X W (.BoolOp .Or (a::b::rest) pos) (bZ (E4 fa fb)):=Wn (pw_or ha hb) fun σ H Q q=>by
 obtain⟨m,ρ,st,r,o⟩:=q;rw[Vk]at o;refine⟨m,ρ,st,r,(Out.bind o).imp fun k st1 m1 H1 e1 s1 o1=>?_⟩;cases k with
 |true=>exact Out.here o1 s1
 |false=>exact⟨m1,ρ,st1,r.ext e1 s1,o1⟩
theorem Qq{f:ae->aa->R Bool}(h:uZ X W e f):GT X W e f:=⟨fun pins s σ H Q I q=>h.run _ pins s σ H Q I q⟩
theorem Qs:jN X W [] (fun _ st=>.ok [] st):=K3 pa_nil fun σ H Q q=>by obtain⟨m,ρ,st,r,o⟩:=q;exact(Out.here o r.st) [] .nil
theorem MF(hp:aG e=true)(ha:GE X W e fa)(hs:jN X W es fs):jN X W (e::es) (fun ρ st=>(fa ρ st).bind fun v st1=>(fs ρ st1).bind fun vs st2=>.ok (v::vs) st2):=K3 (pa_cons ha hs (aV hp _ _)) fun σ H Q q=>by obtain⟨m,ρ,st,r,o⟩:=q;refine⟨m,ρ,st,r,(Out.bind o).imp fun v st1 m1 H1 e1 s1 o1 x rx=>?_⟩;refine⟨m1,ρ,st1,r.ext e1 s1,(Out.bind o1).imp fun vs st2 m2 H2 e2 s2 o2 xs rs=>?_⟩;exact(Out.here o2 s2) _ (.cons (rx.ext e2) rs)
theorem Qt{k:Nat}(h:jN X W es fs):GE X W (.Tuple es k pos) (fun ρ st=>(fs ρ st).bind fun vs st1=>match datas vs with
 |some ds=>if ds.length<=sizeLine then .ok (.d (.tuple ds)) st1 else .no
 |none=>.no):=PEw (Bv h) fun σ H Q q=>by
 obtain⟨m,ρ,st,r,o⟩:=q;refine⟨m,ρ,st,r,(Out.bind o).imp fun vs st1 m1 H1 e1 s1 o1 xs rs=>?_⟩;dsimp only at o1;split at o1
 ·rename_i ds hds;have rd:=gr rs hds;split at o1
  ·rename_i hl;refine⟨by rw[zao rd.pair];exact hl,fun p oo hp ho=>?_⟩;exact o1 _ _ (bH (bf hp)) (s1.le (bf hp)) _ (eO s1 hp ho rd)
  ·exact o1.elim
 ·exact o1.elim
theorem wL{g:Gx}{m:Mp}{H:Hp}{σ:L2.St}{st:aa}{mu:Bool}{vs:List Val}{xs:List V}{Q:VK}(s:ak g.K H m st)(rs:aW g.K H m xs vs)(o:Out g W m H σ (aU mu vs st) fun x _ m' H'=>∀ v,Rep g.K H' m' v x->Q v H'):
 xs.length<=sizeLine/\∀ p,H p=none->Q (.ref p) (upd H p (.lst xs)):=by
 unfold aU at o;split at o
 ·rename_i hl;refine⟨by rw[zao rs];exact hl,fun p hp=>?_⟩;split at o
  ·have c:dH g.K (upd H p (.lst xs)) (m.push p) p (.lst vs):=⟨xs,upd_same,rs.ext (eU hp)⟩;exact o _ _ (eU hp) (kL s hp c) _ (j8 s.len)
  ·split at o
   ·rename_i ds hds;exact o _ _ (bH (bf hp)) (s.le (bf hp)) _ (gE s hp (gr rs hds))
   ·exact o.elim
 ·exact o.elim
theorem Qu{mu:Bool}(h:jN X W es fs):GE X W (.List es pos) (fun ρ st=>(fs ρ st).bind fun vs st1=>aU mu vs st1):=PEw (pe_lst h) fun σ H Q q=>by obtain⟨m,ρ,st,r,o⟩:=q;exact⟨m,ρ,st,r,(Out.bind o).imp fun vs st1 m1 H1 e1 s1 o1 xs rs=>wL s1 rs o1⟩
theorem Vm(C:bQ X)(hp:aG b=true)(ha:GE X W a fa)(hb:GE X W b fb):GE X W (.Subscript a b pos) (iH cW fa fb):=PEw (pe_ix (Vg C) ha hb (Lj hp)) fun _ _ _ h=>yv h
def DO(g:Gx)(W:WX)(f:ae->aa->R (Option Int)):TO:=fun σ H Q=>∃ m ρ st,Rel g.K H m σ ρ st/\Out g W m H σ (f ρ st) fun o _ _ H'=>Q o H'
abbrev E5(X:Cx)(W:WX)(e:Option Expr)(f:ae->aa->R (Option Int)):Prop:=PO X e (DO (gx X) W f)
theorem Wu{e:Option Expr}{t t':TO}(h:PO X e t)(w:∀ σ H Q,t' σ H Q->t σ H Q):PO X e t':=⟨fun pins s σ H Q I q=>h.run pins s σ H Q I (w σ H Q q)⟩
theorem MG:E5 X W none (fun _ st=>.ok none st):=Wu po_none fun σ H Q q=>by obtain⟨m,ρ,st,r,o⟩:=q;exact Out.here o r.st
theorem MH(ha:GE X W a fa):E5 X W (some a) (fun ρ st=>(fa ρ st).bind fun v st1=>match v with | .d (.int i)=>.ok (some i) st1 |_=>.no):=Wu (po_some ha) fun σ H Q q=>by
 obtain⟨m,ρ,st,r,o⟩:=q;refine⟨m,ρ,st,r,(Out.bind o).imp fun v st1 m1 H1 e1 s1 o1 x rx=>?_⟩;split at o1
 ·rename_i i;obtain rfl:=ay rx;exact⟨i,rfl,Out.here o1 s1⟩
 ·exact o1.elim
theorem Ib{lo hi:Option Expr}{p2:Pos}{fl fh:ae->aa->R (Option Int)}(ha:GE X W a fa)(hl:E5 X W lo fl)(hh:E5 X W hi fh):GE X W (.Subscript a (.Slice lo hi none p2) pos) (fun ρ st=>(fa ρ st).bind fun x st1=>(fl ρ st1).bind fun l st2=>(fh ρ st2).bind fun u st3=>R.aS (fU x l u st3)):=PEw (pe_slice HP ha hl hh) fun σ H Q q=>by obtain⟨m,ρ,st,r,o⟩:=q;refine⟨m,ρ,st,r,(Out.bind o).imp fun v st1 m1 H1 e1 s1 o1 x rx=>?_⟩;refine⟨m1,ρ,st1,r.ext e1 s1,(Out.bind o1).imp fun l st2 m2 H2 e2 s2 o2=>?_⟩;refine⟨m2,ρ,st2,(r.ext e1 s1).ext e2 s2,(Out.bind o2).imp fun u st3 m3 H3 e3 s3 o3=>?_⟩;exact⟨m3,st3,v,s3,(rx.ext e2).ext e3,Out.aS o3⟩
theorem di{pos:Pos}{env:Env}:∀ {es:List Expr},(∀ e∈es,aG e=true)->(backTo pos (starEach es env)).any (·.1)=false
 | [],_=>rfl
 |e::es,h=>by rw[aV (h e zac)];show (false ||(backTo pos (starEach es env)).any (·.1))=false;rw[di fun x hx=>h x (zae _ hx)];rfl
theorem tW{pos:Pos}{env:Env}:∀ {es:List Expr},(∀ e∈es,aG e=true)->(backTo pos (starEach es env)).all (fun x=>!x.1)=true
 | [],_=>rfl
 |e::es,h=>by rw[aV (h e zac)];show (!false && (backTo pos (starEach es env)).all (fun x=>!x.1))=true;rw[tW fun x hx=>h x (zae _ hx)];rfl
theorem jv{id:String}{x:Str}{p:Pos}{op:Lh}(hc:GN X (.builtin id) op)(hg:Gl X x)(hm:X.mg x=none)(hv:bootBuiltins x=some (.builtin id))(hn:x≠"__name__")(hdb:(x == ("__debug__" : Str))=false)
 (hp:∀ y∈e::es,aG y=true) (ha:jN X W (e::es) fs):GE X W (.Call (.Name x p) (e::es) [] pos) (fun ρ st=>(fs ρ st).bind fun vs st1=>R.aS (op vs st1)):=
 PEw (pe_callB hc hg hm hv ha hn hdb (aV (hp e zac) _ _) (di fun y hy=>hp y (zae _ hy))) fun σ H Q q=>by obtain⟨m,ρ,st,r,o⟩:=q;exact⟨m,ρ,st,r,(Out.bind o).imp fun vs st1 m1 H1 e1 s1 o1 xs rs=>⟨m1,st1,vs,s1,rs,Out.aS o1⟩⟩
theorem BH{T:String}{x:Str}{p:Pos}{op:Lh}(hc:GN X (.type T) op)(hg:Gl X x)(hm:X.mg x=none)(hv:bootBuiltins x=some (.type T))(hn:x≠"__name__")(hdb:(x == ("__debug__" : Str))=false)
 (hp:∀ y∈e::es,aG y=true) (ha:jN X W (e::es) fs):GE X W (.Call (.Name x p) (e::es) [] pos) (fun ρ st=>(fs ρ st).bind fun vs st1=>R.aS (op vs st1)):=
 PEw (pe_callTy hc hg hm hv ha hn hdb (aV (hp e zac) _ _) (di fun y hy=>hp y (zae _ hy))) fun σ H Q q=>by obtain⟨m,ρ,st,r,o⟩:=q;exact⟨m,ρ,st,r,(Out.bind o).imp fun vs st1 m1 H1 e1 s1 o1 xs rs=>⟨m1,st1,vs,s1,rs,Out.aS o1⟩⟩
theorem MI{t:Ty}{x y:Str}{p p2:Pos}(hg:Gl X x)(hm:X.mg x=none)(hv:bootBuiltins x=some (.builtin "isinstance"))(hn:x≠"__name__")(hdb:(x == ("__debug__" : Str))=false)
 (hg2:Gl X y) (hm2:X.mg y=none) (hv2:bootBuiltins y=some (.type (uW t))) (hn2:y≠"__name__") (hdb2:(y == ("__debug__" : Str))=false)
 (hp:aG a=true) (ha:GE X W a fa):GE X W (.Call (.Name x p) [a,.Name y p2] [] pos) (fun ρ st=>(fa ρ st).bind fun v st1=>R.aS ((lQ st1 v [t]).bind fun k=>bl st1 k)):=
 PEw (pe_callB (HQ t) hg hm hv (pa_cons ha (pa_cons (pe_bltn hg2 hm2 hv2 (r:=(show RelV (.ty (uW t)) _ from rfl)) hn2 hdb2) pa_nil rfl) (aV hp _ _)) hn hdb (aV hp _ _) rfl) fun σ H Q q=>by obtain⟨m,ρ,st,r,o⟩:=q;exact⟨m,ρ,st,r,(Out.bind o).imp fun v st1 m1 H1 e1 s1 o1 x rx=>⟨m1,st1,x,v,s1,rfl,rx,Out.aS o1⟩⟩
theorem lF{m:Me}{id:String}{name:Str}{apos cpos:Pos}{k:Nat}(pa:PlainAttrs (nV m))(slot:Slot (nV m) name id)(hty:typeOf (.builtin id)=pure (.type "method_descriptor"))(hm:GM X id (bO m))
 (hp:∀ y∈e::es,aG y=true) (hb:eK a=true) (hk:(e::es).length<30) (hl:(apos.endLine == cpos.line)=true) (ha:GE X W a fa) (hs:jN X W (e::es) fs) :
 GE X W (.Call (.Attribute a name apos) (e::es) [] cpos) (fun ρ st=>(fa ρ st).bind fun x st1=>if recv m st1 x=true then(fs ρ st1).bind fun vs st2=>R.aS (bO m x vs st2)else .no):=
 PEw (pe_bm pa slot hty hm ha hs (lM hb _ _) (by
     rw[tW hp];show (true && true && decide _)=true;simpa using hk) hl (aV (hp e zac) _ _) (di fun y hy=>hp y (zae _ hy))) fun σ H Q q=>by
  obtain⟨mm,ρ,st,r,o⟩:=q;refine⟨mm,ρ,st,r,(Out.bind o).imp fun v st1 m1 H1 e1 s1 o1 x rx=>?_⟩;dsimp only at o1;split at o1
  ·rename_i hr;refine⟨BF s1 rx hr,m1,ρ,st1,r.ext e1 s1,(Out.bind o1).imp fun vs st2 m2 H2 e2 s2 o2 xs rs=>?_⟩;exact⟨m2,st2,v,vs,s2,rx.ext e2,rs,Out.aS o2⟩
  ·exact o1.elim
theorem jw{m:Me}{id:String}{name:Str}{apos cpos:Pos}(pa:PlainAttrs (nV m))(slot:Slot (nV m) name id)(hty:typeOf (.builtin id)=pure (.type "method_descriptor"))(hm:GM X id (bO m))
 (hb:eK a=true) (hl:(apos.endLine == cpos.line)=true) (ha:GE X W a fa) :
 GE X W (.Call (.Attribute a name apos) [] [] cpos) (fun ρ st=>(fa ρ st).bind fun x st1=>if recv m st1 x=true then(R.ok [] st1).bind fun vs st2=>R.aS (bO m x vs st2)else .no):=
 PEw (pe_bm0 pa slot hty hm ha (lM hb _ _) hl) fun σ H Q q=>by
  obtain⟨mm,ρ,st,r,o⟩:=q;refine⟨mm,ρ,st,r,(Out.bind o).imp fun v st1 m1 H1 e1 s1 o1 x rx=>?_⟩;dsimp only at o1;split at o1
  ·rename_i hr;exact⟨BF s1 rx hr,m1,st1,v,[],s1,rx,.nil,Out.aS o1⟩
  ·exact o1.elim
theorem iM{m:Mp}{n i:Nat}{x:Addr}(h:(m.ls.set n none)[i]?=some (some x)):i≠n/\m.ls[i]?=some (some x):=by
 by_cases e:n=i
 ·subst e;by_cases hl:n<m.ls.length
  ·rw[zan hl]at h;cases h
  ·rw[zaJ (by simpa using hl)]at h;cases h
 ·rw[zar e]at h;exact⟨fun z=>e z.symm,h⟩
theorem eZ{m:Mp}{H:Hp}{n:Nat}:Ext m H ⟨m.ls.set n none,m.P⟩ H where
 len:=by simp
 at_:=fun k hk=>by
  by_cases e:n=k
  ·subst e;exact .inr (zan hk)
  ·exact .inl (zar e)
 P:=rfl
 keep:=fun a o h _=>h
 new:=fun a h nn=>by obtain⟨i,hi⟩:=zaF.mp h;exact absurd (zaF.mpr ⟨i,(iM hi).2⟩) nn
theorem nW{K:PySem.W.Frag}{m:Mp}{H:Hp}{st:aa}{n:Nat}(s:ak K H m st):ak K H ⟨m.ls.set n none,m.P⟩ (st.set n .dead) where
 len:=by simp[s.len]
 inj:=fun i j a h1 h2=>s.inj i j a (iM h1).2 (iM h2).2
 dead:=fun k h=>by
  by_cases e:n=k
  ·subst e;have hl:n<st.length:=by
    have q:=(zak.mp h).1;simp only[zbq]at q;rw[←s.len];exact q
   exact zan hl
  ·rw[zar e];have h:(m.ls.set n none)[k]?=some none:=h;rw[zar e]at h;exact s.dead k h
 np:=fun a h=>s.np a (by obtain⟨i,hi⟩:=zaF.mp h;exact zaF.mpr ⟨i,(iM hi).2⟩)
 live:=fun a h=>s.live a (by obtain⟨i,hi⟩:=zaF.mp h;exact zaF.mpr ⟨i,(iM hi).2⟩)
 trk:=s.trk
 cell:=fun k a c h1 h2=>by obtain⟨nk,q⟩:=iM h1;rw[zar (fun z=>nk z.symm)]at h2;exact(s.cell k a c q h2).ext eZ fun _ z=>z
def Qv(fa:ae->aa->R Val):ae->aa->R Val:=fun ρ st=>(fa ρ st).bind fun v st1=>match v with
    | .loc n=>match st1[n]? with
      |some (.lst xs)=>match datas xs with
       |some ds=>.ok (.d (.list ds)) (st1.set n .dead)
       |none=>.no
      |some (.dct kvs)=>match bY kvs with
       |some ds=>.ok (.d (.dict ds)) (st1.set n .dead)
       |none=>.no
      |_=>.no
    |v=>.ok v st1
theorem jQ{K:PySem.W.Frag}{H:Hp}{m:Mp}:∀ {es:List (Key×V)} {kvs:List (PyData×Val)} {ds:List (PyData×PyData)},bX K H m es kvs->bY kvs=some ds->eE K H m es ds
 |_,[],ds,.nil,h=>by cases h;exact .nil
 |(k,v)::es,(k',.d x)::kvs,ds,.cons h1 h2,h=>by
  unfold bY at h;cases q:bY kvs with
  |none=>rw[q]at h;cases h
  |some ds'=>rw[q]at h;cases h;obtain⟨e1,r1⟩:=h1;have e1:keyD k=k':=e1;subst e1;exact .cons (cN r1) (jQ h2 q)
 |_,(_,.loc _)::_,_,.cons _ _,h=>by cases h
 |_,(_,.bW _)::_,_,.cons _ _,h=>by cases h
 |_,(_,.xc _ _)::_,_,.cons _ _,h=>by cases h
 |_,(_,.td _)::_,_,.cons _ _,h=>by cases h
 |_,(_,.dN _ _)::_,_,.cons _ _,h=>by cases h
 |_,(_,.eo _ _)::_,_,.cons _ _,h=>by cases h
theorem Qw(ha:GE X W a fa):GE X W a (Qv fa):=PEw ha fun σ H Q q=>by
 obtain⟨m,ρ,st,r,o⟩:=q;refine⟨m,ρ,st,r,(Out.bind o).imp fun v st1 m1 H1 e1 s1 o1 x rx=>?_⟩;dsimp only at o1;split at o1
 ·rename_i n;split at o1
  ·rename_i xs hx;split at o1
   ·rename_i ds hd;obtain⟨p,hp,rfl,vs,hH,rs⟩:=dQ s1 rx hx (fun z=>by cases z);refine o1 _ _ eZ (nW s1) _ (.d (.lst (xs:=vs) ⟨hH,?_,?_⟩ (gr (rs.ext eZ) hd)))
    ·intro z;obtain⟨i,hi⟩:=zaF.mp z;obtain⟨h1,h2⟩:=iM hi;exact h1 (s1.inj i n p h2 hp)
    ·exact s1.np p (zag hp)
   ·exact o1.elim
  ·rename_i kvs hx;split at o1
   ·rename_i ds hd;obtain⟨p,hp,rfl,es,hH,rs⟩:=dQ s1 rx hx (fun z=>by cases z);refine o1 _ _ eZ (nW s1) _ (.d (.dct (es:=es) ⟨hH,?_,?_⟩ (jQ (rs.ext eZ) hd)))
    ·intro z;obtain⟨i,hi⟩:=zaF.mp z;obtain⟨h1,h2⟩:=iM hi;exact h1 (s1.inj i n p h2 hp)
    ·exact s1.np p (zag hp)
   ·exact o1.elim
  ·exact o1.elim
 ·exact(Out.here o1 s1) _ rx
end
end G
namespace L2
open PySem PySem.Spec PyProof.Rows
def E6(b:Bool)(h:Heap)(it l:Addr)(i:Nat):Prop:=match b with
 |true=>h.IsTupleIter it l i
 |false=>h.IsListIter it l i
def Wv(b:Bool)(h:Heap)(l:Addr)(items:Array Value):Prop:=match b with
 |true=>h.IsTuple l items
 |false=>h.IsList l items
section
variable {b:Bool} {X:Cx} {pins:List (Addr×Obj)} {σ:St} {H:Hp} {s:Shared} {a:Addr} {xs ys:List V}
theorem E6.there{h:Heap}{it l:Addr}{i:Nat}(x:E6 b h it l i):∃ o,h.get? it=some o/\(o.cls= .type "tuple_iterator"\/o.cls= .type "list_iterator")/\∀ v,o.data≠.cell v:=by
 cases b with
 |true=>obtain⟨o,h1,h2,h3⟩:=x;exact⟨o,h1,.inl h2,fun v q=>by rw[h3]at q;cases q⟩
 |false=>obtain⟨o,h1,h2,h3⟩:=x;exact⟨o,h1,.inr h2,fun v q=>by rw[h3]at q;cases q⟩
theorem Wv.there{h:Heap}{l:Addr}{items:Array Value}(x:Wv b h l items):∃ o,h.get? l=some o/\(o.cls= .type "tuple"\/o.cls= .type "list"):=by
 cases b with
 |true=>obtain⟨o,h1,h2,_⟩:=x;exact⟨o,h1,.inl h2⟩
 |false=>obtain⟨o,h1,h2,_⟩:=x;exact⟨o,h1,.inr h2⟩
theorem E6.at{h h':Heap}{it l:Addr}{i:Nat}(x:E6 b h it l i)(k:∀ o,h.get? it=some o->h'.get? it=some o):E6 b h' it l i:=by
 cases b with
 |true=>exact Heap.IsTupleIter.at x k
 |false=>exact Heap.IsListIter.at x k
end
def Qx(H:Hp)(v:V)(x y:V)(H':Hp):Prop:=∃ T o,v= .ref T/\H T=none/\o.dict=none/\H'=upd H T (.frz o (.tup [x,y]))
section
end
def Ic(d:Addr)(o:Obj)(kvs:List (Key×V)):It:=⟨fun i H=>H d=some (.frz o (.dK kvs))/\i<kvs.length,fun i H x H'=>∃ k v,kvs[i]?=some (k,v)/\Qx H x (kV k) v H',fun i H=>H d=some (.frz o (.dK kvs))/\kvs.length<=i⟩
section
variable {P:Program} {w:World} {K:PySem.W.Frag} {d:Addr} {o:Obj} {es:Array DictEntry} {ep:Nat}
theorem Bg{kvs:List (Key×V)}{elts:List Expr}{kk:Nat}{tpos:Pos}(it:Addr)(hod:o.data= .dict es ep):
 Turn P w K (.Tuple elts kk tpos) (Ic d o kvs) [it] it (fun i h=>∃ ok ov,IsItemIter h it d i kvs.length ep ok ov) where
 mem:=by simp
 obj:=fun i h st b hb=>by
  have e:b=it:=by simpa using hb
  subst e;obtain⟨ok,ov,e⟩:=st;exact⟨_,e,fun v z=>nomatch z⟩
 keep:=fun i h h' st k=>let⟨ok,ov,e⟩:=st;⟨ok,ov,k it (by simp) _ e⟩
 item:=by
  intro X hP hw hK hc i pins s σ H E I hf st hg;subst hP hw hK;obtain⟨hd,hi⟩:=hg;obtain⟨hs,hgd,hx,es',ep',vs,hdt,hsz,kv,hm⟩:=I.frzK hd;obtain⟨rfl,rfl⟩:=dict_ep hod hdt;obtain⟨⟨k,v⟩,hkv⟩:∃ p,kvs[i]?=some p:=⟨kvs[i],zaW hi⟩;obtain⟨u,hu,ru⟩:=kv_get kv hkv;have hl:kvs.length=vs.length:=zao kv;obtain⟨ok,ov,he⟩:=st;rw[hl]at he;have hlt:it<s.heap.objs.size:=zbk he;refine wpAny_pyNext_items_item he hm hu fun key h' hkey ho hT hz hk=>?_;refine⟨_,rfl,wpAny_letOwnedTupleGo_items (s:={ s with heap:=h' }) ho fun h'' he' sb=>?_⟩;have hT2:h''.get? s.heap.objs.size=some (NT [key,u]):=(sb.2 _ (Nat.ne_of_gt hlt)).trans hT;have new:ObjOk X.prog X.w (upd H s.heap.objs.size (.frz (NT [key,u]) (.tup [kV k,v]))) h'' s.heap.objs.size (.frz (NT [key,u]) (.tup [kV k,v])):=⟨hT2,by show 2<=sizeLine;decide,[key,u],.cons (relV_key (show keyIs k key=true from hkey)) (.cons ru .nil),⟨_,hT2,rfl,_,rfl⟩⟩;have I1:Inv X pins σ (upd H s.heap.objs.size (.frz (NT [key,u]) (.tup [kV k,v]))) { s with heap:=h'' }:=I.turnedNew (t':=s.toks) (ch:=[it]) (fun b ob hb e=>(sb.2 b (by simpa using hb)).trans (hk b ob (by simpa using hb) e)) hf (zal _) new;refine⟨.ref s.heap.objs.size,_,I1,rfl,⟨k,v,hkv,_,_,rfl,I.hok.fresh (zal _),rfl,rfl⟩,⟨key,u,?_⟩,fun b hb=>?_⟩
  ·rw[hl];exact he'
  ·have e:b=it:=by simpa using hb
   rw[e,upd_ne (zbC hlt)];exact(hf it (by simp)).1
 done:=by intro X hP hw hK hc i pins s σ H E I hf st hg;subst hP hw hK;obtain⟨hd,hi⟩:=hg;obtain⟨f0,f1,f2,f3,f4,f5⟩:=hf it (by simp);obtain⟨hs,hgd,hx,es',ep',vs,hdt,hsz,kv,hm⟩:=I.frzK hd;obtain⟨rfl,rfl⟩:=dict_ep hod hdt;have hl:kvs.length=vs.length:=zao kv;obtain⟨ok,ov,he⟩:=st;rw[hl]at he;exact wpAny_pyNext_items_end (I.ok.hd hc) he hm (zaJ (by omega)) fun h' eb=>⟨rfl,I.turned (t':=s.toks) (fun b ob hb e=>eb b ob hb e) f0 f1 f3 f4 f5⟩
 self:=fun A i s Q E st h=>let⟨_,_,e⟩:=st;PySem.W.kcp_self e h
end
def MJ(td:TE):TI:=fun σ H R=>td σ H fun x H1=>∃ d kvs,x= .ref d/\H1 d=some (.dK kvs)/\∀ o,R (Ic d o kvs) (upd H1 d (.frz o (.dK kvs)))
section
variable {X:Cx} {tg e:Expr} {td:TE} {apos cpos:Pos}
theorem E7{elts:List Expr}{kk:Nat}{tpos:Pos}(he:PE X e td)(hbase:attributeBase e "items" X.env (eval e X.env)=eval e X.env:=by rfl)(hline:(apos.endLine == cpos.line)=true:=by rfl):
 PI X (.Tuple elts kk tpos) (.Call (.Attribute e "items" apos) [] [] cpos) (MJ td):=by
 refine⟨fun pins s σ H R I h=>?_⟩;refine wpAny_Call_method (T:="dict") (id:="dict.items") hbase rfl hline zbu F.slot_dict_items F.type_dict_items (thn (he.run pins s σ H _ I h) fun u s1 ⟨x,H0,I0,rx,d,kvs,ex,hd0,q0⟩=>?_);subst ex;obtain rfl:u=Value.ref d:=rx;obtain⟨o,I1⟩:=I0.lock hd0 trivial;have q:=q0 o;have hd:upd H0 d (.frz o (.dK kvs)) d=some (.frz o (.dK kvs)):=upd_same;generalize upd H0 d (.frz o (.dK kvs))=H1 at I1 q hd;obtain⟨hs,hgd,hx,es,ep,vs,hdt,hsz,kv,hm⟩:=I1.frzK hd;have hl:kvs.length=vs.length:=zao kv;refine⟨hm.dictOf.typeIs,hm.dictOf.mapOf.noDict,?_⟩;have I2:Inv X pins σ H1 { s1 with heap:=s1.heap.push { cls:=.type "dict_items",data:=.fields #[.ref d] } }:=I1.kept (t':=s1.toks) fun b ob q=>zaT _ q;have fin:wpAny (model X.prog X.w) X.A (pyIter (.ref s1.heap.objs.size)) (PIE X pins σ (.Tuple elts kk tpos) R) X.xe { s1 with heap:=s1.heap.push { cls:=.type "dict_items",data:=.fields #[.ref d] } }:=by refine wpAny_pyIter_items (d:=d) (knd:=mixKind X.prog X.w) ⟨_,zbr _ rfl,rfl,rfl⟩ (hm.push _) (pi_one (tk:=s1.toks) I2 _ (Bg _ hdt) ⟨.none,.none,?_⟩ q);rw[hl];exact zbr _ rfl
 show wpAny _ _ (callWith cpos (.builtin "dict.items") [.ref d] [] []) _ X.xe s1;exact method_meetsIn F.slot_dict_items F.entry_dict_items rfl (PySem.evalArgs_none ⟨rfl,hm.dictOf.typeIs,F.args_dict_items_1 _,_,meets_dict_items (mixKind X.prog X.w) d hs,⟨vs,hm.dictOf⟩,fin⟩)
end
end L2
namespace G
open PySem PySem.Spec PyProof.Rows L2 LiI
section
end
section
end
end G
namespace G
open PySem PySem.Spec PyProof.Rows L2
structure Later (m:Mp) (H:Hp) (m':Mp) (H':Hp):Prop where
 stay:fS H m H' m'
 len:m.ls.length<=m'.ls.length
 at_:∀ n,n<m.ls.length->m'.ls[n]?=m.ls[n]?\/m'.ls[n]?=some none
theorem Ext.later{m m':Mp}{H H':Hp}(e:Ext m H m' H'):Later m H m' H':=⟨e.stay,e.len,e.at_⟩
theorem Rep.late{K:PySem.W.Frag}{m m':Mp}{H H':Hp}(e:Later m H m' H'){v:V}{x:Val}(h:Rep K H m v x):Rep K H' m' v x:=h.j9 e.stay e.len e.at_
structure tX (g:Gx) (m1:Mp) (H1:Hp) (J:L2.It) (p:cC):Prop where
 go:∀ i m2 H2 st2,Later m1 H1 m2 H2->ak g.K H2 m2 st2->p.2.ok st2->i<p.1.length->J.go i H2
 stop:∀ m2 H2 st2,Later m1 H1 m2 H2->ak g.K H2 m2 st2->p.2.ok st2->J.stop p.1.length H2
 yld:∀ i m2 H2 st2 x H' v,Later m1 H1 m2 H2->ak g.K H2 m2 st2->p.2.ok st2->p.1[i]?=some v->J.yld i H2 x H'->(∀ a o,H2 a=some o->H' a=some o)/\Rep g.K H' m2 x v
def DI(g:Gx)(W:WX)(f:ae->aa->R cC):TI:=fun σ H Q=>∃ m ρ st,Rel g.K H m σ ρ st/\Out g W m H σ (f ρ st) fun p st1 m1 H1=>ak g.K H1 m1 st1->∀ J,tX g m1 H1 J p->Q J H1
abbrev tD(X:Cx)(W:WX)(tg e:Expr)(f:ae->aa->R cC):Prop:=PI X tg e (DI (gx X) W f)
theorem PI.pick{X:Cx}{tg e:Expr}{t:TI}(h:∀ σ H Q,t σ H Q->∃ t',PI X tg e t'/\t' σ H Q):PI X tg e t:=⟨fun pins s σ H Q I q=>let⟨_,h1,h2⟩:=h σ H Q q;h1.run pins s σ H Q I h2⟩
theorem Lk{X:Cx}{tg e:Expr}{t t':TI}(h:PI X tg e t)(w:∀ σ H Q,t' σ H Q->t σ H Q):PI X tg e t':=⟨fun pins s σ H Q I q=>h.run pins s σ H Q I (w σ H Q q)⟩
section
variable {g:Gx} {m1:Mp} {H1:Hp} {a b:Addr}
theorem Ww{vs:List V}{K:PySem.W.Frag}{H:Hp}{m:Mp}{xs:List Val}{i:Nat}{x:V}{v:Val}(r:aW K H m vs xs)(h1:vs[i]?=some x)(h2:xs[i]?=some v):Rep K H m x v:=by obtain⟨y,e,q⟩:=paired_get r h2;rw[h1]at e;cases e;exact q
theorem xE{p:cC}(h:∀ m2 H2 st2,Later m1 H1 m2 H2->ak g.K H2 m2 st2->p.2.ok st2->∃ vs,SqL g.K H2 a vs/\aW g.K H2 m2 vs p.1):tX g m1 H1 (Itl g.K a) p where
 go:=fun i m2 H2 st2 l s o hi=>by obtain⟨vs,h1,h2⟩:=h m2 H2 st2 l s o;exact(walk_list (xs:=vs)).goes i H2 (by rw[zao h2];exact hi) h1
 stop:=fun m2 H2 st2 l s o=>by obtain⟨vs,h1,h2⟩:=h m2 H2 st2 l s o;rw[←zao h2];exact(walk_list (xs:=vs)).stops H2 h1
 yld:=fun i m2 H2 st2 x H' v l s o hv y=>by obtain⟨vs,h1,h2⟩:=h m2 H2 st2 l s o;obtain⟨rfl,e⟩:=y;exact⟨fun _ _ q=>q,Ww h2 (e vs h1) hv⟩
theorem Ie{p:cC}(h:∀ m2 H2 st2,Later m1 H1 m2 H2->ak g.K H2 m2 st2->p.2.ok st2->∃ vs,SqT g.K H2 a vs/\aW g.K H2 m2 vs p.1):tX g m1 H1 (Itt g.K a) p where
 go:=fun i m2 H2 st2 l s o hi=>by obtain⟨vs,h1,h2⟩:=h m2 H2 st2 l s o;exact(walk_tup (xs:=vs)).goes i H2 (by rw[zao h2];exact hi) h1
 stop:=fun m2 H2 st2 l s o=>by obtain⟨vs,h1,h2⟩:=h m2 H2 st2 l s o;rw[←zao h2];exact(walk_tup (xs:=vs)).stops H2 h1
 yld:=fun i m2 H2 st2 x H' v l s o hv y=>by obtain⟨vs,h1,h2⟩:=h m2 H2 st2 l s o;obtain⟨rfl,e⟩:=y;exact⟨fun _ _ q=>q,Ww h2 (e vs h1) hv⟩
theorem Ig{z:Str}:tX g m1 H1 (Its z) (z.cps.toList.map (fun c=>Val.d (.str ⟨#[c]⟩)),none) where
 go:=fun i m2 H2 st2 l s o hi=>by show i<z.cps.size;simpa using hi
 stop:=fun m2 H2 st2 l s o=>by show z.cps.size<=_;simp
 yld:=fun i m2 H2 st2 x H' v l s o hv y=>by
  obtain⟨rfl,c,hc,rfl⟩:=y;refine⟨fun _ _ q=>q,?_⟩;have e:(z.cps.toList.map (fun c=>Val.d (.str ⟨#[c]⟩)))[i]?=some (Val.d (.str ⟨#[c]⟩)):=by rw[zat,Array.getElem?_toList,hc];rfl
  have e2:some (Val.d (.str ⟨#[c]⟩))=some v:=e.symm.trans hv;cases e2;exact .d (.str _)
theorem E8{lo c:Int}{n i:Nat}{v:Val}(h:(rng lo n c)[i]?=some v):i<n/\v= .d (.int (lo+(i:Nat) * c)):=by
 unfold rng at h;rw[zat]at h;by_cases hi:i<n
 ·rw[List.getElem?_range hi]at h;exact⟨hi,(zam h).symm⟩
 ·rw[zaJ (by simpa using hi)]at h;cases h
theorem rQ{lo c:Int}{n:Nat}:(rng lo n c).length=n:=by unfold rng;simp
theorem zw{lo:Int}{n:Nat}:tX g m1 H1 (Itr lo n) (rng lo n 1,none) where
 go:=fun i m2 H2 st2 l s o hi=>by rw[rQ]at hi;exact hi
 stop:=fun m2 H2 st2 l s o=>by rw[rQ];exact zal n
 yld:=fun i m2 H2 st2 x H' v l s o hv y=>by obtain⟨rfl,rfl⟩:=y;obtain⟨_,rfl⟩:=E8 hv;refine⟨fun _ _ q=>q,?_⟩;rw[Int.mul_one];exact .d (.int _)
theorem E9{lo c:Int}{n:Nat}:tX g m1 H1 (Itc lo c n) (rng lo n c,none) where
 go:=fun i m2 H2 st2 l s o hi=>by rw[rQ]at hi;exact hi
 stop:=fun m2 H2 st2 l s o=>by rw[rQ];exact zal n
 yld:=fun i m2 H2 st2 x H' v l s o hv y=>by obtain⟨rfl,rfl⟩:=y;obtain⟨_,rfl⟩:=E8 hv;exact⟨fun _ _ q=>q,.d (.int _)⟩
theorem Ih{K:PySem.W.Frag}{H H':Hp}{m:Mp}{st:aa}{v x y:V}{d e:PyData}(s:ak K H m st)(n:Qx H v x y H')(h1:bG K H m x d)(h2:bG K H m y e):(∀ a o,H a=some o->H' a=some o)/\Rep K H' m v (.d (.tuple [d,e])):=by obtain⟨T,o,rfl,hT,ho,rfl⟩:=n;exact⟨bf hT,eO s hT ho (.cons h1 (.cons h2 .nil))⟩
end
section
variable {X:Cx} {W:WX} {tg e a b c:Expr} {pos p:Pos} {fa fb fc:ae->aa->R Val}
theorem Ii{K:PySem.W.Frag}{m1 m2:Mp}{H1 H2:Hp}{a:Addr}{vs:List V}{ds:List PyData}(h1:Hy H1 m1 a vs)(h2:aY K H1 m1 vs ds)(l:Later m1 H1 m2 H2):SqL K H2 a vs/\aY K H2 m2 vs ds:=⟨.inl (.inl (l.stay _ _ h1.1 h1.2).1),h2.stay l.stay⟩
theorem Ij{K:PySem.W.Frag}{m1 m2:Mp}{H1 H2:Hp}{a:Addr}{vs:List V}{ds:List PyData}(h1:iV K H1 m1 a vs)(h2:aY K H1 m1 vs ds)(l:Later m1 H1 m2 H2):SqT K H2 a vs/\aY K H2 m2 vs ds:=⟨(h1.stay l.stay).sq,h2.stay l.stay⟩
theorem Ik{K:PySem.W.Frag}{m1 m2:Mp}{H1 H2:Hp}{n:Nat}{a:Addr}{xs:List Val}{st2:aa}(h1:m1.ls[n]?=some (some a))(l:Later m1 H1 m2 H2)(s:ak K H2 m2 st2)(o:st2[n]?=some (.lst xs)):∃ vs,SqL K H2 a vs/\aW K H2 m2 vs xs:=by
 have hn:n<m1.ls.length:=(zak.mp h1).1;rcases l.at_ n hn with e |e
 ·obtain⟨vs,q1,q2⟩:=s.cell n a _ (e.trans h1) o;exact⟨vs,.inl (.inl q1),q2⟩
 ·have q:=s.dead n e;rw[o]at q;cases q
theorem Qy(ha:GE X W a fa):tD X W tg a (fun ρ st=>(fa ρ st).bind fun v st1=>fQ (bS v st1) st1):=PI.pick fun σ H Q q=>by
 obtain⟨m,ρ,st,r,o⟩:=q;dsimp only at o;have o:=Out.bind o;cases e:fa ρ st with
 |no=>rw[e]at o;exact o.elim
 |exc x st1=>rw[e]at o;exact⟨_,pi_list ha,m,ρ,st,r,by rw[e];exact o⟩
 |ok v st1=>
  rw[e]at o;cases es:bS v st1 with
  |none=>refine⟨_,pi_list ha,m,ρ,st,r,?_⟩;rw[e];intro m' H' e' s';have q:=o m' H' e' s';dsimp only at q;rw[es]at q;exact q.elim
  |some pp=>
   cases v with
   |d d=>
    cases d with
    |str z=>refine⟨_,pi_str ha,m,ρ,st,r,?_⟩;rw[e];intro m' H' e' s' x rx;have q:=o m' H' e' s';dsimp only at q;rw[es]at q;obtain rfl:=aQ rx;cases es;exact⟨z,rfl,Out.here q s' s' _ Ig⟩
    |tuple ds=>refine⟨_,pi_tup ha,m,ρ,st,r,?_⟩;rw[e];intro m' H' e' s' x rx;have q:=o m' H' e' s';dsimp only at q;rw[es]at q;obtain⟨p,vs,rfl,h1,h2⟩:=gD rx;cases es;refine⟨p,rfl,⟨vs,h1.sq⟩,Out.here q s' s' _ (Ie fun m2 H2 st2 l s _=>?_)⟩;obtain⟨q1,q2⟩:=Ij h1 h2 l;exact⟨vs,q1,lW q2⟩
    |list ds=>refine⟨_,pi_list ha,m,ρ,st,r,?_⟩;rw[e];intro m' H' e' s' x rx;have q:=o m' H' e' s';dsimp only at q;rw[es]at q;obtain⟨p,vs,rfl,h1,h2⟩:=rM rx;cases es;refine⟨p,rfl,⟨vs,.inl (.inl h1.1)⟩,Out.here q s' s' _ (xE fun m2 H2 st2 l s _=>?_)⟩;obtain⟨q1,q2⟩:=Ii h1 h2 l;exact⟨vs,q1,lW q2⟩
    |_=>cases es
   |loc n=>
    refine⟨_,pi_list ha,m,ρ,st,r,?_⟩;rw[e];intro m' H' e' s' x rx;have q:=o m' H' e' s';dsimp only at q;rw[es]at q;cases ec:st1[n]? with
    |none=>simp only[bS,ec]at es;cases es
    |some c=>
     cases c with
     |lst xs=>simp only[bS,ec]at es;cases es;obtain⟨p,hp,rfl,vs,hH,rs⟩:=dQ s' rx ec (fun z=>by cases z);exact⟨p,rfl,⟨vs,.inl (.inl hH)⟩,Out.here q s' s' _ (xE fun m2 H2 st2 l s o2=>Ik hp l s o2)⟩
     |dct xs=>simp only[bS,ec]at es;cases es
     |dead=>simp only[bS,ec]at es;cases es
     |tab _=>simp only[bS,ec]at es;cases es
     |obj _ _=>simp only[bS,ec]at es;cases es
     |gQ _=>simp only[bS,ec]at es;cases es
   |bW ns=>cases es
   |xc _ _=>cases es
   |td _=>cases es
   |dN _ _=>cases es
   |eo _ _=>cases es
variable {es:List Expr} {fs:ae->aa->R (List Val)}
theorem Qz(hg:Gl X "range")(hm:X.mg "range" = none)(hp:∀ y∈es,aG y=true)(hl:es.length=1\/es.length=2\/es.length=3)(hs:jN X W es fs)(hv:∀ ρ st vs st1,fs ρ st= .ok vs st1->vs.length=es.length):
 tD X W tg (.Call (.Name "range" p) es [] pos) (fun ρ st=>(fs ρ st).bind fun vs st1=>fQ (lj vs) st1):=by
 have key:∀ σ H (Q:L2.It->Hp->Prop),DI (gx X) W (fun ρ st=>(fs ρ st).bind fun vs st1=>fQ (lj vs) st1) σ H Q->DA (gx X) W fs σ H fun vs H1=>
  match vs with
  | [_]=>∃ j:Int,vs=[.int j]/\-(2 ^ 62)<=j/\j<2 ^ 62/\Q (Itr 0 j.toNat) H1
  | [_,_]=>∃ i j:Int,vs=[.int i,.int j]/\(-(2 ^ 62)<=i/\i<2 ^ 62/\-(2 ^ 62)<=j/\j<2 ^ 62)/\Q (Itr i (j-i).toNat) H1
  |_=>∃ (i j c:Int) (n:Nat),vs=[.int i,.int j,.int c]/\RgC i j c n/\Q (Itc i c n) H1:=fun σ H Q q=>by
  obtain⟨m,ρ,st,r,o⟩:=q;refine⟨m,ρ,st,r,(Out.bind o).imp fun vs st1 m1 H1 e1 s1 o1 xs rs=>?_⟩;obtain⟨pp,hpp,q⟩:=Out.opt o1 s1;unfold lj at hpp;split at hpp
  ·rename_i j;obtain⟨x,rfl,rx⟩:=fK rs;split at hpp
   ·rename_i hj;cases hpp;obtain rfl:=ay rx;exact⟨j,rfl,hj.1,hj.2,q s1 _ zw⟩
   ·cases hpp
  ·rename_i i j;obtain⟨x,y,rfl,rx,ry⟩:=pB rs;split at hpp
   ·rename_i hj;cases hpp;obtain rfl:=ay rx;obtain rfl:=ay ry;exact⟨i,j,rfl,⟨hj.1.1,hj.1.2,hj.2.1,hj.2.2⟩,q s1 _ zw⟩
   ·cases hpp
  ·rename_i i j k;split at hpp
   ·rename_i hj;cases hpp;cases rs with
    |cons rx rr=>obtain⟨y,z,rfl,ry,rz⟩:=pB rr;obtain rfl:=ay rx;obtain rfl:=ay ry;obtain rfl:=ay rz;exact⟨i,j,k,_,rfl,⟨hj.1.1,hj.1.2,hj.2.1,(Int.toNat_of_nonneg hj.2.2).symm⟩,q s1 _ E9⟩
   ·cases hpp
  ·cases hpp
 match es,hl,hp,hs,hv with
 | [a],_,hp,hs,hv=>
   exact Lk (pi_range1 hg hm hs (aV (hp a (by simp)) [] _)) fun σ H Q q=>by
    obtain⟨m,ρ,st,r,o⟩:=key σ H Q q;refine⟨m,ρ,st,r,?_⟩;have hv:=hv ρ st;cases e:fs ρ st with
    |no=>rw[e]at o;exact o
    |exc x s=>rw[e]at o;exact o
    |ok vs st1=>
     rw[e]at o;have hl:=hv vs st1 e;intro m' H' e' s' xs rs;have h:=o m' H' e' s' xs rs;have hx:xs.length=1:=by rw[zao rs];exact hl
     match xs,hx with
     | [x],_=>exact h
 | [a,b],_,hp,hs,hv=>
   exact Lk (pi_range2 hg hm hs (by rw[aV (hp a (by simp)),aV (hp b (by simp))];rfl) (aV (hp b (by simp)) [] _)) fun σ H Q q=>by
    obtain⟨m,ρ,st,r,o⟩:=key σ H Q q;refine⟨m,ρ,st,r,?_⟩;have hv:=hv ρ st;cases e:fs ρ st with
    |no=>rw[e]at o;exact o
    |exc x s=>rw[e]at o;exact o
    |ok vs st1=>
     rw[e]at o;have hl:=hv vs st1 e;intro m' H' e' s' xs rs;have h:=o m' H' e' s' xs rs;have hx:xs.length=2:=by rw[zao rs];exact hl
     match xs,hx with
     | [x,y],_=>exact h
 | [a,b,c],_,hp,hs,hv=>
   exact Lk (pi_range3 hg hm hs (aV (hp a (by simp)) _ _) (di fun y hy=>hp y (zae _ hy))) fun σ H Q q=>by
    obtain⟨m,ρ,st,r,o⟩:=key σ H Q q;refine⟨m,ρ,st,r,?_⟩;have hv:=hv ρ st;cases e:fs ρ st with
    |no=>rw[e]at o;exact o
    |exc x s=>rw[e]at o;exact o
    |ok vs st1=>
     rw[e]at o;have hl:=hv vs st1 e;intro m' H' e' s' xs rs;have h:=o m' H' e' s' xs rs;have hx:xs.length=3:=by rw[zao rs];exact hl
     match xs,hx with
     | [x,y,z],_=>exact h
end
def ao(g:Gx){α:Type}(m:Mp)(H:Hp)(r:R α)(k:α->aa->Mp->Hp->Prop):Prop:=match r with
 | .ok a st=>∀ m' H',Ext m H m' H'->ak g.K H' m' st->k a st m' H'
 |_=>False
section
variable {g:Gx} {W:WX} {α β:Type} {m m1:Mp} {H H1:Hp} {σ:L2.St} {st:aa}
theorem ao.from{r:R α}{k:α->aa->Mp->Hp->Prop}(e:Ext m H m1 H1)(h:ao g m H r k):ao g m1 H1 r k:=by
 cases r with
 |ok a st=>exact fun m' H' e' s=>h m' H' (e.trans e') s
 |exc x st=>exact h
 |no=>exact h
theorem ao.out{r:R α}{k:α->aa->Mp->Hp->Prop}(h:ao g m H r k):Out g W m H σ r k:=by
 cases r with
 |ok a st=>exact h
 |exc x st=>exact h.elim
 |no=>exact h
theorem ao.bind{r:R α}{f:α->aa->R β}{k:β->aa->Mp->Hp->Prop}(h:ao g m H (r.bind f) k):ao g m H r (fun a st1 m1 H1=>ao g m1 H1 (f a st1) k):=by
 cases r with
 |ok a st=>exact fun m' H' e' s=>ao.from e' h
 |exc x st=>exact h
 |no=>exact h
theorem ao.imp{r:R α}{k k':α->aa->Mp->Hp->Prop}(h:ao g m H r k)(hk:∀ a st m' H',Ext m H m' H'->ak g.K H' m' st->k a st m' H'->k' a st m' H'):ao g m H r k':=by
 cases r with
 |ok a st=>exact fun m' H' e' s=>hk a st m' H' e' s (h m' H' e' s)
 |exc x st=>exact h
 |no=>exact h
theorem ao.u5{r:R α}{k:α->aa->Mp->Hp->Prop}(h:ao g m H r k):∃ a st,r= .ok a st:=by
 cases r with
 |ok a st=>exact⟨a,st,rfl⟩
 |exc x st=>exact h.elim
 |no=>exact h.elim
theorem ao.here{a:α}{k:α->aa->Mp->Hp->Prop}(h:ao g m H (.ok a st) k)(s:ak g.K H m st):k a st m H:=h m H .refl s
end
def DG(g:Gx)(sl:List Nat)(f:Val->ae->aa->R ae):TG:=fun v σ H Q=>∃ m ρ st x,Rel g.K H m σ ρ st/\Rep g.K H m v x/\ao g m H (f x ρ st) fun ρ' st' m' H'=>∀ σ',Rel g.K H' m' σ' ρ' st'->(∀ i,i∉sl->σ'[i]?=σ[i]?)->Q σ' H'
def BI(g:Gx)(sl:List Nat)(f:List Val->ae->aa->R ae):TGs:=fun vs σ H Q=>∃ m ρ st xs,Rel g.K H m σ ρ st/\aW g.K H m vs xs/\ao g m H (f xs ρ st) fun ρ' st' m' H'=>∀ σ',Rel g.K H' m' σ' ρ' st'->(∀ i,i∉sl->σ'[i]?=σ[i]?)->Q σ' H'
theorem Fb{X:Cx}{e:Expr}{t t':TG}(h:PG X e t)(w:∀ v σ H Q,t' v σ H Q->t v σ H Q):PG X e t':=⟨fun pins s σ H v u Q I r q=>h.run pins s σ H v u Q I r (w v σ H Q q)⟩
theorem QA{X:Cx}{e:List Expr}{t t':TGs}(h:PGs X e t)(w:∀ v σ H Q,t' v σ H Q->t v σ H Q):PGs X e t':=⟨fun pins s σ H v u Q I r q=>h.run pins s σ H v u Q I r (w v σ H Q q)⟩
theorem Rel.set{K:PySem.W.Frag}{H:Hp}{m:Mp}{σ:L2.St}{ρ:ae}{st:aa}{i:Nat}{v:V}{x:Val}(r:Rel K H m σ ρ st)(h:Rep K H m v x):Rel K H m (σ.set i (some v)) (ρ.set i (some x)) st where
 len:=by simp[r.len]
 env:=fun j y e=>by
  by_cases ij:i=j
  ·subst ij;have hi:i<ρ.length:=by
    have q:=(zak.mp e).1;simpa using q
   rw[zan hi]at e;cases e;exact⟨v,zan (by rw[r.len];exact hi),h⟩
  ·rw[zar ij]at e⊢;exact r.env j y e
 st:=r.st
section
variable {X:Cx} {W:WX} {tg e a b:Expr} {es:List Expr} {pos:Pos} {fa fb fe:ae->aa->R Val}
theorem wM{i:Nat}{x:Str}(C:bQ X)(hi:X.N[i]?=some x)(hx:Loc X.env.scope x)(hf:X.fn x=true\/X.env.scope.names.lookup x=some .local):
 PG X (.Name x pos) (DG (gx X) [i] fun v ρ st=>if i<ρ.length then .ok (ρ.set i (some v)) st else .no):=Fb (pg_name C.nd hi hx hf) fun v σ H Q q=>by
 obtain⟨m,ρ,st,x,r,rx,o⟩:=q;dsimp only at o;split at o
 ·exact ao.here o r.st _ (r.set rx) fun j hj=>zar fun z=>hj (by simp[z])
 ·exact o.elim
theorem Fc:PGs X [] (BI (gx X) [] fun vs ρ st=>match vs with | []=>.ok ρ st |_=>.no):=QA pgs_nil fun vs σ H Q q=>by
 obtain⟨m,ρ,st,xs,r,rs,o⟩:=q;cases xs with
 |nil=>cases rs;exact⟨rfl,ao.here o r.st _ r fun _ _=>rfl⟩
 |cons _ _=>exact o.elim
theorem ie{e:Expr}(h:aG e=true)(es:List Expr)(env:Env):(assignEach (e::es) env)=(false,assign e env)::assignEach es env:=by cases e <;> first |rfl |(cases h)
theorem wN{ft:Val->ae->aa->R ae}{fs:List Val->ae->aa->R ae}{s1 s2:List Nat}(hp:aG e=true)(h1:PG X e (DG (gx X) s1 ft))(h2:PGs X es (BI (gx X) s2 fs)):
 PGs X (e::es) (BI (gx X) (s1++s2) fun vs ρ st=>match vs with |v::vs=>(ft v ρ st).bind fun ρ1 st1=>fs vs ρ1 st1 | []=>.no):=QA (pgs_cons h1 h2 (by rw[ie hp];rfl)) fun vs σ H Q q=>by
 obtain⟨m,ρ,st,xs,r,rs,o⟩:=q;cases xs with
 |nil=>exact o.elim
 |cons y ys=>
  cases rs with
  |cons rx rr=>refine⟨_,_,rfl,m,ρ,st,y,r,rx,(ao.bind o).imp fun ρ1 st1 m1 H1 e1 t1 o1 σ1 r1 n1=>?_⟩;refine⟨m1,ρ1,st1,ys,r1,aW.ext e1 rr,o1.imp fun ρ2 st2 m2 H2 e2 t2 o2 σ2 r2 n2=>?_⟩;exact o2 σ2 r2 fun i hi=>by rw[zaX,not_or]at hi;exact(n2 i hi.2).trans (n1 i hi.1)
theorem mP:∀ {es:List Expr} {env:Env},(∀ y∈es,aG y=true)->(assignEach es env).findIdx? (·.1)=none
 | [],_,_=>rfl
 |e::es,env,h=>by rw[ie (h e zac),List.findIdx?_cons,mP fun y hy=>h y (zae _ hy)];rfl
theorem pC:∀ {es:List Expr} {env:Env},(∀ y∈es,aG y=true)->(assignEach es env).length=es.length
 | [],_,_=>rfl
 |e::es,env,h=>by rw[ie (h e zac),zaf,pC fun y hy=>h y (zae _ hy)];rfl
theorem Vn{X:Cx}{e:Expr}{t1 t2:TG}(h1:PG X e t1)(h2:PG X e t2):PG X e (fun v σ H Q=>t1 v σ H Q\/t2 v σ H Q):=⟨fun pins s σ H v u Q I r hw=>hw.elim (fun q=>h1.run pins s σ H v u Q I r q) fun q=>h2.run pins s σ H v u Q I r q⟩
theorem QC{k:Nat}{sl:List Nat}{fs:List Val->ae->aa->R ae}(C:bQ X)(hp:∀ y∈es,aG y=true)(h:PGs X es (BI (gx X) sl fs))(hn:∀ xs ρ st ρ1 st1,fs xs ρ st= .ok ρ1 st1->xs.length=es.length):
 PG X (.Tuple es k pos) (DG (gx X) sl fun v ρ st=>match v with | .d (.tuple xs)=>fs (xs.map Val.d) ρ st | .d (.list xs)=>fs (xs.map Val.d) ρ st | .dN x n=>fs [.d x,.loc n] ρ st | .eo x kvs=>fs [.d x,.td kvs] ρ st |_=>.no):=Fb (Vn (pg_tup C.calm h (pC hp) (mP hp)) (pg_lst C.calm h (pC hp) (mP hp))) fun v σ H Q q=>by
 obtain⟨m,ρ,st,x,r,rx,o⟩:=q;dsimp only at o;split at o
 ·rename_i xs;left;obtain⟨p,vs,rfl,h1,h2⟩:=gD rx;refine⟨p,vs,rfl,h1.sq,?_,m,ρ,st,_,r,lW h2,o⟩;obtain⟨ρ1,st1,e1⟩:=ao.u5 o;have q:=hn _ _ _ _ _ e1;rw[zao h2.pair,←q];simp
 ·rename_i xs;right;obtain⟨p,vs,rfl,h1,h2⟩:=rM rx;refine⟨p,vs,rfl,.inl (.inl h1.1),?_,m,ρ,st,_,r,lW h2,o⟩;obtain⟨ρ1,st1,e1⟩:=ao.u5 o;have q:=hn _ _ _ _ _ e1;rw[zao h2.pair,←q];simp
 ·left;cases rx with
  |dN h1 h2 h3 h4=>refine⟨_,_,rfl,h1.sq,?_,m,ρ,st,_,r,.cons (.d h2) (.cons (.loc h3 h4) .nil),o⟩;obtain⟨ρ1,st1,e1⟩:=ao.u5 o;exact hn _ _ _ _ _ e1
 ·left;cases rx with
  |eo h1 h2 h3 h4 h5=>refine⟨_,_,rfl,h1.sq,?_,m,ρ,st,_,r,.cons (.d h2) (.cons (.td h3 h4 h5) .nil),o⟩;obtain⟨ρ1,st1,e1⟩:=ao.u5 o;exact hn _ _ _ _ _ e1
 ·exact o.elim
theorem BJ{a b:Expr}{pos:Pos}{env:Env}(h:aG b=true)(v:Value):assign (.Subscript a b pos) env v=(do
 let ov ←holding [v] (eval a env)
 let iv ←holding [v,ov] (eval b env)
 standAt pos
 holding [v,ov,iv] (setItem ov iv v)
 release [v,ov,iv] []):=by
 cases b <;> first |rfl |(cases h)
theorem QD(C:bQ X)(hp:aG b=true)(ha:GE X W a fa)(hb:GE X W b fb):PG X (.Subscript a b pos) (DG (gx X) [] fun v ρ st=>(fa ρ st).bind fun o st1=>(fb ρ st1).bind fun k st2=>match jr o k v st2 with
 |some st3=>.ok ρ st3
 |none=>.no):=Fb (pg_sub ha hb (Qa C) (BJ hp)) fun v σ H Q q=>by
 obtain⟨m,ρ,st,x,r,rx,o⟩:=q;refine⟨m,ρ,st,r,ao.out ((ao.bind o).imp fun y st1 m1 H1 e1 s1 o1 u ru=>?_)⟩;refine⟨m1,ρ,st1,r.ext e1 s1,ao.out ((ao.bind o1).imp fun z st2 m2 H2 e2 s2 o2 t rt=>?_)⟩;refine⟨m2,st2,y,z,x,s2,ru.ext e2,rt,(rx.ext e1).ext e2,?_⟩;cases e:jr y z x st2 with
 |none=>rw[e]at o2;exact o2.elim
 |some st3=>rw[e]at o2;exact fun m3 H3 e3 s3=>o2 m3 H3 e3 s3 σ (((r.ext e1 s1).ext e2 s2).ext e3 s3) fun _ _=>rfl
end
def rm(H:Hp)(p:Addr):Hp:=fun a=>if a=p then none else H a
theorem rR{H:Hp}{p:Addr}:rm H p p=none:=by unfold rm;simp
theorem pD{H:Hp}{p a:Addr}(h:a≠p):rm H p a=H a:=by unfold rm;simp[h]
theorem QE{H:Hp}{p:Addr}{o:HO}:upd (rm H p) p o=upd H p o:=by
 funext a
 by_cases e:a=p
 ·rw[e,upd_same,upd_same]
 ·rw[upd_ne e,upd_ne e,pD e]
theorem wO{H:Hp}{p:Addr}{o:HO}(h:H p=some o):upd (rm H p) p o=H:=by
 funext a
 by_cases e:a=p
 ·rw[e,upd_same,h]
 ·rw[upd_ne e,pD e]
section
variable {K:PySem.W.Frag} {H H':Hp} {m m':Mp} {p:Addr} {o o':HO} {st st0:aa} {σ:L2.St} {ρ:ae}
theorem BK(hP:m'.P=(m.hide p).P):fS H' m' (rm H' p) (m.back m'):=fun a u h f=>by have np:a≠p:=fun z=>f.2 (by rw[hP];exact .inr z);exact⟨by rw[pD np];exact h,f.1,fun z=>f.2 (by rw[hP];exact .inl z)⟩
theorem qp(hP:m'.P=(m.hide p).P){v:V}{x:Val}(h:Rep K H' m' v x):Rep K (rm H' p) (m.back m') v x:=h.j9 (BK hP) (zal _) fun _ _=>.inl rfl
theorem yx(hP:m'.P=(m.hide p).P)(h0 : ¬ m.P p)(s:ak K H' m' st):ak K (rm H' p) (m.back m') st where
 len:=s.len
 inj:=s.inj
 dead:=s.dead
 np:=fun a i z=>s.np a i (by rw[hP];exact .inl z)
 live:=fun a i=>by have np:a≠p:=fun e=>s.np a i (by rw[hP];exact .inr e);rw[pD np];exact s.live a i
 trk:=fun a z=>by have np:a≠p:=fun e=>h0 (e ▸ z);rw[pD np];exact s.trk a (by rw[hP];exact .inl z)
 cell:=fun n a c h1 h2=>by have np:a≠p:=fun e=>s.np a (zag h1) (by rw[hP];exact .inr e);exact lE (BK hP) (zal _) (fun _ _=>.inl rfl) (fun u q=>by rw[pD np];exact q) (s.cell n a c h1 h2)
theorem u6(hp:H p=none)(e:dh p (m.hide p) (upd H p o) m' H'):Ext m H (m.back m') (rm H' p) where
 len:=e.len
 at_:=e.at_
 P:=rfl
 keep:=fun a u h n=>by have np:=ne_of_none h hp;rw[pD np];exact e.keep a u (bf hp a u h) n np
 new:=fun a h n=>by have np:a≠p:=fun z=>e.no (z ▸ h);have q:=e.new a h n;rw[upd_ne np]at q;exact q
theorem zz(h:m.P p):fS H m (upd H p o) m:=fun a u e f=>by have np:a≠p:=fun z=>f.2 (z ▸ h);exact⟨by rw[upd_ne np];exact e,f⟩
theorem nY(h:m.P p){v:V}{x:Val}(r:Rep K H m v x):Rep K (upd H p o) m v x:=r.j9 (zz h) (zal _) fun _ _=>.inl rfl
theorem zA(h:m.P p)(s:ak K H m st):ak K (upd H p o) m st where
 len:=s.len
 inj:=s.inj
 dead:=s.dead
 np:=s.np
 live:=fun a i=>by have np:a≠p:=fun e=>s.np a i (e ▸ h);rw[upd_ne np];exact s.live a i
 trk:=fun a z=>by
  by_cases e:a=p
  ·rw[e,upd_same];exact fun q=>by cases q
  ·rw[upd_ne e];exact s.trk a z
 cell:=fun n a c h1 h2=>by have np:a≠p:=fun e=>s.np a (zag h1) (e ▸ h);exact lE (zz h) (zal _) (fun _ _=>.inl rfl) (fun u q=>by rw[upd_ne np];exact q) (s.cell n a c h1 h2)
theorem dh.upd{m0:Mp}{H0:Hp}(e:dh p m0 H0 m H):dh p m0 H0 m (upd H p o):=⟨e.len,e.at_,e.P,fun a u h n np=>by rw[upd_ne np];exact e.keep a u h n np,e.new,e.no⟩
theorem dh.le{m0:Mp}{H0:Hp}(e:dh p m0 H0 m H)(h:∀ a o,H a=some o->H' a=some o):dh p m0 H0 m H':=⟨e.len,e.at_,e.P,fun a u q n np=>h a u (e.keep a u q n np),e.new,e.no⟩
theorem Rep.le(h:∀ a o,H a=some o->H' a=some o){v:V}{x:Val}(r:Rep K H m v x):Rep K H' m v x:=r.ext (bH h)
theorem Rel.le(h:∀ a o,H a=some o->H' a=some o)(r:Rel K H m σ ρ st):Rel K H' m σ ρ st:=r.ext (bH h) (r.st.le h)
end
theorem gu{K:PySem.W.Frag}{H:Hp}{m:Mp}{σ:L2.St}{ρ:ae}{st:aa}(r:Rel K H m σ ρ st):∀ vs:List Nat,Rel K H m (wipe σ vs) (bT ρ vs) st
 | []=>r
 |v::vs=>by
  have q:=gu r vs;refine⟨?_,fun i x e=>?_,r.st⟩
  ·unfold wipe bT;rw[zbq,zbq];exact q.len
  ·unfold bT at e;unfold wipe;by_cases h:v=i
   ·subst h;by_cases hl:v<(bT ρ vs).length
    ·rw[zan hl]at e;cases e
    ·rw[zaJ (by simpa using hl)]at e;cases e
   ·rw[zar h]at e⊢;exact q.env i x e
theorem rV(σ:L2.St)(i:Nat):∀ vs:List Nat,(wipe σ vs)[i]?=if i∈vs/\i<σ.length then some none else σ[i]?
 | []=>by simp[wipe]
 |v::vs=>by
  unfold wipe;by_cases h:v=i
  ·subst h;by_cases hl:v<σ.length
   ·rw[zan (by rw[wipe_length];exact hl),zah ⟨zac,hl⟩]
   ·rw[zaJ (by rw[zbq,wipe_length];omega),zaj fun z=>hl z.2,zaJ (by omega)]
  ·rw[zar h,rV σ i vs];by_cases hm:i∈vs
   ·simp[hm]
   ·have:i∉v::vs:=by simp only[zas,not_or];exact⟨fun z=>h z.symm,hm⟩
    rw[zaj fun z=>hm z.1,zaj fun z=>this z.1]
theorem nZ{σ σ':L2.St}{vs:List Nat}(hl:σ'.length=σ.length)(h:∀ i,i∉vs->σ'[i]?=σ[i]?):wipe σ' vs=wipe σ vs:=by
 apply List.ext_getElem?;intro i;rw[rV,rV,hl];by_cases hm:i∈vs
 ·by_cases hi:i<σ.length
  ·rw[zah ⟨hm,hi⟩,zah ⟨hm,hi⟩]
  ·rw[zaj fun z=>hi z.2,zaj fun z=>hi z.2,zaJ (by omega),zaJ (by omega)]
 ·rw[zaj fun z=>hm z.1,zaj fun z=>hm z.1];exact h i hm
theorem mQ(σ:L2.St)(vs:List Nat):wipe (wipe σ vs) vs=wipe σ vs:=nZ (wipe_length σ vs) fun i hi=>by rw[rV,zaj fun z=>hi z.1]
def pF(ft:Val->ae->aa->R ae)(fc:ae->aa->R Bool)(fe:ae->aa->R Val)(ρ:ae):Val->aa->R (Option Val):=fun x st2=>(ft x ρ st2).bind fun ρ1 st3=>(fc ρ1 st3).bind fun b st4=>if b then(fe ρ1 st4).bind fun y st5=>.ok (some y) st5 else .ok none st4
def u7(mu:Bool)(fi:ae->aa->R cC)(ft:Val->ae->aa->R ae)(fc:ae->aa->R Bool)(fe:ae->aa->R Val)(own:List Nat):ae->aa->R Val:=fun ρ st=>(fi ρ st).bind fun p st1=>((cY (pF ft fc fe (bT ρ own)) p.2 p.1 st1).bP).bind fun ys st6=>aU mu ys st6
theorem zB{f:Val->aa->R (Option Val)}{gd:lC}{l:List Val}{st:aa}{zs:List Val}{stf:aa}(h:cY f gd l st= .ok zs stf):gd.ok st:=by
 cases l with
 |nil=>
  unfold cY at h;split at h
  ·assumption
  ·cases h
 |cons x r=>
  unfold cY at h;split at h
  ·assumption
  ·cases h
theorem R.aZ{α β:Type}{r:R α}{f:α->aa->R β}{b:β}{st:aa}(h:r.bind f= .ok b st):∃ a st1,r= .ok a st1/\f a st1= .ok b st:=by
 cases r with
 |ok a st1=>exact⟨a,st1,rfl,h⟩
 |exc _ _=>cases h
 |no=>cases h
section
variable {X:Cx} {W W':WX} {elt tg iter:Expr} {ifs:List Expr} {scope:Scope} {own:List (Str×Nat)} {pos:Pos} {fi:ae->aa->R cC} {ft:Val->ae->aa->R ae} {fc:ae->aa->R Bool} {fe:ae->aa->R Val} {sl:List Nat} {mu:Bool}
theorem BL(hsl:∀ i∈sl,i∈own.map (·.2))(hlen:∀ x ρ st ρ1 st1,ft x ρ st= .ok ρ1 st1->ρ1.length=ρ.length){σ:L2.St}{H:Hp}{Q:VK}(q:DE (gx X) W (u7 mu fi ft fc fe (own.map (·.2))) σ H Q):tLc (DI (gx X) W fi) (DG (gx X) sl ft) (DT (gx X) W' fc) (DE (gx X) W' fe) (own.map (·.2)) σ H Q:=by
 obtain⟨m,ρ,st,r,o⟩:=q;refine⟨m,ρ,st,r,(Out.bind o).imp fun p st1 m1 H1 e1 s1 o1 _ J hJ D hD=>?_⟩;have r1:=r.ext e1 s1;generalize hvs:own.map (·.2)=vs at *
 cases ef:cY (pF ft fc fe (bT ρ vs)) p.2 p.1 st1 with
 |no=>rw[ef]at o1;exact o1.elim
 |exc x s=>rw[ef]at o1;exact o1.elim
 |ok zs stf=>
 rw[ef]at o1;have o1:Out (gx X) W m1 H1 σ (aU mu zs stf) fun x _ m' H'=>∀ v,Rep X.K H' m' v x->Q v H':=o1;have hz:zs.length<=sizeLine:=by
  unfold aU at o1;split at o1
  ·assumption
  ·exact o1.elim
 have nP : ¬ m1.P D:=fun z=>s1.trk D z hD;have nI : ¬ m1.In D:=fun z=>s1.live D z hD;have hPD:(m1.hide D).P D:=.inr rfl;let Pv:Nat->Hp->Prop:=fun i H=>∃ mp st2 acc ys zs',dh D (m1.hide D) (upd H1 D (.lst [])) mp H/\ak X.K H mp st2/\H D=some (.lst acc)/\aW X.K H mp acc ys/\cY (pF ft fc fe (bT ρ vs)) p.2 (p.1.drop i) st2= .ok zs' stf/\zs=ys++zs'
 have late:∀ {mp:Mp} {H2:Hp},dh D (m1.hide D) (upd H1 D (.lst [])) mp H2->Later m1 H1 mp H2:=fun {mp H2} ed=>⟨fun a u h f=>by obtain⟨q1,q2⟩:=kM (o:=.lst []) hD a u h f;exact ed.stay hPD a u q1 q2,ed.len,ed.at_⟩;refine⟨fun i k H=>k=p.1.length-i/\i<=p.1.length/\Pv i H,⟨p.1.length,by simp,za1 _,m1.hide D,st1,[],[],zs,⟨zal _,fun _ _=>.inl rfl,rfl,fun a u h _ _=>h,fun a h n=>absurd h n,nI⟩,rP hD s1,upd_same,.nil,by rw[zbc];exact ef,rfl⟩,?_⟩;rintro i k H2 ⟨rfl,hi,mp,st2,acc,ys,zs',ed,s2,hD2,ra,ef2,ez⟩;have gd:=zB ef2;have lt:=late ed;have hPmp:mp.P D:=by rw[ed.P];exact hPD
 have rl:Rel X.K H2 mp σ ρ st2:=⟨r.len,fun j x e=>by obtain⟨v,h1,h2⟩:=r1.env j x e;exact⟨v,h1,h2.late lt⟩,s2⟩;by_cases hlt:i<p.1.length
 ·refine .inr ⟨hJ.go i mp H2 st2 lt s2 gd hlt,Pv (i+1),fun H' h'=>⟨p.1.length-(i+1),by omega,rfl,hlt,h'⟩,fun x H' y=>?_⟩;have hv:p.1[i]?=some p.1[i]:=by simp[hlt]
  obtain⟨le,rx⟩:=hJ.yld i mp H2 st2 x H' p.1[i] lt s2 gd hv y;rw[za4 hlt]at ef2;unfold cY at ef2;rw[zah gd]at ef2;obtain⟨oy,st3,et,ef2⟩:=R.aZ ef2;obtain⟨yr,st4,er,ef3⟩:=R.aZ ef2;cases ef3;unfold pF at et;obtain⟨ρ1,st5,eg,et⟩:=R.aZ et;obtain⟨b,st6,ec,et⟩:=R.aZ et;refine⟨mp,bT ρ vs,st2,p.1[i],(gu rl vs).le le,rx,?_⟩;rw[eg];intro m3 H3 e3 s3 σ3 r3 n3;have len3:σ3.length=(wipe σ vs).length:=by have q1:=r3.len;have q2:=(gu rl vs).len;rw[q1,q2,hlen _ _ _ _ _ eg]
  refine⟨(nZ len3 fun j hj=>n3 j fun z=>hj (hsl j z)).trans (mQ σ vs),m3,ρ1,st5,r3,?_⟩;rw[ec];intro m4 H4 e4 s4;have ed4:dh D (m1.hide D) (upd H1 D (.lst [])) m4 H4:=by have q:=ed.le le;have n4 : ¬ m4.In D:=fun z=>s4.np D z (by rw[e4.P,e3.P];exact hPmp);have n3' : ¬ m3.In D:=fun z=>s3.np D z (by rw[e3.P];exact hPmp);exact(q.trans (e3.d n3')).trans (e4.d n4)
  have nI2 : ¬ mp.In D:=ed.no;have nI3 : ¬ m3.In D:=fun z=>s3.np D z (by rw[e3.P];exact hPmp);have hD4:H4 D=some (.lst acc):=e4.keep D _ (e3.keep D _ (le D _ hD2) nI2) nI3;have ra4:aW X.K H4 m4 acc ys:=aW.ext e4 (aW.ext e3 (Paired.mapP ra fun _ _ z=>z.le le));cases b with
  |false=>dsimp only;rw[zaj (by simp)]at et⊢;cases et;exact⟨m4,_,acc,ys,yr,ed4,s4,hD4,ra4,er,by simpa using ez⟩
  |true=>
   dsimp only;rw[zah rfl]at et⊢;obtain⟨y,st7,ee,et⟩:=R.aZ et;cases et;refine⟨m4,ρ1,st6,r3.ext e4 s4,?_⟩;rw[ee];intro m5 H5 e5 s5 u ru;have hP5:m5.P D:=by rw[e5.P,e4.P,e3.P];exact hPmp
   have n5 : ¬ m5.In D:=fun z=>s5.np D z hP5;have n4 : ¬ m4.In D:=fun z=>s4.np D z (by rw[e4.P,e3.P];exact hPmp);refine⟨acc,e5.keep D _ hD4 n4,?_,m5,_,acc++[u],ys++[y],yr,(ed4.trans (e5.d n5)).upd,zA hP5 s5,upd_same,?_,er,?_⟩
   ·have q:=zao ra;have q2:zs.length=ys.length+(1+yr.length):=by rw[ez];simp;omega
    omega
   ·exact bM (Paired.mapP (aW.ext e5 ra4) fun _ _ z=>nY hP5 z) (.cons (nY hP5 ru) .nil)
   ·rw[ez];simp
 ·obtain rfl:i=p.1.length:=by omega
  refine .inl ⟨hJ.stop mp H2 st2 lt s2 gd,?_⟩;rw[zbm]at ef2;unfold cY at ef2;rw[zah gd]at ef2;cases ef2;rw[zau]at ez;subst ez;have q:=wL (g:=gx X) (yx (K:=X.K) ed.P nP s2) (Paired.mapP ra fun _ _ z=>qp ed.P z) (Out.from (u6 hD ed) o1);have q2:=q.2 D rR;rw[wO hD2]at q2;exact q2
end
section
variable {X:Cx} {W W':WX} {elt tg iter a b e:Expr} {es ifs:List Expr} {scope:Scope} {own:List (Str×Nat)} {pos spos p2:Pos} {fa fb fe:ae->aa->R Val} {fi:ae->aa->R cC} {ft:Val->ae->aa->R ae} {fc:ae->aa->R Bool} {sl:List Nat} {mu:Bool}
theorem kN{e:Expr}(h:aG e=true)(env:Env)(x:Value):foldedSetIterable e env x=pure x:=by cases e <;> first |rfl |(cases h)
theorem MK(C:bQ X)(hp:aG iter=true)(hi:tD X W tg iter fi)(ok:BlkOk X.N X.env.scope scope own)
 (hg:∀ (s:Shared) (H:Hp) (C:Addr) (cl:List (Str×Addr)) (fp:List Addr),PG (X.blk s H scope (compEnvC scope cl C X.env) fp) tg (DG (gx X) sl ft))
 (ht:∀ (s:Shared) (H:Hp) (C:Addr) (cl:List (Str×Addr)) (fp:List Addr),PTs (X.blk s H scope (compEnvC scope cl C X.env) fp) ifs (DT (gx X) W' fc))
 (he:∀ (s:Shared) (H:Hp) (C:Addr) (cl:List (Str×Addr)) (fp:List Addr),PE (X.blk s H scope (compEnvC scope cl C X.env) fp) elt (DE (gx X) W' fe))
 (hsl:∀ i∈sl,i∈own.map (·.2)) (hlen:∀ x ρ st ρ1 st1,ft x ρ st= .ok ρ1 st1->ρ1.length=ρ.length) :
 GE X W (.ListComp elt [⟨tg,iter,ifs,0⟩] scope pos) (u7 mu fi ft fc fe (own.map (·.2))):=PEw (pe_lc C.calm C.nd hi ok hg ht he fun x=>kN hp _ x) fun _ _ _ q=>BL hsl hlen q
theorem ML:PTs X [] (DT (gx X) W fun _ st=>.ok true st):=⟨fun pins s σ H Q I q=>pts_nil.run pins s σ H Q I (by obtain⟨m,ρ,st,r,o⟩:=q;exact Out.here o r.st)⟩
theorem MM(h:GT X W a (bZ fa)):PTs X [a] (DT (gx X) W (bZ fa)):=pts_one h
def DP(g:Gx)(W:WX)(f:ae->aa->R (List Val×List Val)):L2.St->Hp->(List (V×V)->Hp->Prop)->Prop:=fun σ H Q=>∃ m ρ st,Rel g.K H m σ ρ st/\Out g W m H σ (f ρ st) fun p _ m' H'=>∀ ks vs,aW g.K H' m' ks p.1->aW g.K H' m' vs p.2->Q (ks.zip vs) H'
structure Fd (X:Cx) (W:WX) (pos:Pos) (keys:List (Option Expr)) (values:List Expr) (f:ae->aa->R (List Val×List Val)):Prop where
 run:∃ trs,PPs X pos keys values trs/\∀ σ H Q,DP (gx X) W f σ H Q->tPairs trs σ H Q
 all:keys.all (·.isSome)=true
 len:keys.length=values.length
theorem QF{pos:Pos}:Fd X W pos [] [] (fun _ st=>.ok ([],[]) st):=⟨⟨[],pps_nil,fun σ H Q q=>by obtain⟨m,ρ,st,r,o⟩:=q;exact Out.here o r.st [] [] .nil .nil⟩,rfl,rfl⟩
theorem MN{pos:Pos}{ks:List (Option Expr)}{vs:List Expr}{fr:ae->aa->R (List Val×List Val)}(ha:GE X W a fa)(hb:GE X W b fb)(hr:Fd X W pos ks vs fr):
 Fd X W pos (some a::ks) (b::vs) (fun ρ st=>(fa ρ st).bind fun x st1=>(fb ρ st1).bind fun y st2=>(fr ρ st2).bind fun p st3=>.ok (x::p.1,y::p.2) st3):=by
 obtain⟨⟨trs,h1,h2⟩,h3,h4⟩:=hr;refine⟨⟨_,pps_cons ha hb h1,fun σ H Q q=>?_⟩,by simpa using h3,by simpa using h4⟩;obtain⟨m,ρ,st,r,o⟩:=q;refine⟨m,ρ,st,r,(Out.bind o).imp fun x st1 m1 H1 e1 s1 o1 u ru=>?_⟩;refine⟨m1,ρ,st1,r.ext e1 s1,(Out.bind o1).imp fun y st2 m2 H2 e2 s2 o2 t rt=>?_⟩;refine h2 _ _ _ ⟨m2,ρ,st2,(r.ext e1 s1).ext e2 s2,(Out.bind o2).imp fun p st3 m3 H3 e3 s3 o3 ks vs rk rv=>?_⟩;have:=Out.here o3 s3 (u::ks) (t::vs) (.cons ((ru.ext e2).ext e3) rk) (.cons (rt.ext e3) rv);exact this
theorem zC{K:PySem.W.Frag}{H:Hp}{m:Mp}:∀ {ks vs:List V} {xs ys:List Val} {kvs:List (PyData×Val)},aW K H m ks xs->aW K H m vs ys->jq xs ys=some kvs->
 ∃ es:List (Key×V),ks.zip vs=es.map (fun kv=>(kV kv.1,kv.2))/\bX K H m es kvs
 |_,_,[],[],kvs,.nil,.nil,h=>by cases h;exact⟨[],rfl,.nil⟩
 |_,_,.d k::xs,y::ys,kvs,.cons rk r1,.cons rv r2,h=>by
  unfold jq at h;split at h
  ·rename_i hk;cases q:jq xs ys with
   |none=>rw[q]at h;cases h
   |some kvs'=>rw[q]at h;cases h;obtain⟨es,e1,e2⟩:=zC r1 r2 q;obtain⟨k',h1,rfl⟩:=nU (cN rk) hk;exact⟨(k',_)::es,by rw[List.zip_cons_cons,e1];rfl,.cons ⟨h1,rv⟩ e2⟩
  ·cases h
 |_,_,[],_::_,_,.nil,.cons _ _,h=>by cases h
 |_,_,.d _::_,[],_,.cons _ _,.nil,h=>by cases h
 |_,_,.loc _::_,_,_,.cons _ _,_,h=>by unfold jq at h;cases h
 |_,_,.bW _::_,_,_,.cons _ _,_,h=>by unfold jq at h;cases h
 |_,_,.xc _ _::_,_,_,.cons _ _,_,h=>by unfold jq at h;cases h
 |_,_,.td _::_,_,_,.cons _ _,_,h=>by unfold jq at h;cases h
 |_,_,.dN _ _::_,_,_,.cons _ _,_,h=>by unfold jq at h;cases h
 |_,_,.eo _ _::_,_,_,.cons _ _,_,h=>by unfold jq at h;cases h
theorem pG{K:PySem.W.Frag}{H:Hp}{m:Mp}{es:List (Key×V)}{kvs:List (PyData×Val)}(h:bX K H m es kvs):es.length=kvs.length:=zao h
theorem gk{K:PySem.W.Frag}{H H':Hp}{m m':Mp}(f:∀ v x,Rep K H m v x->Rep K H' m' v x){es:List (Key×V)}{kvs:List (PyData×Val)}(h:bX K H m es kvs):bX K H' m' es kvs:=Paired.mapP h fun _ _ z=>⟨z.1,f _ _ z.2⟩
theorem qq{K:PySem.W.Frag}{H:Hp}{m:Mp}:∀ {es acc:List (Key×V)} {kvs acc':List (PyData×Val)},bX K H m acc acc'->bX K H m es kvs->bX K H m (mergeK acc es) (aq acc' kvs)
 | [],acc,[],acc',h,.nil=>h
 |(k,v)::es,acc,(k',x)::kvs,acc',h,.cons h1 h2=>by obtain⟨e1,r1⟩:=h1;have e1:keyD k=k':=e1;subst e1;have q:bX K H m (putK acc k v) (aq acc' [(keyD k,x)]):=wJ r1 h;show bX K H m (mergeK (putK acc k v) es) (aq (aq acc' [(keyD k,x)]) kvs);exact qq q h2
theorem BN{g:Gx}{m:Mp}{H:Hp}{σ:L2.St}{st:aa}{ks vs:List Val}{xs ys:List V}{Q:VK}(s:ak g.K H m st)(r1:aW g.K H m xs ks)(r2:aW g.K H m ys vs)(o:Out g W m H σ (gy mu ks vs st) fun x _ m' H'=>∀ v,Rep g.K H' m' v x->Q v H'):
 ∃ es:List (Key×V),xs.zip ys=es.map (fun kv=>(kV kv.1,kv.2))/\es.length<=15/\∀ p,H p=none->Q (.ref p) (upd H p (.dK (mergeK [] es))):=by
 unfold gy at o;split at o
 ·rename_i kvs hz;obtain⟨es,e1,e2⟩:=zC r1 r2 hz;split at o
  ·rename_i hl;have rm:bX g.K H m (mergeK [] es) (aq [] kvs):=qq .nil e2;refine⟨es,e1,by rw[pG e2];exact hl,fun p hp=>?_⟩;split at o
   ·have c:dH g.K (upd H p (.dK (mergeK [] es))) (m.push p) p (.dct (aq [] kvs)):=⟨_,upd_same,gk (fun _ _ z=>z.ext (eU hp)) rm⟩;exact o _ _ (eU hp) (kL s hp c) _ (j8 s.len)
   ·split at o
    ·rename_i ds hds;have e:=bH (m:=m) (bf (o:=.dK (mergeK [] es)) hp);refine o _ _ e (s.le (bf hp)) _ (.d (.dct ⟨upd_same,s.frz hp⟩ ?_));exact jQ (gk (fun _ _ z=>z.ext e) rm) hds
    ·exact o.elim
  ·exact o.elim
 ·exact o.elim
theorem QG{keys:List (Option Expr)}{values:List Expr}{fr:ae->aa->R (List Val×List Val)}(h:Fd X W pos keys values fr)(h0:keys≠[])(h15:keys.length<=15):
 GE X W (.Dict keys values pos) (fun ρ st=>(fr ρ st).bind fun p st1=>gy mu p.1 p.2 st1):=by
 obtain⟨⟨trs,h1,h2⟩,h3,h4⟩:=h;refine PEw (pe_disp h1 h3 h4 h0 h15) fun σ H Q q p hp=>?_;obtain⟨m,ρ,st,r,o⟩:=q;refine h2 _ _ _ ⟨m.hide p,ρ,st,HX hp r,?_⟩;dsimp only at o;have nP : ¬ m.P p:=fun z=>r.st.trk p z hp;have nI : ¬ m.In p:=fun z=>r.st.live p z hp;cases e:fr ρ st with
 |no=>rw[e]at o;exact o
 |exc x st1=>rw[e]at o;intro m' H' cls dd ex s er;have n' : ¬ m'.In p:=fun z=>s.np p z (by rw[ex.P];exact .inr rfl);exact o _ _ cls dd (HY hp nI (ex.d n')) (Ia ex.P s) (er.stay (u4 ex.P) (zal _) fun _ _=>.inl rfl)
 |ok pp st1=>
  rw[e]at o;intro m' H' ex s ks vs rk rv;have hP:m'.P p:=by rw[ex.P];exact .inr rfl
  have n' : ¬ m'.In p:=fun z=>s.np p z hP;have ed:=ex.d n';obtain⟨es,e1,e2,e3⟩:=BN (g:=gx X) (yx (K:=X.K) ed.P nP s) (Paired.mapP rk fun _ _ z=>qp ed.P z) (Paired.mapP rv fun _ _ z=>qp ed.P z) (Out.from (u6 hp ed) o);refine⟨ex.keep p _ upd_same nI,es,e1,e2,?_⟩;have q:=e3 p rR;rw[QE]at q;exact q
theorem MO:GE X W (.Dict [] [] pos) (fun ρ st=>(R.ok (([]:List Val),([]:List Val)) st).bind fun p st1=>gy mu p.1 p.2 st1):=PEw pe_dnewK fun σ H Q q=>by
 obtain⟨m,ρ,st,r,o⟩:=q;intro p hp;obtain⟨es,e1,e2,e3⟩:=BN (xs:=[]) (ys:=[]) r.st .nil .nil o;have:es=[]:=by
  cases es with
  |nil=>rfl
  |cons _ _=>cases e1
 subst this;exact e3 p hp
def Ll(X:Cx)(x:Str)(kvs:List (PyData×PyData)):Prop:=∃ a es n,X.mg x=some (.ref a)/\KDict X.K X.w a es n/\ ∀ z:Str,(gp kvs z=none/\PySem.W.nsIn X.K a z=some none)\/∃ d u v,gp kvs z=some d/\PySem.W.nsIn X.K a z=some (some u)/\RelV v u/\∀ H m,bG X.K H m v d
theorem QH{x:Str}{kvs:List (PyData×PyData)}(hg:Gl X x)(hd:(x == ("__debug__" : Str))=false)(h:Ll X x kvs)(hp:aG a=true)(ha:GE X W a fa):
 GE X W (.Subscript (.Name x p2) a pos) (fun ρ st=>(fa ρ st).bind fun v st1=>match v with
 | .d (.str x)=>match gp kvs x with
   |some d=>.ok (.d d) st1
   |none=>.no
 |_=>.no):=by
 obtain⟨A,es,n,hm,D,hk⟩:=h;have hb:PE X (.Name x p2) (tC (.ref A)):=L2.pe_glob hg hm rfl hd;refine PEw (pe_ix ix_kdict hb ha (Lj hp)) fun σ H Q q=>?_;obtain⟨m,ρ,st,r,o⟩:=q;refine⟨m,ρ,st,r,(Out.bind o).imp fun v st1 m1 H1 e1 s1 o1 x rx=>?_⟩;dsimp only at o1;split at o1
 ·rename_i z;obtain rfl:=aQ rx;rcases hk z with⟨h1,h2⟩|⟨d,u,v,h1,h2,h3,h4⟩
  ·rw[h1]at o1;exact o1.elim
  ·rw[h1]at o1;exact⟨A,z,v,rfl,rfl,⟨es,n,u,D.at_,D.lit,h2,h3⟩,Out.here o1 s1 _ (.d (h4 _ _))⟩
 ·exact o1.elim
end
def u9(ft:Val->ae->aa->R ae)(fc:ae->aa->R Bool)(fk fe:ae->aa->R Val)(ρ:ae):Val->aa->R (Option (Val×Val)):=fun x st2=>(ft x ρ st2).bind fun ρ1 st3=>(fc ρ1 st3).bind fun b st4=>if b then(fk ρ1 st4).bind fun y st5=>(fe ρ1 st5).bind fun z st6=>.ok (some (y,z)) st6 else .ok none st4
def zD(mu:Bool)(fi:ae->aa->R cC)(ft:Val->ae->aa->R ae)(fc:ae->aa->R Bool)(fk fe:ae->aa->R Val)(own:List Nat):ae->aa->R Val:=fun ρ st=>(fi ρ st).bind fun p st1=>((gR (u9 ft fc fk fe (bT ρ own)) p.2 p.1 st1).bP).bind fun ys st6=>qm mu ys st6
theorem Il{f:Val->aa->R (Option (Val×Val))}{gd:lC}{l:List Val}{st:aa}{zs:List (Val×Val)}{stf:aa}(h:gR f gd l st= .ok zs stf):gd.ok st:=by
 cases l with
 |nil=>
  unfold gR at h;split at h
  ·assumption
  ·cases h
 |cons x r=>
  unfold gR at h;split at h
  ·assumption
  ·cases h
theorem lY:∀ {a b:List (Val×Val)} {k:List (PyData×Val)},gS (a++b)=some k->∃ k1 k2,gS a=some k1/\gS b=some k2/\k=k1++k2
 | [],b,k,h=>⟨[],k,rfl,h,rfl⟩
 |(.d x,v)::a,b,k,h=>by
  have h:(if isKey x=true then(gS (a++b)).map ((x,v)::·)else none)=some k:=h;split at h
  ·rename_i hk;cases e:gS (a++b)with
   |none=>rw[e]at h;cases h
   |some k'=>rw[e]at h;cases h;obtain⟨k1,k2,e1,e2,e3⟩:=lY e;exact⟨(x,v)::k1,k2,by unfold gS;rw[zah hk,e1];rfl,e2,by rw[e3];rfl⟩
  ·cases h
 |(.loc _,v)::a,b,k,h=>by cases h
 |(.bW _,v)::a,b,k,h=>by cases h
 |(.xc _ _,v)::a,b,k,h=>by cases h
 |(.td _,v)::a,b,k,h=>by cases h
 |(.dN _ _,v)::a,b,k,h=>by cases h
 |(.eo _ _,v)::a,b,k,h=>by cases h
theorem tE{α:Type}:∀ (es acc:List (PyData×α)) (p:PyData×α),aq acc (es++[p])=aq (aq acc es) [p]
 | [],_,_=>rfl
 |(k,v)::es,acc,p=>by show aq _ (es++[p])=aq (aq _ es) [p];exact tE es _ p
theorem vf{α:Type}:∀ (es acc:List (PyData×α)),(aq acc es).length<=acc.length+es.length
 | [],acc=>zal _
 |(k,v)::es,acc=>by
  unfold aq;refine zbw (vf es _) ?_;split
  ·simp <;> omega
  ·simp <;> omega
theorem Vo{g:Gx}{mu:Bool}{m:Mp}{H:Hp}{σ:L2.St}{st:aa}{zs:List (Val×Val)}{kvs:List (PyData×Val)}{es:List (Key×V)}{Q:VK}(s:ak g.K H m st)(hz:gS zs=some kvs)(rm:bX g.K H m es (aq [] kvs))(o:Out g W m H σ (qm mu zs st) fun x _ m' H'=>∀ v,Rep g.K H' m' v x->Q v H'):
 ∀ p,H p=none->Q (.ref p) (upd H p (.dK es)):=by
 intro p hp;unfold qm at o;rw[hz]at o;dsimp only at o;split at o
 ·split at o
  ·have c:dH g.K (upd H p (.dK es)) (m.push p) p (.dct (aq [] kvs)):=⟨_,upd_same,gk (fun _ _ z=>z.ext (eU hp)) rm⟩;exact o _ _ (eU hp) (kL s hp c) _ (j8 s.len)
  ·split at o
   ·rename_i ds hds;have e:=bH (m:=m) (bf (o:=.dK es) hp);refine o _ _ e (s.le (bf hp)) _ (.d (.dct ⟨upd_same,s.frz hp⟩ ?_));exact jQ (gk (fun _ _ z=>z.ext e) rm) hds
   ·exact o.elim
 ·exact o.elim
theorem key_of{K:PySem.W.Frag}{H:Hp}{m:Mp}{x:V}{d:PyData}(h:Rep K H m x (.d d))(hk:isKey d=true):∃ k:Key,x=kV k/\keyD k=d:=by
 cases d with
 |int i=>exact⟨.inl i,ay h,rfl⟩
 |str z=>exact⟨.inr z,aQ h,rfl⟩
 |_=>cases hk
section
variable {X:Cx} {W W':WX} {kx vx tg iter:Expr} {ifs:List Expr} {scope:Scope} {own:List (Str×Nat)} {pos:Pos} {fi:ae->aa->R cC} {ft:Val->ae->aa->R ae} {fc:ae->aa->R Bool} {fk fe:ae->aa->R Val} {sl:List Nat} {mu:Bool}
theorem Im(hsl:∀ i∈sl,i∈own.map (·.2))(hlen:∀ x ρ st ρ1 st1,ft x ρ st= .ok ρ1 st1->ρ1.length=ρ.length){σ:L2.St}{H:Hp}{Q:VK}(q:DE (gx X) W (zD mu fi ft fc fk fe (own.map (·.2))) σ H Q):tDc (DI (gx X) W fi) (DG (gx X) sl ft) (DT (gx X) W' fc) (DE (gx X) W' fk) (DE (gx X) W' fe) (own.map (·.2)) σ H Q:=by
 obtain⟨m,ρ,st,r,o⟩:=q;refine⟨m,ρ,st,r,(Out.bind o).imp fun p st1 m1 H1 e1 s1 o1 _ J hJ D hD=>?_⟩;have r1:=r.ext e1 s1;generalize hvs:own.map (·.2)=vs at *
 cases ef:gR (u9 ft fc fk fe (bT ρ vs)) p.2 p.1 st1 with
 |no=>rw[ef]at o1;exact o1.elim
 |exc x s=>rw[ef]at o1;exact o1.elim
 |ok zs stf=>
 rw[ef]at o1;have o1:Out (gx X) W m1 H1 σ (qm mu zs stf) fun x _ m' H'=>∀ v,Rep X.K H' m' v x->Q v H':=o1;obtain⟨kall,hka,hz⟩:∃ kall,gS zs=some kall/\kall.length<=sizeLine:=by
  unfold qm at o1;split at o1
  ·rename_i kv e;split at o1
   ·exact⟨_,e,by assumption⟩
   ·exact o1.elim
  ·exact o1.elim
 have nP : ¬ m1.P D:=fun z=>s1.trk D z hD;have nI : ¬ m1.In D:=fun z=>s1.live D z hD;have hPD:(m1.hide D).P D:=.inr rfl;let Pv:Nat->Hp->Prop:=fun i H=>∃ mp st2 acc ys kys zs',dh D (m1.hide D) (upd H1 D (.dK [])) mp H/\ak X.K H mp st2/\H D=some (.dK acc)/\gS ys=some kys/\bX X.K H mp acc (aq [] kys)/\gR (u9 ft fc fk fe (bT ρ vs)) p.2 (p.1.drop i) st2= .ok zs' stf/\zs=ys++zs'
 have late:∀ {mp:Mp} {H2:Hp},dh D (m1.hide D) (upd H1 D (.dK [])) mp H2->Later m1 H1 mp H2:=fun {mp H2} ed=>⟨fun a u h f=>by obtain⟨q1,q2⟩:=kM (o:=.dK []) hD a u h f;exact ed.stay hPD a u q1 q2,ed.len,ed.at_⟩;refine⟨fun i k H=>k=p.1.length-i/\i<=p.1.length/\Pv i H,⟨p.1.length,by simp,za1 _,m1.hide D,st1,[],[],[],zs,⟨zal _,fun _ _=>.inl rfl,rfl,fun a u h _ _=>h,fun a h n=>absurd h n,nI⟩,rP hD s1,upd_same,rfl,.nil,by rw[zbc];exact ef,rfl⟩,?_⟩;rintro i k H2 ⟨rfl,hi,mp,st2,acc,ys,kys,zs',ed,s2,hD2,hky,ra,ef2,ez⟩;have gd:=Il ef2;have lt:=late ed;have hPmp:mp.P D:=by rw[ed.P];exact hPD
 have rl:Rel X.K H2 mp σ ρ st2:=⟨r.len,fun j x e=>by obtain⟨v,h1,h2⟩:=r1.env j x e;exact⟨v,h1,h2.late lt⟩,s2⟩;by_cases hlt:i<p.1.length
 ·refine .inr ⟨hJ.go i mp H2 st2 lt s2 gd hlt,Pv (i+1),fun H' h'=>⟨p.1.length-(i+1),by omega,rfl,hlt,h'⟩,fun x H' y=>?_⟩;have hv:p.1[i]?=some p.1[i]:=by simp[hlt]
  obtain⟨le,rx⟩:=hJ.yld i mp H2 st2 x H' p.1[i] lt s2 gd hv y;rw[za4 hlt]at ef2;unfold gR at ef2;rw[zah gd]at ef2;obtain⟨oy,st3,et,ef2⟩:=R.aZ ef2;obtain⟨yr,st4,er,ef3⟩:=R.aZ ef2;cases ef3;unfold u9 at et;obtain⟨ρ1,st5,eg,et⟩:=R.aZ et;obtain⟨b,st6,ec,et⟩:=R.aZ et;refine⟨mp,bT ρ vs,st2,p.1[i],(gu rl vs).le le,rx,?_⟩;rw[eg];intro m3 H3 e3 s3 σ3 r3 n3;have len3:σ3.length=(wipe σ vs).length:=by have q1:=r3.len;have q2:=(gu rl vs).len;rw[q1,q2,hlen _ _ _ _ _ eg]
  refine⟨(nZ len3 fun j hj=>n3 j fun z=>hj (hsl j z)).trans (mQ σ vs),m3,ρ1,st5,r3,?_⟩;rw[ec];intro m4 H4 e4 s4;have ed4:dh D (m1.hide D) (upd H1 D (.dK [])) m4 H4:=by have q:=ed.le le;have n4 : ¬ m4.In D:=fun z=>s4.np D z (by rw[e4.P,e3.P];exact hPmp);have n3' : ¬ m3.In D:=fun z=>s3.np D z (by rw[e3.P];exact hPmp);exact(q.trans (e3.d n3')).trans (e4.d n4)
  have nI2 : ¬ mp.In D:=ed.no;have nI3 : ¬ m3.In D:=fun z=>s3.np D z (by rw[e3.P];exact hPmp);have hD4:H4 D=some (.dK acc):=e4.keep D _ (e3.keep D _ (le D _ hD2) nI2) nI3;have ra4:bX X.K H4 m4 acc (aq [] kys):=bX.ext e4 (bX.ext e3 (gk (fun _ _ z=>z.le le) ra));cases b with
  |false=>dsimp only;rw[zaj (by simp)]at et⊢;cases et;exact⟨m4,_,acc,ys,kys,yr,ed4,s4,hD4,hky,ra4,er,by simpa using ez⟩
  |true=>
   dsimp only;rw[zah rfl]at et⊢;obtain⟨y,st7,ee,et⟩:=R.aZ et;obtain⟨z,st8,ev,et⟩:=R.aZ et;cases et;refine⟨m4,ρ1,st6,r3.ext e4 s4,?_⟩;rw[ee];intro m5 H5 e5 s5 u ru;refine⟨m5,ρ1,st7,(r3.ext e4 s4).ext e5 s5,?_⟩;rw[ev];intro m6 H6 e6 s6 w rw';have hP5:m5.P D:=by rw[e5.P,e4.P,e3.P];exact hPmp
   have hP6:m6.P D:=by rw[e6.P];exact hP5
   have n5 : ¬ m5.In D:=fun z=>s5.np D z hP5;have n6 : ¬ m6.In D:=fun z=>s6.np D z hP6;have n4 : ¬ m4.In D:=fun z=>s4.np D z (by rw[e4.P,e3.P];exact hPmp);have hD6:=e6.keep D _ (e5.keep D _ hD4 n4) n5;have ez2:zs=(ys++[(y,z)])++yr:=by rw[ez];simp
   rw[ez2]at hka;obtain⟨k1,k2,q1,q2,q3⟩:=lY hka;obtain⟨k3,k4,q4,q5,q6⟩:=lY q1;rw[hky]at q4;cases q4;have ru6:=Rep.ext e6 ru;have ra6:bX X.K H6 m6 acc (aq [] kys):=bX.ext e6 (bX.ext e5 ra4);have key:∃ d,y= .d d/\isKey d=true/\k4=[(d,z)]:=by
    cases y with
    |d d=>
     have q5:(if isKey d=true then some [(d,z)]else none)=some k4:=q5;split at q5
     ·cases q5;exact⟨d,rfl,by assumption,rfl⟩
     ·cases q5
    |_=>cases q5
   obtain⟨d,rfl,hkd,rfl⟩:=key;obtain⟨kk,rfl,ek⟩:=key_of ru6 hkd;have hlen2:acc.length<sizeLine:=by
    have l1:=pG ra6;have l2:=vf kys ([]:List (PyData×Val));simp at l2;have:kall.length=(kys.length+1)+k2.length:=by rw[q3,q6];simp;omega
    omega
   refine⟨acc,kk,rfl,hD6,hlen2,m6,_,putK acc kk w,ys++[(.d d,z)],k1,yr,((ed4.trans (e5.d n5)).trans (e6.d n6)).upd,zA hP6 s6,upd_same,q1,?_,er,ez2⟩;rw[q6,tE];have rr:=wJ (k:=kk) rw' ra6;rw[ek]at rr;exact gk (fun _ _ z=>nY hP6 z) rr
 ·obtain rfl:i=p.1.length:=by omega
  refine .inl ⟨hJ.stop mp H2 st2 lt s2 gd,?_⟩;rw[zbm]at ef2;unfold gR at ef2;rw[zah gd]at ef2;cases ef2;rw[zau]at ez;subst ez;have q:=Vo (g:=gx X) (yx (K:=X.K) ed.P nP s2) hky (gk (fun _ _ z=>qp ed.P z) ra) (Out.from (u6 hD ed) o1);have q2:=q D rR;rw[wO hD2]at q2;exact q2
theorem Io(C:bQ X)(hp:aG iter=true)(hi:tD X W tg iter fi)(ok:BlkOk X.N X.env.scope scope own)
 (hg:∀ (s:Shared) (H:Hp) (C:Addr) (cl:List (Str×Addr)) (fp:List Addr),PG (X.blk s H scope (compEnvC scope cl C X.env) fp) tg (DG (gx X) sl ft))
 (ht:∀ (s:Shared) (H:Hp) (C:Addr) (cl:List (Str×Addr)) (fp:List Addr),PTs (X.blk s H scope (compEnvC scope cl C X.env) fp) ifs (DT (gx X) W' fc))
 (hk:∀ (s:Shared) (H:Hp) (C:Addr) (cl:List (Str×Addr)) (fp:List Addr),PE (X.blk s H scope (compEnvC scope cl C X.env) fp) kx (DE (gx X) W' fk))
 (he:∀ (s:Shared) (H:Hp) (C:Addr) (cl:List (Str×Addr)) (fp:List Addr),PE (X.blk s H scope (compEnvC scope cl C X.env) fp) vx (DE (gx X) W' fe))
 (hsl:∀ i∈sl,i∈own.map (·.2)) (hlen:∀ x ρ st ρ1 st1,ft x ρ st= .ok ρ1 st1->ρ1.length=ρ.length) :
 GE X W (.DictComp kx vx [⟨tg,iter,ifs,0⟩] scope pos) (zD mu fi ft fc fk fe (own.map (·.2))):=PEw (pe_dc C.calm C.nd hi ok hg ht hk he fun x=>kN hp _ x) fun _ _ _ q=>Im hsl hlen q
def Fe(fa:ae->aa->R Val):ae->aa->R cC:=fun ρ st=>(fa ρ st).bind fun v st1=>match v with
    | .loc n=>match st1[n]? with
      |some (.dct kvs)=>match bY kvs with
       |some ds=>.ok (ds.map fun p=>Val.d (.tuple [p.1,p.2]),none) (st1.set n .dead)
       |none=>.no
      |_=>.no
    |_=>.no
theorem Lm{K:PySem.W.Frag}{H:Hp}{m:Mp}:∀ {es:List (Key×V)} {ds:List (PyData×PyData)} {i:Nat} {k:Key} {v:V},eE K H m es ds->es[i]?=some (k,v)->∃ d,ds[i]?=some (keyD k,d)/\bG K H m v d
 |_,_,i,k,v,.nil,h=>by simp at h
 |_,_,0,k,v,.cons h1 h2,h=>by cases h;exact⟨_,rfl,h1⟩
 |_,_,i+1,k,v,.cons h1 h2,h=>by obtain⟨d,e,r⟩:=Lm (i:=i) h2 (by simpa using h);exact⟨d,by simpa using e,r⟩
theorem qt{K:PySem.W.Frag}{H:Hp}{m:Mp}:∀ {es:List (Key×V)} {ds:List (PyData×PyData)},eE K H m es ds->es.length=ds.length
 |_,_,.nil=>rfl
 |_,_,.cons h1 h2=>by simp[qt h2]
theorem MP{K:PySem.W.Frag}{H:Hp}{m:Mp}:∀ k:Key,bG K H m (kV k) (keyD k)
 | .inl i=>.int i
 | .inr x=>.str x
theorem CT{g:Gx}{m1:Mp}{H1:Hp}{d:Addr}{o:Obj}{es:List (Key×V)}{ds:List (PyData×PyData)}(h1:H1 d=some (.frz o (.dK es)))(f:lB m1 d)(h2:eE g.K H1 m1 es ds):tX g m1 H1 (Ic d o es) (ds.map fun p=>Val.d (.tuple [p.1,p.2]),none) where
 go:=fun i m2 H2 st2 l s _ hi=>⟨(l.stay _ _ h1 f).1,by rw[qt h2];simpa using hi⟩
 stop:=fun m2 H2 st2 l s _=>⟨(l.stay _ _ h1 f).1,by rw[qt h2];simp⟩
 yld:=fun i m2 H2 st2 x H' v l s _ hv y=>by obtain⟨k,u,hk,n⟩:=y;obtain⟨e,he,re⟩:=Lm h2 hk;have hv:(ds.map fun p=>Val.d (.tuple [p.1,p.2]))[i]?=some v:=hv;rw[zat,he]at hv;cases hv;exact Ih s n (MP k) (re.stay l.stay)
theorem Ip{elts:List Expr}{kk:Nat}{tpos apos cpos:Pos}{e:Expr}{fa:ae->aa->R Val}(hb:eK e=true)(hl:(apos.endLine == cpos.line)=true)(ha:GE X W e fa):tD X W (.Tuple elts kk tpos) (.Call (.Attribute e "items" apos) [] [] cpos) (Fe fa):=
 Lk (E7 ha (lM hb _ _) hl) fun σ H Q q=>by
  obtain⟨m,ρ,st,r,o⟩:=q;refine⟨m,ρ,st,r,(Out.bind o).imp fun v st1 m1 H1 e1 s1 o1 x rx=>?_⟩;cases v with
  |loc n=>
   dsimp only at o1;split at o1
   ·rename_i kvs hx;split at o1
    ·rename_i ds hd;obtain⟨p,hp,rfl,es,hH,rs⟩:=dQ s1 rx hx (fun z=>by cases z);refine⟨p,es,rfl,hH,fun od=>?_⟩;have e2:Ext m1 H1 m1 (upd H1 p (.frz od (.dK es))):=fH (zag hp) hH;have s2:ak X.K (upd H1 p (.frz od (.dK es))) m1 (st1.set n .dead):=rN s1 hp hH trivial;have s3:=nW (n:=n) s2;rw[List.set_set]at s3;refine o1 _ _ (e2.trans eZ) s3 s3 _ (CT upd_same ⟨?_,s1.np p (zag hp)⟩ (jQ (rs.ext (e2.trans eZ)) hd));intro z;obtain⟨i,hi⟩:=zaF.mp z;obtain⟨h1,h2⟩:=iM hi;exact h1 (s1.inj i n p h2 hp)
    ·exact o1.elim
   ·exact o1.elim
  |_=>exact o1.elim
end
end G
namespace L2
open PySem PySem.Spec PyProof.Rows
section
end
end L2
namespace G
open PySem PySem.Spec PyProof.Rows L2
section
variable {X:Cx}
theorem MQ(hu:X.A.units+1<cLine):MtR X "dict.get" (fun x xs H Q=>∃ a y z o,x= .ref a/\xs=[y,z]/\DGet H a y o/\Q (o.getD z) H):=by
 intro pins s σ H x xs v us Q I rx rs ⟨a,y,z,o,e1,e2,g,q⟩;subst e1 e2;cases rx;cases rs with
 |cons r1 rs=>
  cases rs with
  |cons r2 rs=>cases rs;exact d_get2 hu I g r1 r2 fun w' s' I' r=>⟨_,H,I',r,q⟩
theorem BO(C:bQ X):GM X "dict.get" (bO .lg):=by
 refine MtR.pick ?_;rintro x xs H Q ⟨m,st,a,as,s,ra,rs,o⟩;have hu:=C.un;unfold bO at o;simp only at o;split at o
 ·obtain⟨kvs,e1,o1⟩:=o.bind;obtain⟨hk,o2⟩:=o1.guard;obtain⟨y,z,rfl,ry,rz⟩:=pB rs;obtain⟨p,es,rfl,hp,r⟩:=lX s ra e1;obtain⟨kk,rfl,rfl⟩:=nU (cN ry) hk;refine⟨_,MQ (by omega),p,_,z,valV es kk,rfl,rfl,DGet.k hp,?_⟩;rcases pA (k:=kk) r with⟨h1,h2⟩|⟨w',x,h1,h2,rx⟩
  ·rw[h1];rw[h2]at o2;exact ai.here o2 s _ rz
  ·rw[h1];rw[h2]at o2;exact ai.here o2 s _ rx
 ·exact o.elim
theorem Ff:MtR X "dict.update" (fun x xs H Q=>∃ a b es fs,x= .ref a/\xs=[.ref b]/\H a=some (.dK es)/\H b=some (.dK fs)/\a≠b/\es.length+fs.length<=sizeLine/\Q .non (upd H a (.dK (mergeK es fs)))):=by
 intro pins s σ H x xs v us Q I rx rs ⟨a,b,es,fs,e1,e2,ha,hb,ne,hz,q⟩;subst e1 e2;cases rx;cases rs with
 |cons r1 rs=>
  cases rs;cases r1;obtain⟨z1,hd1,vs,rel1,dd1⟩:=dk_of I.hok ha;obtain⟨z2,hd2,ws,rel2,dd2⟩:=dk_of I.hok hb;have hl:vs.length+ws.length<=sizeLine:=by rw[←rel1.length,←rel2.length];exact hz
  refine call_meetsIn zbY dd1.typeIs PySem.F.entry_dict_update (PySem.F.args_dict_update_2 _ _) (meets_dict_update (mixKind X.prog X.w) a b ne hd2) ⟨vs,ws,dd1,dd2,hl,fun h' dd' _ hs=>?_⟩;have he:∃ q,h'.get? a=some q:=let⟨q,_,_,hq,_⟩:=dd';⟨q,hq⟩
  have hl2:(mergeK es fs).length<=sizeLine:=zbw (length_mergeK fs es) hz;exact⟨.non,_,d_write (t':=s.toks) I (by rw[ha];exact True.intro) hs he (dk_new hl2 hd1 (rel2.merge rel1) dd'),rfl,q⟩
theorem xF:GM X "dict.update" (bO .update):=by
 refine MtR.pick ?_;rintro x xs H Q ⟨m,st,a,as,s,ra,rs,o⟩;unfold bO at o;simp only at o;split at o
 ·rename_i n v;split at o
  ·rename_i kvs ys ec ed;obtain⟨⟨hz,hne⟩,o⟩:=o.guard;obtain⟨p,hn,rfl,es,hp,rr⟩:=dQ s ra ec (by simp);obtain⟨y,rfl,ry⟩:=fK rs;obtain⟨q,fs,rfl,hq,rf⟩:=lX s ry ed;have l1:=pG rr;have l2:=pG rf;have apart:p≠q:=fun e=>by
    subst e;cases v with
    |loc k=>
     refine hne ?_;cases hdk:st[k]? with
     |none=>simp only[eG,hdk]at ed;cases ed
     |some c=>
      cases c with
      |dct zs=>obtain⟨p',hn',e',_⟩:=dQ s ry hdk (by simp);cases e';rw[s.inj _ _ _ hn hn']
      |lst zs=>simp only[eG,hdk]at ed;cases ed
      |dead=>simp only[eG,hdk]at ed;cases ed
      |tab _=>simp only[eG,hdk]at ed;cases ed
      |obj _ _=>simp only[eG,hdk]at ed;cases ed
      |gQ _=>simp only[eG,hdk]at ed;cases ed
    |d d=>
     cases d with
     |dict ds=>obtain⟨a',vs',e',hl',_⟩:=BB ry;cases e';exact hl'.2.1 (zag hn)
     |_=>cases ed
    |bW ns=>cases ed
    |xc _ _=>cases ed
    |td _=>cases ed
    |dN _ _=>cases ed
    |eo _ _=>cases ed
   refine⟨_,Ff,p,q,es,fs,rfl,rfl,hp,hq,apart,by omega,?_⟩;exact ai.mut o s hn hp ⟨_,upd_same,gk (fun _ _ z=>z.ext (fH (zag hn) hp)) (qq rr rf)⟩ _ (.d .non)
  ·exact o.elim
 ·exact o.elim
end
section
variable {X:Cx}
theorem MR:GO X (binaryOp .Add) yw:=by refine OpR.pick ?_;rintro x y H Q ⟨m,st,a,b,s,ra,rb,o⟩;unfold yw at o;obtain⟨xs,ea,o⟩:=o.bind;obtain⟨ys,eb,o⟩:=o.bind;obtain⟨hz,o⟩:=o.guard;obtain⟨p,vs,rfl,h1,r1⟩:=ju s ra ea;obtain⟨q,ws,rfl,h2,r2⟩:=ju s rb eb;have l1:=zao r1;have l2:=zao r2;exact⟨_,op_cat,_,_,vs,ws,rfl,rfl,h1,h2,by omega,fun z hz=>ai.alloc o s hz ⟨_,upd_same,aW.ext (eU hz) (bM r1 r2)⟩ _ (j8 s.len)⟩
theorem xG:GM X "str.index" (bO .jm):=by
 refine MtR.pick ?_;rintro x xs H Q ⟨m,st,a,as,s,ra,rs,o⟩;unfold bO at o;simp only at o;split at o
 ·obtain⟨i,hi,o⟩:=o.bind;obtain⟨y,rfl,ry⟩:=fK rs;rw[aQ ra,aQ ry];obtain⟨rest,hr⟩:=List.head?_eq_some_iff.mp hi;exact⟨_,mt_sindex,_,_,i,rest,rfl,rfl,hr,ai.here o s _ (.d (.int _))⟩
 ·exact o.elim
end
def lZ(g:Gx)(W:WX)(D:Ends)(fl:Fl)(st':aa)(m':Mp)(H':Hp):Prop:=match fl with
 | .next ρ'=>∀ σ',Rel g.K H' m' σ' ρ' st'->D.nx σ' H'
 | .ret v=>∀ x,Rep g.K H' m' x v->D.rt x H'
 | .brk ρ'=>∀ σ',Rel g.K H' m' σ' ρ' st'->D.bk σ' H'
 | .cont ρ'=>∀ σ',Rel g.K H' m' σ' ρ' st'->D.ct σ' H'
 | .exc e ρ'=>∀ σ' cls dd,Rel g.K H' m' σ' ρ' st'->wz g H' m' e cls dd->W cls dd σ' H'
def DS(g:Gx)(W:WX)(f:ae->aa->R Fl):TS:=fun D σ H=>∃ m ρ st,Rel g.K H m σ ρ st/\ao g m H (f ρ st) (lZ g W D)
abbrev GS(X:Cx)(W:WX)(s:Stmt)(f:ae->aa->R Fl):Prop:=PS X s (DS (gx X) W f)
abbrev GSs(X:Cx)(W:WX)(s:List Stmt)(f:ae->aa->R Fl):Prop:=PSs X s (DS (gx X) W f)
theorem ig{X:Cx}{s:Stmt}{t t':TS}(h:PS X s t)(w:∀ D σ H,t' D σ H->t D σ H):PS X s t':=⟨fun pins s σ H D I q=>h.run pins s σ H D I (w D σ H q)⟩
theorem tY{X:Cx}{s:List Stmt}{t t':TS}(h:PSs X s t)(w:∀ D σ H,t' D σ H->t D σ H):PSs X s t':=⟨fun pins s σ H D I q=>h.run pins s σ H D I (w D σ H q)⟩
section
variable {g:Gx} {W:WX} {α:Type} {m:Mp} {H:Hp} {σ:L2.St} {ρ:ae} {st:aa} {D:Ends}
theorem cz{r:R α}{f:α->aa->R Fl}(r0:Rel g.K H m σ ρ st)(o:ao g m H (r.cat ρ f) (lZ g W D)):Out g W m H σ r fun a st1 m1 H1=>ao g m1 H1 (f a st1) (lZ g W D):=by
 cases r with
 |ok a st1=>exact fun m1 H1 e1 s1=>ao.from e1 o
 |exc x st1=>exact fun m1 H1 cls dd e1 s1 er=>o m1 H1 e1 s1 σ cls dd (r0.ext e1 s1) er
 |no=>exact o.elim
theorem jR{r:R Fl}{f:Fl->aa->R Fl}{k:Fl->aa->Mp->Hp->Prop}(o:ao g m H (r.i9.bind f) k):ao g m H r fun a st1 m1 H1=>ao g m1 H1 (f a st1) k:=by
 cases r with
 |ok a st1=>exact fun m1 H1 e1 s1=>ao.from e1 o
 |exc x st1=>exact o.elim
 |no=>exact o.elim
theorem BP{r:R α}{f:α->aa->R Fl}{k:Fl->aa->Mp->Hp->Prop}(o:ao g m H (r.bP.bind f) k):ao g m H r fun a st1 m1 H1=>ao g m1 H1 (f a st1) k:=by
 cases r with
 |ok a st1=>exact fun m1 H1 e1 s1=>ao.from e1 o
 |exc x st1=>exact o.elim
 |no=>exact o.elim
end
section
variable {X:Cx} {W:WX} {a b c e tg iter:Expr} {pos:Pos} {fa fb fc:ae->aa->R Val} {fs ft:ae->aa->R Fl} {s:Stmt} {rest body orelse:List Stmt}
theorem gss_nil:GSs X W [] (fun ρ st=>.ok (.next ρ) st):=tY pss_nil fun D σ H q=>by obtain⟨m,ρ,st,r,o⟩:=q;exact ao.here o r.st σ r
theorem gss_cons(h1:GS X W s fs)(h2:GSs X W rest ft):GSs X W (s::rest) (fun ρ st=>(fs ρ st).i9.bind fun fl st1=>match fl with
 | .next ρ1=>ft ρ1 st1
 |fl=>.ok fl st1):=tY (pss_cons h1 h2) fun D σ H q=>by
 obtain⟨m,ρ,st,r,o⟩:=q;refine⟨m,ρ,st,r,(jR o).imp fun fl st1 m1 H1 e1 s1 o1=>?_⟩;cases fl with
 |next ρ1=>exact fun σ' r'=>⟨m1,ρ1,st1,r',o1⟩
 |ret v=>exact ao.here o1 s1
 |brk ρ1=>exact ao.here o1 s1
 |cont ρ1=>exact ao.here o1 s1
 |exc e ρ1=>exact ao.here o1 s1
theorem MS(h:GE X W a fa)(hs:swapsWith a none pos.line X.env=pure false):GS X W (.Expr a pos) (fun ρ st=>(fa ρ st).cat ρ fun _ st1=>.ok (.next ρ) st1):=ig (ps_expr h hs) fun D σ H q=>by obtain⟨m,ρ,st,r,o⟩:=q;exact⟨m,ρ,st,r,(cz r o).imp fun v st1 m1 H1 e1 s1 o1 x rx=>ao.here o1 s1 σ (r.ext e1 s1)⟩
theorem Fg{he:TE}{sl:List Nat}{fg:Val->ae->aa->R ae}{D:Ends}{σ:L2.St}{H:Hp}(q:DS (gx X) W (fun ρ st=>(fa ρ st).cat ρ fun v st1=>(fg v ρ st1).bP.bind fun ρ1 st2=>.ok (.next ρ1) st2) D σ H):tAsg (DE (gx X) W fa) (DG (gx X) sl fg) D σ H:=by obtain⟨m,ρ,st,r,o⟩:=q;refine⟨m,ρ,st,r,(cz r o).imp fun v st1 m1 H1 e1 s1 o1 x rx=>?_⟩;refine⟨m1,ρ,st1,v,r.ext e1 s1,rx,(BP o1).imp fun ρ1 st2 m2 H2 e2 s2 o2 σ' r' _=>?_⟩;exact ao.here o2 s2 σ' r'
def zE(e:Expr):Bool:=match e with
 | .ListComp ..=>false
 | .SetComp ..=>false
 | .DictComp ..=>false
 |_=>true
theorem vg{e:Expr}(h:zE e=true)(t:Option Expr)(l:Nat)(env:Env):swapsWith e t l env=pure false:=by cases e <;> first |rfl |(cases h)
def nName(t:Expr):Bool:=match t with
 | .Name ..=>false
 |_=>true
theorem rW{e t:Expr}(h:nName t=true)(l:Nat)(env:Env):swapsWith e (some t) l env=pure false:=by cases e <;> cases t <;> first |rfl |(cases h)
theorem zF{i:Nat}{x:Str}{pos':Pos}(C:bQ X)(hi:X.N[i]?=some x)(hx:Loc X.env.scope x)(hf:X.fn x=true\/X.env.scope.names.lookup x=some .local)(h:GE X W a fa)(hs:swapsWith a (some (.Name x pos')) pos.line X.env=pure false):
 GS X W (.Assign [.Name x pos'] a pos) (fun ρ st=>(fa ρ st).cat ρ fun v st1=>(if i<ρ.length then R.ok (ρ.set i (some v)) st1 else .no).bP.bind fun ρ1 st2=>.ok (.next ρ1) st2):=ig (ps_set C.nd hi hx h hs hf) fun D σ H q=>by
 obtain⟨m,ρ,st,r,o⟩:=q;refine⟨m,ρ,st,r,(cz r o).imp fun v st1 m1 H1 e1 s1 o1 x rx=>?_⟩;split at o1
 ·exact ao.here o1 s1 _ ((r.ext e1 s1).set rx)
 ·exact o1.elim
theorem Iq{i:Nat}{y:Str}{py spos:Pos}{elt:Expr}{ifs:List Expr}{scope:Scope}{own:List (Str×Nat)}{W':WX}{fi:ae->aa->R cC}{fg:Val->ae->aa->R ae}{fk:ae->aa->R Bool}{fe:ae->aa->R Val}{sl:List Nat}{mu:Bool}
 (C:bQ X) (hy:X.N[i]?=some y) (hyl:X.env.scope.names.lookup y=some .local) (hsw:swapsWith (.ListComp elt [⟨tg,iter,ifs,0⟩] scope pos) (some (.Name y py)) spos.line X.env=pure true)
 (hp:aG iter=true) (hi:tD X W tg iter fi) (ok:BlkOk X.N X.env.scope scope own)
 (hg:∀ (s:Shared) (H:Hp) (C:Addr) (cl:List (Str×Addr)) (fp:List Addr),PG (X.blk s H scope (compEnvC scope cl C X.env) fp) tg (DG (gx X) sl fg))
 (ht:∀ (s:Shared) (H:Hp) (C:Addr) (cl:List (Str×Addr)) (fp:List Addr),PTs (X.blk s H scope (compEnvC scope cl C X.env) fp) ifs (DT (gx X) W' fk))
 (he:∀ (s:Shared) (H:Hp) (C:Addr) (cl:List (Str×Addr)) (fp:List Addr),PE (X.blk s H scope (compEnvC scope cl C X.env) fp) elt (DE (gx X) W' fe))
 (hsl:∀ i∈sl,i∈own.map (·.2)) (hlen:∀ x ρ st ρ1 st1,fg x ρ st= .ok ρ1 st1->ρ1.length=ρ.length) :
 GS X W (.Assign [.Name y py] (.ListComp elt [⟨tg,iter,ifs,0⟩] scope pos) spos) (fun ρ st=>(u7 mu fi fg fk fe (own.map (·.2)) ρ st).cat ρ fun v st1=>(if i<ρ.length then R.ok (ρ.set i (some v)) st1 else .no).bP.bind fun ρ1 st2=>.ok (.next ρ1) st2):=
 ig (ps_setLc C.calm C.nd hy hyl hsw hi ok hg ht he fun x=>kN hp _ x) fun D σ H q=>BL (mu:=mu) hsl hlen (by
  obtain⟨m,ρ,st,r,o⟩:=q;refine⟨m,ρ,st,r,(cz r o).imp fun v st1 m1 H1 e1 s1 o1 x rx=>?_⟩;split at o1
  ·exact ao.here o1 s1 _ ((r.ext e1 s1).set rx)
  ·exact o1.elim)
theorem QI{sl:List Nat}{fg:Val->ae->aa->R ae}(hp:aG tg=true)(hn:nName tg=true)(h:GE X W a fa)(hg:PG X tg (DG (gx X) sl fg))(hw:swappedStores [tg] a X.env=pure none):
 GS X W (.Assign [tg] a pos) (fun ρ st=>(fa ρ st).cat ρ fun v st1=>(fg v ρ st1).bP.bind fun ρ1 st2=>.ok (.next ρ1) st2):=
 ig (ps_asg h hg (rW hn _ _) hw (by rw[ie hp];rfl)) fun D σ H q=>Fg (he:=DE (gx X) W fa) q
theorem QJ{i j:Nat}{x y:Str}{px py pt:Pos}{kt k2:Nat}{pt2:Pos}(C:bQ X)(hi:X.N[i]?=some x)(hj:X.N[j]?=some y)(hij:i≠j)(hx:X.env.scope.names.lookup x=some .local)(hy:X.env.scope.names.lookup y=some .local)
 (hp:aG a=true) (hq:aG b=true) (ha:GE X W a fa) (hb:GE X W b fb) (hw:swappedStores [.Tuple [.Name x px,.Name y py] kt pt] (.Tuple [a,b] k2 pt2) X.env=pure (some [x,y])) :
 GS X W (.Assign [.Tuple [.Name x px,.Name y py] kt pt] (.Tuple [a,b] k2 pt2) pos) (fun ρ st=>(fa ρ st).cat ρ fun v st1=>(fb ρ st1).cat ρ fun u st2=>if i<ρ.length/\j<ρ.length then .ok (.next ((ρ.set i (some v)).set j (some u))) st2 else .no):=
 ig (ps_par C.calm C.nd hi hj hij hx hy (pa_cons ha (pa_cons hb pa_nil (aV hq _ _)) (aV hp _ _)) hw (show swapsWith (.Tuple [a,b] k2 pt2) (some (.Tuple [.Name x px,.Name y py] kt pt)) pos.line X.env=pure false from rW rfl _ _)) fun D σ H q=>by
  obtain⟨m,ρ,st,r,o⟩:=q;refine⟨m,ρ,st,r,(cz r o).imp fun v st1 m1 H1 e1 s1 o1 x rx=>?_⟩;have r1:=r.ext e1 s1;refine⟨m1,ρ,st1,r1,(cz r1 o1).imp fun u st2 m2 H2 e2 s2 o2 y ry=>?_⟩;refine⟨x,y,rfl,?_⟩;split at o2
  ·exact ao.here o2 s2 _ (((r1.ext e2 s2).set (rx.ext e2)).set ry)
  ·exact o2.elim
theorem QK(h:GE X W a fa):GS X W (.Return (some a) pos) (fun ρ st=>(fa ρ st).cat ρ fun v st1=>.ok (.ret v) st1):=ig (ps_ret h) fun D σ H q=>by obtain⟨m,ρ,st,r,o⟩:=q;exact⟨m,ρ,st,r,(cz r o).imp fun v st1 m1 H1 e1 s1 o1 x rx=>ao.here o1 s1 x rx⟩
theorem MT:GS X W (.Return none pos) (fun _ st=>.ok (.ret (.d .none)) st):=ig ps_retN fun D σ H q=>by obtain⟨m,ρ,st,r,o⟩:=q;exact ao.here o r.st _ (.d .non)
theorem MU:GS X W (.Pass pos) (fun ρ st=>.ok (.next ρ) st):=ig ps_pass fun D σ H q=>by obtain⟨m,ρ,st,r,o⟩:=q;exact ao.here o r.st _ r
theorem QL:GS X W (.Break pos) (fun ρ st=>.ok (.brk ρ) st):=ig ps_break fun D σ H q=>by obtain⟨m,ρ,st,r,o⟩:=q;exact ao.here o r.st _ r
theorem MV:GS X W (.Continue pos) (fun ρ st=>.ok (.cont ρ) st):=ig ps_continue fun D σ H q=>by obtain⟨m,ρ,st,r,o⟩:=q;exact ao.here o r.st _ r
theorem Vp{gc:ae->aa->R Bool}(hc:GT X W c gc)(h1:GSs X W body fs)(h2:GSs X W orelse ft):GS X W (.If c body orelse pos) (fun ρ st=>(gc ρ st).cat ρ fun k st1=>if k then fs ρ st1 else ft ρ st1):=ig (ps_if hc h1 h2) fun D σ H q=>by
 obtain⟨m,ρ,st,r,o⟩:=q;refine⟨m,ρ,st,r,(cz r o).imp fun k st1 m1 H1 e1 s1 o1=>?_⟩;cases k with
 |true=>exact⟨m1,ρ,st1,r.ext e1 s1,o1⟩
 |false=>exact⟨m1,ρ,st1,r.ext e1 s1,o1⟩
theorem Fj{D:Ends}{N:L2.St->Hp->Prop}{fl:Fl}{st:aa}{m:Mp}{H:Hp}{go:ae->aa->R Fl}(s:ak X.K H m st)(hN:∀ ρ1 σ',Rel X.K H m σ' ρ1 st->ao (gx X) m H (go ρ1 st) (lZ (gx X) W D)->N σ' H)
 (o:ao (gx X) m H (match fl with
  | .next ρ1=>go ρ1 st
  | .cont ρ1=>go ρ1 st
  | .brk ρ1=>.ok (.next ρ1) st
  | .ret v=>.ok (.ret v) st
  | .exc e ρ1=>.ok (.exc e ρ1) st) (lZ (gx X) W D)):lZ (gx X) W { D with nx:=N,ct:=N,bk:=D.nx } fl st m H:=by
 cases fl with
 |next ρ1=>exact fun σ' r=>hN ρ1 σ' r o
 |cont ρ1=>exact fun σ' r=>hN ρ1 σ' r o
 |brk ρ1=>exact ao.here o s
 |ret v=>exact ao.here o s
 |exc e ρ1=>exact ao.here o s
theorem gs_while{gc:ae->aa->R Bool}(hp:PassesOwn (model X.prog X.w) X.A X.env X.xe)(hc:GT X W c gc)(hb:GSs X W body fs):GS X W (.While c body [] pos) (fun ρ st=>qo gc fs uR ρ st):=ig (ps_while hp hc hb) fun D σ H q=>by
 obtain⟨m,ρ,st,r,o⟩:=q;refine⟨fun n σ H=>∃ m ρ st,Rel X.K H m σ ρ st/\ao (gx X) m H (qo gc fs n ρ st) (lZ (gx X) W D),⟨_,m,ρ,st,r,o⟩,?_⟩;rintro n σ H ⟨m,ρ,st,r,o⟩;cases n with
 |zero=>exact o.elim
 |succ n=>
  refine⟨m,ρ,st,r,(cz r o).imp fun k st1 m1 H1 e1 s1 o1=>?_⟩;have r1:=r.ext e1 s1;cases k with
  |false=>exact ao.here o1 s1 _ r1
  |true=>refine⟨fun σ' H'=>∃ m ρ st,Rel X.K H' m σ' ρ st/\ao (gx X) m H' (qo gc fs n ρ st) (lZ (gx X) W D),fun σ' H' h=>⟨n,Nat.lt_succ_self n,h⟩,?_⟩;refine⟨m1,ρ,st1,r1,(jR o1).imp fun fl st2 m2 H2 e2 s2 o2=>?_⟩;exact Fj (go:=qo gc fs n) s2 (fun ρ1 σ' r2 o3=>⟨m2,ρ1,st2,r2,o3⟩) o2
theorem QM{fi:ae->aa->R cC}{sl:List Nat}{fg:Val->ae->aa->R ae}(C:bQ X)(hp:PassesOwn (model X.prog X.w) X.A X.env X.xe)(hpl:aG iter=true)(hi:tD X W tg iter fi)(hg:PG X tg (DG (gx X) sl fg))(hb:GSs X W body fs):
 GS X W (.For tg iter body [] pos) (fun ρ st=>(fi ρ st).cat ρ fun p st1=>forL (fun x ρ1 st2=>(fg x ρ1 st2).bP.bind fun ρ2 st3=>fs ρ2 st3) p.2 p.1 ρ st1):=ig (ps_for hp C.calm hi hg hb fun x=>kN hpl _ x) fun D σ H q=>by
 obtain⟨m,ρ,st,r,o⟩:=q;refine⟨m,ρ,st,r,(cz r o).imp fun p st1 m1 H1 e1 s1 o1 _ J hJ=>?_⟩;have r1:=r.ext e1 s1;let go:List Val->ae->aa->R Fl:=forL (fun x ρ1 st2=>(fg x ρ1 st2).bP.bind fun ρ2 st3=>fs ρ2 st3) p.2
 let Pv:Nat->L2.St->Hp->Prop:=fun i σ H=>∃ m2 ρ2 st2,Ext m1 H1 m2 H/\Rel X.K H m2 σ ρ2 st2/\ao (gx X) m2 H (go (p.1.drop i) ρ2 st2) (lZ (gx X) W D)
 refine⟨fun i k σ H=>k=p.1.length-i/\i<=p.1.length/\Pv i σ H,⟨p.1.length,by simp,za1 _,m1,ρ,st1,.refl,r1,by rw[zbc];exact o1⟩,?_⟩;rintro i k σ2 H2 ⟨rfl,hi',m2,ρ2,st2,e2,r2,o2⟩;by_cases hlt:i<p.1.length
 ·rw[za4 hlt]at o2;have gd:p.2.ok st2:=by
   by_cases h:p.2.ok st2
   ·exact h
   ·have o2:ao (gx X) m2 H2 (if p.2.ok st2 then _ else .no) _:=o2;rw[zaj h]at o2;exact o2.elim
  have o3:ao (gx X) m2 H2 (((fg p.1[i] ρ2 st2).bP.bind fun ρ2 st3=>fs ρ2 st3).i9.bind fun fl st1=>match fl with
   | .next ρ1=>go (p.1.drop (i+1)) ρ1 st1
   | .cont ρ1=>go (p.1.drop (i+1)) ρ1 st1
   | .brk ρ1=>.ok (.next ρ1) st1
   | .ret v=>.ok (.ret v) st1
   | .exc e ρ1=>.ok (.exc e ρ1) st1) (lZ (gx X) W D):=by
   have o2:ao (gx X) m2 H2 (if p.2.ok st2 then _ else .no) _:=o2;rw[zah gd]at o2;exact o2
  refine .inr ⟨hJ.go i m2 H2 st2 e2.later r2.st gd hlt,Pv (i+1),fun σ' H' h'=>⟨p.1.length-(i+1),by omega,rfl,hlt,h'⟩,fun x H' y=>?_⟩;have hv:p.1[i]?=some p.1[i]:=by simp[hlt]
  obtain⟨le,rx⟩:=hJ.yld i m2 H2 st2 x H' p.1[i] e2.later r2.st gd hv y;have el:=bH (m:=m2) le;refine⟨m2,ρ2,st2,p.1[i],r2.le le,rx,?_⟩;have o4:=ao.from el o3;cases ef:fg p.1[i] ρ2 st2 with
  |no=>rw[ef]at o4;exact o4.elim
  |exc z s=>rw[ef]at o4;exact o4.elim
  |ok ρ3 st3=>rw[ef]at o4;intro m3 H3 e3 s3 σ3 r3 _;refine⟨m3,ρ3,st3,r3,(jR (ao.from e3 o4)).imp fun fl st4 m4 H4 e4 s4 o5=>?_⟩;exact Fj (go:=go (p.1.drop (i+1))) s4 (fun ρ1 σ' r4 o6=>⟨m4,ρ1,st4,((e2.trans el).trans e3).trans e4,r4,o6⟩) o5
 ·obtain rfl:i=p.1.length:=by omega
  rw[zbm]at o2;by_cases h:p.2.ok st2
  ·have o2:ao (gx X) m2 H2 (if p.2.ok st2 then .ok (.next ρ2) st2 else .no) (lZ (gx X) W D):=o2;rw[zah h]at o2;exact .inl ⟨hJ.stop m2 H2 st2 e2.later r2.st h,ao.here o2 r2.st _ r2⟩
  ·have o2:ao (gx X) m2 H2 (if p.2.ok st2 then .ok (.next ρ2) st2 else .no) (lZ (gx X) W D):=o2;rw[zaj h]at o2;exact o2.elim
theorem Fo{i:Nat}{x:Str}{pos':Pos}{op:Operator}{f:Int->Int->Int}{o2:jM}(C:bQ X)(hi:X.N[i]?=some x)(hx:Loc X.env.scope x)(hf:X.fn x=true\/X.env.scope.names.lookup x=some .local)(h:GE X W a fa)
 (ho:PIp X op (ipI f)) (h2:∀ p q st,o2 (.d (.int p)) (.d (.int q)) st=some (.d (.int (f p q)),st)) :
 GS X W (.AugAssign (.Name x pos') op a pos) (fun ρ st=>match ρ[i]? with
 |some (some v)=>(fa ρ st).cat ρ fun u st1=>match v,u with
  | .d (.int _),.d (.int _)=>(R.aS (o2 v u st1)).cat ρ fun z st2=>.ok (.next (ρ.set i (some z))) st2
  |_,_=>.no
 |_=>.no):=ig (ps_aug C.nd hi hx h ho hf) fun D σ H q=>by
 obtain⟨m,ρ,st,r,o⟩:=q;dsimp only at o;split at o
 ·rename_i v hv;obtain⟨xv,q1,q2⟩:=r.env i v hv;refine⟨xv,q1,m,ρ,st,r,(cz r o).imp fun u st1 m1 H1 e1 s1 o1 y ry=>?_⟩;split at o1
  ·rename_i p q;obtain rfl:=ay q2;obtain rfl:=ay ry;rw[h2]at o1;exact⟨p,q,rfl,rfl,ao.here o1 s1 _ ((r.ext e1 s1).set (.d (.int _)))⟩
  ·exact o1.elim
 ·exact o.elim
end
structure GFn (CX:CXT) (P:Program) (w:World) (K:PySem.W.Frag) (mg:Str->Option Value) (base:Heap) (k:Nat) (f:Addr) (fd:FuncData) (ps:List Str) (sp:Sp):Prop where
 len:∀ vs H Q E,sp vs H Q E->vs.length=ps.length
 run:∀ (A:Around) (outer:List Env) (s:Shared) (H:Hp) (args:Args) (us:List Value) (vs:List V) (Q:VK) (E:XK),Room k A->A.guards=some []->Env0 P w K mg base A outer s H->BindsTo s fd args (ps.zip us)->Vals vs us->sp vs H Q E->codeAny (model P w) A (.call (.ref f) args) (CR CX outer P w H s Q E) s
def kO(g:Gx)(np:Nat)(F:List Val->aa->R Val):Sp:=fun vs H Q E=>vs.length=np/\∃ m st xs,ak g.K H m st/\aW g.K H m vs xs/\Out g (fun cls dd _ H'=>E cls dd H') m H [] (F xs st) fun v _ m' H'=>∀ x,Rep g.K H' m' x v->Q x H'
theorem take_at{α:Type}{l:List α}{n i:Nat}{x:α}(h:(l.take n)[i]?=some x):i<n/\l[i]?=some x:=by
 rw[List.getElem?_take]at h;split at h
 ·exact⟨by assumption,h⟩
 ·cases h
section
variable {K:PySem.W.Frag} {H H':Hp} {m m':Mp} {st st1 st2:aa} {n:Nat}
def Mp.cut(m:Mp)(n:Nat):Mp:=⟨m.ls.take n,m.P⟩
theorem vh{a:Addr}(h:(m.cut n).In a):m.In a:=by obtain⟨i,hi⟩:=zaF.mp h;exact zaF.mpr ⟨i,(take_at hi).2⟩
theorem cV:fS H m H (m.cut n):=fun a o h f=>⟨h,fun z=>f.1 (vh z),f.2⟩
theorem oh{v:V}{x:Val}(h:Rep K H m v x)(hv:aI n x=true)(hn:n<=m.ls.length):Rep K H (m.cut n) v x:=by
 cases h with
 |d h=>exact .d (h.stay cV)
 |bW h=>exact .bW (h.imp (fun⟨o,h1,h2⟩=>⟨o,cV _ _ h1 h2⟩) id)
 |xc h1 h2 h3=>exact .xc h1 (h2.stay cV) (Paired.mapP h3 fun _ _ z=>⟨z.1,z.2.stay cV⟩)
 |td h1 h2 h3=>exact .td h1 (cV _ _ h1 h2).2 (h3.stay cV)
 |dN h1 h2 hk h=>have hv:decide (_<n)=true:=hv;have hv:=zad hv;refine .dN (h1.stay cV) (h2.stay cV) (by show _<(m.ls.take n).length;rw[za7];omega) fun a q=>h a ?_;exact(take_at q).2
 |eo h1 h2 h3 h4 h5=>exact .eo (h1.stay cV) (h2.stay cV) h3 (cV _ _ h3 h4).2 (h5.stay cV)
 |loc hk h=>have hv:decide (_<n)=true:=hv;have hv:=zad hv;refine .loc (by show _<(m.ls.take n).length;rw[za7];omega) fun a q=>h a ?_;exact(take_at q).2
theorem rX{v:V}{x:Val}(h:Rep K H m v x)(hn:m.ls.length=n):aI n x=true:=by
 cases h with
 |d _=>rfl
 |bW _=>rfl
 |xc _ _ _=>rfl
 |loc hk _=>exact zbo (by omega)
 |td _ _ _=>rfl
 |dN _ _ hk _=>exact zbo (by omega)
 |eo _ _ _ _ _=>rfl
theorem Ir{v:List V}{xs:List Val}(h:aW K H m v xs)(hn:m.ls.length=n):xs.all (aI n)=true:=by
 induction h with
 |nil=>rfl
 |cons r _ ih=>rw[zay,ih,zbE];exact rX r hn
theorem Iu{v:List (Key×V)}{xs:List (PyData×Val)}(h:bX K H m v xs)(hn:m.ls.length=n):(xs.all fun p=>aI n p.2)=true:=by
 unfold bX at h;induction h with
 |nil=>rfl
 |cons r _ ih=>rw[zay,ih,zbE];exact rX r.2 hn
theorem Iw{v:List (Str×V)}{xs:List (Str×Val)}(h:eF K H m v xs)(hn:m.ls.length=n):(xs.all fun p=>aI n p.2)=true:=by
 unfold eF at h;induction h with
 |nil=>rfl
 |cons r _ ih=>rw[zay,ih,zbE];exact rX r.2 hn
theorem Fp{v:List (Str×V)}{xs:List (Str×Val)}(h:eF K H m v xs)(ho:(xs.all fun p=>aI n p.2)=true)(hn:n<=m.ls.length):eF K H (m.cut n) v xs:=by
 unfold eF at h⊢;induction h with
 |nil=>exact .nil
 |cons r _ ih=>rw[zay,zaa]at ho;exact .cons ⟨r.1,oh r.2 ho.1 hn⟩ (ih ho.2)
theorem Iz{ks:List fJ}{xs:List (PyData×Val)}(h:gn K H m ks xs)(ho:(xs.all fun p=>aI n p.2)=true)(hn:n<=m.ls.length):gn K H (m.cut n) ks xs:=by
 unfold gn at h⊢;induction h with
 |nil=>exact .nil
 |cons r _ ih=>rw[zay,zaa]at ho;exact .cons ⟨r.1,r.2.1.stay cV,oh r.2.2 ho.1 hn⟩ (ih ho.2)
theorem IA{ks:List fJ}{xs:List (PyData×Val)}(h:gn K H m ks xs)(hn:m.ls.length=n):(xs.all fun p=>aI n p.2)=true:=by
 unfold gn at h;induction h with
 |nil=>rfl
 |cons r _ ih=>rw[zay,ih,zbE];exact rX r.2.2 hn
theorem IB{a:Addr}{c:Cell}(h:dH K H m a c)(hn:m.ls.length=n):iL n c=true:=by
 cases c with
 |lst xs=>obtain⟨vs,_,r⟩:=h;exact Ir r hn
 |dct xs=>obtain⟨vs,_,r⟩:=h;exact Iu r hn
 |dead=>rfl
 |tab _=>rfl
 |obj c fs=>obtain⟨C,dx,vfs,_,_,r⟩:=h;exact Iw r hn
 |gQ kvs=>obtain⟨ks,_,r⟩:=h;exact IA r hn
theorem IC{v:List V}{xs:List Val}(h:aW K H m v xs)(ho:xs.all (aI n)=true)(hn:n<=m.ls.length):aW K H (m.cut n) v xs:=by
 induction h with
 |nil=>exact .nil
 |cons r _ ih=>rw[zay,zaa]at ho;exact .cons (oh r ho.1 hn) (ih ho.2)
theorem ID{v:List (Key×V)}{xs:List (PyData×Val)}(h:bX K H m v xs)(ho:(xs.all fun p=>aI n p.2)=true)(hn:n<=m.ls.length):bX K H (m.cut n) v xs:=by
 unfold bX at h⊢;induction h with
 |nil=>exact .nil
 |cons r _ ih=>rw[zay,zaa]at ho;exact .cons ⟨r.1,oh r.2 ho.1 hn⟩ (ih ho.2)
theorem jS{keep ok:Bool}(e:Ext m H m' H')(s:ak K H m st)(s1:ak K H' m' st1)(h:aK keep st ok st1=some st2):
 ∃ m2,Ext m H m2 H'/\ak K H' m2 st2/\fS H' m' H' m2/\∀ v x,Rep K H' m' v x->(ok=true->aI st.length x=true)->Rep K H' m2 v x:=by
 unfold aK at h;split at h
 ·cases h;exact⟨m',e,s1,fun _ _ h f=>⟨h,f⟩,fun _ _ r _=>r⟩
 ·split at h
  ·rename_i hc;cases h;obtain⟨rfl,hc⟩:=hc;have hn:st.length<=m'.ls.length:=by rw[←s.len];exact e.len
   have hok:∀ (i:Nat) a c,(m'.cut st.length).ls[i]?=some (some a)->(st1.take st.length)[i]?=some c->iL st.length c=true:=fun i a c h1 h2=>by
    rcases hc with hc |hc
    ·rw[hc]at h2;have hi:i<st.length:=(take_at h1).1;rcases e.at_ i (by rw[s.len];exact hi)with q |q
     ·exact IB (s.cell i a c (q ▸ (take_at h1).2) h2) s.len
     ·rw[(take_at h1).2]at q;cases q
    ·exact zai.mp hc c (zag h2)
   refine⟨m'.cut st.length,?_,?_,cV,fun v x r hx=>oh r (hx rfl) hn⟩
   ·refine⟨?_,fun k hk=>?_,e.P,e.keep,fun a h n=>e.new a (vh h) n⟩
    ·show m.ls.length<=(m'.ls.take st.length).length;rw[za7,s.len];omega
    ·have hk':k<st.length:=by rw[←s.len];exact hk
     show (m'.ls.take st.length)[k]?=_\/(m'.ls.take st.length)[k]?=_;rw[List.getElem?_take,zah hk'];exact e.at_ k hk
   ·refine⟨?_,fun i j a h1 h2=>s1.inj i j a (take_at h1).2 (take_at h2).2,fun k h=>?_,fun a h=>s1.np a (vh h),fun a h=>s1.live a (vh h),s1.trk,fun i a c h1 h2=>?_⟩
    ·show (m'.ls.take st.length).length=(st1.take st.length).length;rw[za7,za7,s1.len]
    ·obtain⟨h1,h2⟩:=take_at h;rw[List.getElem?_take,zah h1];exact s1.dead k h2
    ·have ho:=hok i a c h1 h2;have cr:=s1.cell i a c (take_at h1).2 (take_at h2).2;cases c with
     |lst xs=>obtain⟨vs,q1,q2⟩:=cr;exact⟨vs,q1,IC q2 ho hn⟩
     |dct xs=>obtain⟨vs,q1,q2⟩:=cr;exact⟨vs,q1,ID q2 ho hn⟩
     |dead=>trivial
     |tab x=>obtain⟨c,q1,q2⟩:=cr;exact⟨c,q1,q2.stay cV fun _ h=>h⟩
     |obj c fs=>obtain⟨C,dx,vfs,q1,q2,q3⟩:=cr;exact⟨C,dx,vfs,q1,q2,Fp q3 ho hn⟩
     |gQ kvs=>obtain⟨ks,q1,q2⟩:=cr;exact⟨ks,q1,Iz q2 ho hn⟩
  ·cases h
theorem tZ{m2:Mp}{b:Bool}(f:∀ v x,Rep K H' m' v x->(b=true->aI n x=true)->Rep K H' m2 v x):∀ {fs:List (Str×V)} {xs:List (Str×Val)},eF K H' m' fs xs->(b=true->(xs.all fun p=>aI n p.2)=true)->eF K H' m2 fs xs
 |_,_,.nil,_=>.nil
 |_,_,.cons r rr,h=>.cons ⟨r.1,f _ _ r.2 fun hb=>by
  have:=h hb;rw[zay,zaa]at this;exact this.1⟩ (tZ f rr fun hb=>by
  have:=h hb;rw[zay,zaa]at this;exact this.2)
end
section
variable {P:Program} {w:World} {K:PySem.W.Frag} {mg:Str->Option Value} {base:Heap}
theorem xH{H:Hp}{m:Mp}{st:aa}{N:List Str}{vs:List V}{xs:List Val}(s:ak K H m st)(r:aW K H m vs xs):Rel K H m (L2.start N vs) (fq N.length xs) st where
 len:=by unfold L2.start fq;simp[zao r]
 env:=fun i x e=>by
  unfold fq at e;unfold L2.start;by_cases hi:i<xs.length
  ·rw[zaA (by simpa using hi),zat]at e;obtain⟨y,hy⟩:∃ y,xs[i]?=some y:=⟨xs[i],by simp[hi]⟩;rw[hy]at e;cases e;obtain⟨v,h1,h2⟩:=paired_get r hy;exact⟨v,by rw[zaA (by rw[zaw,zao r];exact hi),zat,h1];rfl,h2⟩
  ·rw[zaC (by simpa using hi),List.getElem?_replicate]at e;split at e <;> cases e
 st:=s
structure Body (b:Bool) (P:Program) (w:World) (K:PySem.W.Frag) (mg:Str->Option Value) (base:Heap) (N:List Str) (sc:Scope) (k:Nat) (fd:FuncData) (X:Cx) (W:WX):Prop where
 prog:X.prog=P
 w:X.w=w
 K:X.K=K
 mg:X.mg=mg
 base:X.base=base
 N:X.N=N
 sc:X.env.scope=sc
 fn:∀ x,X.fn x=true
 calm:X.calm=true
 room:Room k X.A
 gd:X.A.guards=some []
 tk:pX b X W
 po:PassesOwn (model X.prog X.w) X.A X.env X.xe
 ex:X.ex=[]
 stk:X.stack=X.env::X.outer
 fr:X.env.frame=some X.env.locals
 qual:X.env.qual=fd.qualname++".<locals>."
 code:X.env.code=fd.code
theorem gfn_of{b:Bool}{x qual:Str}{aE:Stmt}{f:Addr}{fd:FuncData}{N ps:List Str}{k:Nat}{Nv:bz}{fn:Fn}(F:Fun K x qual aE f fd)(S:FnScope N ps (defScope aE))(hnp:fn.np=ps.length)(hns:fn.ns=N.length)
 (hb:∀ X W,Body b P w K mg base N (defScope aE) k fd X W->GSs X W (defBody aE) (aF Nv fn.body)):GFn (gj b P w) P w K mg base (k+1) f fd ps (kO ⟨K,mg⟩ ps.length (j7 Nv fn)):=by
 obtain⟨oc,od,kV,doc,pm,an,cdv,ct,osl,rfl,lk,hcd⟩:=F.ex;refine⟨fun _ _ _ _ h=>h.1,fun A outer s H args us vs Q E hr hg e0 hbd r hsp=>?_⟩;obtain⟨hl,m,st,xs,hS,hR,hO⟩:=hsp;have KX:K.In s.heap:=e0.mod.kin.keeps fun b o e=>(e0.bs b o e).1;have lim:s.heap.NoLimit:=e0.mod.nolimit.keeps fun b o e=>(e0.bs b o e).1;have kinds:∀ y∈ps.zip us,(defScope aE).names.lookup y.1=some .local\/((defScope aE).names.lookup y.1=some .cell/\((cellsFrom (s.heap.objs.size+1) (defScope aE).names []).lookup y.1).isSome=true):=fun⟨n,v⟩ hy=>(S.par n (List.of_mem_zip hy).1).imp id fun q=>⟨q,PySem.W.cellsFrom_some _ _ _ (.inl q)⟩;refine codeAny_call_function hr.depth (KX _ _ lk) rfl S.co S.gen rfl (PySem.W.codeRec_of KX hcd) (hbd _ _ _ _ ?_);refine wpAny_newFunctionEnv_cells S.kind kinds fun env he s1 hx=>?_;subst he;refine⟨lim.keeps hx.toInCall.keep,codeAny_func ?_⟩;have I:=inv_start (CX:=gj b P w) (P:=P) (w:=w) (K:=K) (mg:=mg) (base:=base) (E:=E) S hr.hd e0 hl r hx;have B:Body b P w K mg base N (defScope aE) k (PySem.W.fnOf x qual (defArgs aE) (defBody aE) (defScope aE) .none kV doc pm an cdv ct) (cxOf (gj b P w) P w K mg base N qual (defScope aE) f cdv A outer s H E) (fun cls d _ H=>E cls d H):=⟨rfl,rfl,rfl,rfl,rfl,rfl,rfl,fun _=>rfl,rfl,hr.deeper _,hg,pX.of (b:=b) rfl rfl rfl rfl,passes_of rfl,rfl,rfl,rfl,rfl,rfl⟩;have hbody:=hb _ _ B;have hq:DS ⟨K,mg⟩ (fun cls d _ H=>E cls d H) (aF Nv fn.body) { nx:=fun _ H'=>Q .non H',rt:=Q } (L2.start N vs) H:=by
  refine⟨m,fq N.length xs,st,xH hS hR,?_⟩;unfold j7 at hO;have hlx:xs.length=fn.np:=by rw[←zao hR,hl,hnp]
  rw[zah hlx,hns]at hO;cases ex:aF Nv fn.body (fq N.length xs) st with
  |no=>rw[ex]at hO;exact hO.elim
  |exc z s=>rw[ex]at hO;exact hO.elim
  |ok fl st1=>
   rw[ex]at hO;intro m' H' e' s';cases fl with
   |next ρ=>
    have hO:Out (⟨K,mg⟩:Gx) (fun cls dd _ H'=>E cls dd H') m H [] (match aK fn.keep st true st1 with |some st2=>R.ok (Val.d .none) st2 |none=>.no) (fun v _ m' H'=>∀ x,Rep K H' m' x v->Q x H'):=hO
    cases hl:aK fn.keep st true st1 with
    |none=>rw[hl]at hO;exact hO.elim
    |some st2=>rw[hl]at hO;obtain⟨m2,h1,h2,_,_⟩:=jS e' hS s' hl;exact fun σ' _=>hO m2 H' h1 h2 _ (.d .non)
   |ret v=>
    have hO:Out (⟨K,mg⟩:Gx) (fun cls dd _ H'=>E cls dd H') m H [] (match aK fn.keep st (aI st.length v) st1 with |some st2=>R.ok v st2 |none=>.no) (fun v _ m' H'=>∀ x,Rep K H' m' x v->Q x H'):=hO
    cases hl:aK fn.keep st (aI st.length v) st1 with
    |none=>rw[hl]at hO;exact hO.elim
    |some st2=>rw[hl]at hO;obtain⟨m2,h1,h2,_,h3⟩:=jS e' hS s' hl;exact fun x rx=>hO m2 H' h1 h2 _ (h3 _ _ rx id)
   |brk ρ=>exact hO.elim
   |cont ρ=>exact hO.elim
   |exc e ρ=>
    have hO:Out (⟨K,mg⟩:Gx) (fun cls dd _ H'=>E cls dd H') m H [] (match aK fn.keep st (e.az.all fun p=>aI st.length p.2) st1 with |some st2=>(.exc e st2:R Val) |none=>.no) (fun v _ m' H'=>∀ x,Rep K H' m' x v->Q x H'):=hO
    cases hl:aK fn.keep st (e.az.all fun p=>aI st.length p.2) st1 with
    |none=>rw[hl]at hO;exact hO.elim
    |some st2=>rw[hl]at hO;obtain⟨m2,h1,h2,hst,h3⟩:=jS e' hS s' hl;refine fun σ' cls dd _ er=>hO m2 H' cls dd h1 h2 ?_;obtain⟨C,q1,q2,q3⟩:=er;refine⟨C,q1,q2,q3.imp id ?_⟩;rintro⟨d,fs,e1,e2,e3,e4⟩;exact⟨d,fs,e1,e2,(hst _ _ e2 e3).2,tZ h3 e4 id⟩
 refine zbV (hbody.run [] s1 (L2.start N vs) H _ I hq) (fun fl s' hs=>?_) fun e s' hs=>hs;have fin:∀ {σ':L2.St} {H':Hp} {v:V} {u:Value},Inv (cxOf (gj b P w) P w K mg base N qual (defScope aE) f cdv A outer s H E) [] σ' H' s'->RelV v u->Q v H'->CE outer P w H s Q u s':=fun {σ' H' v u} J rv q=>⟨v,H',J.os,J.bare,J.base,J.hok,rv,q⟩;cases fl with
 |ret u=>obtain⟨v,σ',H',J,rv,q⟩:=hs;exact fin J rv q
 |next=>obtain⟨σ',H',J,q⟩:=hs;exact fin (v:=V.non) (u:=Value.none) J rfl q
 |brk=>obtain⟨_,_,_,q⟩:=hs;exact q.elim
 |cont=>obtain⟨_,_,_,q⟩:=hs;exact q.elim
theorem MW{b:Bool}{x qual:Str}{aE:Stmt}{f:Addr}{fd:FuncData}{N ps:List Str}{k:Nat}{Nv:bz}{fn:Fn}(F:Fun K x qual aE f fd)(S:FnScope N ps (defScope aE))(hnp:fn.np=ps.length)(hns:fn.ns=N.length)(hnc:∀ y∈(defScope aE).names,y.2≠.cell)(hp1:1<=ps.length)
 (hb:∀ X W,Body b P w K mg base N (defScope aE) k fd X W->PSsT X (defBody aE) (DS (gx X) W (aF Nv fn.body))):GFn (gj b P w) P w K mg base (k+1) f fd ps (kO ⟨K,mg⟩ ps.length (j7 Nv fn)):=by
 obtain⟨oc,od,kV,doc,pm,an,cdv,ct,osl,rfl,lk,hcd⟩:=F.ex;refine⟨fun _ _ _ _ h=>h.1,fun A outer s H args us vs Q E hr hg e0 hbd r hsp=>?_⟩;obtain⟨hl,m,st,xs,hS,hR,hO⟩:=hsp;have KX:K.In s.heap:=e0.mod.kin.keeps fun b o e=>(e0.bs b o e).1;have lim:s.heap.NoLimit:=e0.mod.nolimit.keeps fun b o e=>(e0.bs b o e).1;have hul:us.length=ps.length:=by rw[←r.length,hl]
 have hloc:∀ y∈ps.zip us,(defScope aE).names.lookup y.1=some .local:=fun⟨n,v⟩ hy=>by
  rcases S.par n (List.of_mem_zip hy).1 with q |q
  ·exact q
  ·exact absurd rfl (hnc _ (PySem.mem_of_lookup q))
 refine codeAny_call_function hr.depth (KX _ _ lk) rfl S.co S.gen rfl (PySem.W.codeRec_of KX hcd) (hbd _ _ _ _ ?_);refine wpAny_newFunctionEnv hnc hloc (fun h1 hn1 hsb=>?_) S.kind;have hz:(ps.zip us).length=ps.length:=by rw[List.length_zip,hul,Nat.min_self]
 have keep:∀ b o,s.heap.get? b=some o->h1.get? b=some o:=fun b o e=>hsb.extBut b o (zbC (zbk e)) (zaT _ e);have hcl:cellsFrom (s.heap.objs.size+1) (defScope aE).names []=[]:=cells_none _ _ _ hnc;have hkl:∀ y∈ps.zip us,(envOfC qual (defScope aE) s.heap.objs.size f cdv).kindOf y.1=some .local:=fun y hy=>by
  first
  |exact hloc y hy
  |(simp only[Env.kindOf];exact hloc y hy)
  |(unfold Env.kindOf;rw[zah S.kind];exact hloc y hy)
  |simpa[Env.kindOf,envOfC,newEnv,S.kind]using hloc y hy
 have hm:(bindL (envOfC qual (defScope aE) s.heap.objs.size f cdv).kindOf (ps.zip us) fun _=>none)=fun x=>(ps.zip us).reverse.lookup x:=by
  funext y
  rw[bindL_loc _ _ hkl y];cases(ps.zip us).reverse.lookup y <;> rfl
 have hx:InCallC s s.heap.objs.size (bindL (envOfC qual (defScope aE) s.heap.objs.size f cdv).kindOf (ps.zip us) fun _=>none) (cellsFrom (s.heap.objs.size+1) (defScope aE).names [])
  (bindC (envOfC qual (defScope aE) s.heap.objs.size f cdv).kindOf (ps.zip us) fun _=>none) ({ s with heap:=h1,toks:=s.toks+(ps.zip us).length }:Shared):=by
  rw[hm,hcl];exact⟨⟨⟨_,_,rfl⟩,hn1,keep,zal _⟩,fun n c hc=>absurd hc (by simp),.nil,fun n c hc=>absurd hc (by simp)⟩
 have henv:newEnv (defScope aE) s.heap.objs.size mainGlobals [] (qual++".<locals>.") (some f) cdv none builtinsNs=envOfC qual (defScope aE) s.heap.objs.size f cdv:=by unfold envOfC;rw[hcl] <;> rfl
 have hto:1<=({ s with heap:=h1,toks:=s.toks+(ps.zip us).length }:Shared).toks:=by show 1<=s.toks+(ps.zip us).length;omega
 show ({ s with heap:=h1,toks:=s.toks+(ps.zip us).length }:Shared).heap.NoLimit/\codeAny (model P w) A (.func (defBody aE) (newEnv (defScope aE) s.heap.objs.size mainGlobals [] (qual++".<locals>.") (some f) cdv none builtinsNs)) _ ({ s with heap:=h1,toks:=s.toks+(ps.zip us).length }:Shared);rw[henv];generalize ({ s with heap:=h1,toks:=s.toks+(ps.zip us).length }:Shared)=s1 at hx hto⊢;refine⟨lim.keeps hx.toInCall.keep,codeAny_func ?_⟩;have I:=inv_start (CX:=gj b P w) (P:=P) (w:=w) (K:=K) (mg:=mg) (base:=base) (E:=E) S hr.hd e0 hl r hx;have B:Body b P w K mg base N (defScope aE) k (PySem.W.fnOf x qual (defArgs aE) (defBody aE) (defScope aE) .none kV doc pm an cdv ct) (cxOf (gj b P w) P w K mg base N qual (defScope aE) f cdv A outer s H E) (fun cls d _ H=>E cls d H):=⟨rfl,rfl,rfl,rfl,rfl,rfl,rfl,fun _=>rfl,rfl,hr.deeper _,hg,pX.of (b:=b) rfl rfl rfl rfl,passes_of rfl,rfl,rfl,rfl,rfl,rfl⟩;have hbody:=hb _ _ B;have hq:DS ⟨K,mg⟩ (fun cls d _ H=>E cls d H) (aF Nv fn.body) { nx:=fun _ H'=>Q .non H',rt:=Q } (L2.start N vs) H:=by
  refine⟨m,fq N.length xs,st,xH hS hR,?_⟩;unfold j7 at hO;have hlx:xs.length=fn.np:=by rw[←zao hR,hl,hnp]
  rw[zah hlx,hns]at hO;cases ex:aF Nv fn.body (fq N.length xs) st with
  |no=>rw[ex]at hO;exact hO.elim
  |exc z s=>rw[ex]at hO;exact hO.elim
  |ok fl st1=>
   rw[ex]at hO;intro m' H' e' s';cases fl with
   |next ρ=>
    have hO:Out (⟨K,mg⟩:Gx) (fun cls dd _ H'=>E cls dd H') m H [] (match aK fn.keep st true st1 with |some st2=>R.ok (Val.d .none) st2 |none=>.no) (fun v _ m' H'=>∀ x,Rep K H' m' x v->Q x H'):=hO
    cases hl:aK fn.keep st true st1 with
    |none=>rw[hl]at hO;exact hO.elim
    |some st2=>rw[hl]at hO;obtain⟨m2,h1,h2,_,_⟩:=jS e' hS s' hl;exact fun σ' _=>hO m2 H' h1 h2 _ (.d .non)
   |ret v=>
    have hO:Out (⟨K,mg⟩:Gx) (fun cls dd _ H'=>E cls dd H') m H [] (match aK fn.keep st (aI st.length v) st1 with |some st2=>R.ok v st2 |none=>.no) (fun v _ m' H'=>∀ x,Rep K H' m' x v->Q x H'):=hO
    cases hl:aK fn.keep st (aI st.length v) st1 with
    |none=>rw[hl]at hO;exact hO.elim
    |some st2=>rw[hl]at hO;obtain⟨m2,h1,h2,_,h3⟩:=jS e' hS s' hl;exact fun x rx=>hO m2 H' h1 h2 _ (h3 _ _ rx id)
   |brk ρ=>exact hO.elim
   |cont ρ=>exact hO.elim
   |exc e ρ=>
    have hO:Out (⟨K,mg⟩:Gx) (fun cls dd _ H'=>E cls dd H') m H [] (match aK fn.keep st (e.az.all fun p=>aI st.length p.2) st1 with |some st2=>(.exc e st2:R Val) |none=>.no) (fun v _ m' H'=>∀ x,Rep K H' m' x v->Q x H'):=hO
    cases hl:aK fn.keep st (e.az.all fun p=>aI st.length p.2) st1 with
    |none=>rw[hl]at hO;exact hO.elim
    |some st2=>rw[hl]at hO;obtain⟨m2,h1,h2,hst,h3⟩:=jS e' hS s' hl;refine fun σ' cls dd _ er=>hO m2 H' cls dd h1 h2 ?_;obtain⟨C,q1,q2,q3⟩:=er;refine⟨C,q1,q2,q3.imp id ?_⟩;rintro⟨d,fs,e1,e2,e3,e4⟩;exact⟨d,fs,e1,e2,(hst _ _ e2 e3).2,tZ h3 e4 id⟩
 refine zbV (hbody [] s1 (L2.start N vs) H _ hto I hq) (fun fl s' hs=>?_) fun e s' hs=>hs;have fin:∀ {σ':L2.St} {H':Hp} {v:V} {u:Value},Inv (cxOf (gj b P w) P w K mg base N qual (defScope aE) f cdv A outer s H E) [] σ' H' s'->RelV v u->Q v H'->CE outer P w H s Q u s':=fun {σ' H' v u} J rv q=>⟨v,H',J.os,J.bare,J.base,J.hok,rv,q⟩;cases fl with
 |ret u=>obtain⟨v,σ',H',J,rv,q⟩:=hs;exact fin J rv q
 |next=>obtain⟨σ',H',J,q⟩:=hs;exact fin (v:=V.non) (u:=Value.none) J rfl q
 |brk=>obtain⟨_,_,_,q⟩:=hs;exact q.elim
 |cont=>obtain⟨_,_,_,q⟩:=hs;exact q.elim
end
section
variable {CX:CXT} {X:Cx} {W:WX} {k:Nat} {f:Addr} {fd:FuncData} {ps:List Str} {Fm:List Val->aa->R Val} {x:Str} {p pos:Pos} {e:Expr} {es:List Expr} {fs:ae->aa->R (List Val)}
theorem run_gfn{sp:Sp}{E:XK}{pins:List (Addr×Obj)}{σ:L2.St}{H:Hp}{s:Shared}{Q:VK}{us:List Value}{vs:List V}(F:GFn CX X.prog X.w X.K X.mg X.base k f fd ps sp)(hr:Room k X.A)(hg:X.A.guards=some [])(hb:Binds X.K fd ps [])(hx:PassesAt CX X σ E)
 (I:Inv X pins σ H s) (r:Vals vs us) (h:sp vs H Q E):wpAny (model X.prog X.w) X.A (call (.ref f) us) (EP X pins σ Q) X.xe s:=by
 have hl:us.length=ps.length:=(r.length.symm).trans (F.len _ _ _ _ h);have b:=hb s us I.kIn (by rw[zau];exact hl);rw[zau]at b;refine wpAny_call (codeAny_mono (F.run X.A X.stack s H ⟨us,[]⟩ us vs Q E hr hg I.env0 b r h) fun r s' hq=>?_);cases r with
 |error e=>exact hx pins H s e s' I hq
 |ok fl=>cases fl with
  |ret u=>exact I.after hq
  |next=>exact hq.elim
  |brk=>exact hq.elim
  |cont=>exact hq.elim
theorem yy{σ:L2.St}{m:Mp}{H:Hp}{st:aa}{vs:List V}{xs:List Val}{Q:VK}(s:ak X.K H m st)(r:aW X.K H m vs xs)(hl:∀ vs st,Fm vs st= .no\/vs.length=ps.length)(o:Out (gx X) W m H σ (Fm xs st) fun x _ m' H'=>∀ v,Rep X.K H' m' v x->Q v H'):
 kO (gx X) ps.length Fm vs H Q (WE W σ):=by
 refine⟨?_,m,st,xs,s,r,?_⟩
 ·rcases hl xs st with h |h
  ·rw[h]at o;exact o.elim
  ·rw[zao r];exact h
 ·cases e:Fm xs st with
  |no=>rw[e]at o;exact o
  |exc z s=>rw[e]at o;exact o
  |ok z s=>rw[e]at o;exact o
theorem MX(C:bQ X)(tk:∀ σ,PassesAt CX X σ (WE W σ))(F:GFn CX X.prog X.w X.K X.mg X.base k f fd ps (kO (gx X) ps.length Fm))(hl:∀ vs st,Fm vs st= .no\/vs.length=ps.length)(hr:Room k X.A)(hg:Gl X x)(hm:X.mg x=some (.ref f))(hk:PySem.W.keepIn X.K (.ref f)=true)(hb:Binds X.K fd ps [])
 (hdb:(x == ("__debug__" : Str))=false) (hp:∀ y∈e::es,aG y=true) (ha:jN X W (e::es) fs):GE X W (.Call (.Name x p) (e::es) [] pos) (fun ρ st=>(fs ρ st).bind fun vs st1=>Fm vs st1):=by
 refine⟨fun pins s σ H Q I q=>?_⟩;obtain⟨m,ρ,st,r,o⟩:=q;refine zbl (ld_glob I hg hm ?_ hdb);refine PySem.W.callWith_K (h₀:=X.base) I.ok.mod.kin hk (thn (ha.run pos pins s σ H (fun vs H1=>kO (gx X) ps.length Fm vs H1 Q (WE W σ)) I ⟨m,ρ,st,r,(Out.bind o).imp fun xs st1 m1 H1 e1 s1 o1 vs rs=>yy s1 rs hl o1⟩) fun us s1 ⟨vs,H1,I1,rv,q⟩=>⟨I1.kIn,?_⟩) (aV (hp e zac) _ _) (di fun y hy=>hp y (zae _ hy));exact run_gfn F hr C.gd hb (tk σ) I1 rv q
theorem IE(C:bQ X)(tk:∀ σ,PassesAt CX X σ (WE W σ))(F:GFn CX X.prog X.w X.K X.mg X.base k f fd ps (kO (gx X) ps.length Fm))(hl:∀ vs st,Fm vs st= .no\/vs.length=ps.length)(hr:Room k X.A)(hg:Gl X x)(hm:X.mg x=some (.ref f))(hk:PySem.W.keepIn X.K (.ref f)=true)(hb:Binds X.K fd ps [])
 (hdb:(x == ("__debug__" : Str))=false):GE X W (.Call (.Name x p) [] [] pos) (fun ρ st=>(R.ok ([]:List Val) st).bind fun vs st1=>Fm vs st1):=by
 refine⟨fun pins s σ H Q I q=>?_⟩;obtain⟨m,ρ,st,r,o⟩:=q;refine zbl (ld_glob I hg hm (zca I.kIn hk ?_) hdb);exact run_gfn F hr C.gd hb (tk σ) I .nil (yy r.st .nil hl o)
end
structure QN (X:Cx) (o:Ob) (C:Addr):Prop where
 cls:Cls X.K C
 no:∀ f∈o.attrs,NoAttr X.K C f
structure kg (X:Cx) (ob:List Ob):Prop where
 at_:∀ o∈ob,∃ C,X.mg o.name=some (.ref C)/\PySem.W.nsIn X.K mainGlobals o.name=some (some (.ref C))/\QN X o C
theorem rY{l:List Ob}{x:Str}{o:Ob}(h:fW l x=some o):o∈l/\o.name=x:=by unfold fW at h;exact⟨List.mem_of_find?_eq_some h,by simpa using List.find?_some h⟩
section
variable {K:PySem.W.Frag} {H:Hp} {m:Mp}
theorem zG{vfs:List (Str×V)}{fs:List (Str×Val)}(h:eF K H m vfs fs):vfs.length=fs.length:=zao h
theorem qv{f:Str}:∀ {vfs:List (Str×V)} {fs:List (Str×Val)} {x:Val},eF K H m vfs fs->fs.lookup f=some x->∃ v,vfs.lookup f=some v/\Rep K H m v x
 |_,_,x,.nil,h=>by cases h
 |(f1,v1)::fv,(f2,d2)::fs,x,.cons h r,e=>by
  obtain⟨e1,r1⟩:=h;have e1:f1=f2:=e1;subst e1;by_cases hf:f=f1
  ·subst hf;simp only[za8,zbv]at e⊢;cases e;exact⟨v1,rfl,r1⟩
  ·have e3:(f == f1)=false:=by simpa using hf
   simp only[za8,e3]at e⊢;exact qv r e
theorem xJ{f:Str}:∀ {vfs:List (Str×V)} {fs:List (Str×Val)},eF K H m vfs fs->fs.lookup f=none->vfs.lookup f=none
 |_,_,.nil,h=>rfl
 |(f1,v1)::fv,(f2,d2)::fs,.cons h r,e=>by
  obtain⟨e1,r1⟩:=h;have e1:f1=f2:=e1;subst e1;by_cases hf:f=f1
  ·subst hf;simp only[za8,zbv]at e;cases e
  ·have e3:(f == f1)=false:=by simpa using hf
   simp only[za8,e3]at e⊢;exact xJ r e
theorem zH{f:Str}{v:V}{x:Val}(hr:Rep K H m v x):∀ {vfs:List (Str×V)} {fs:List (Str×Val)},eF K H m vfs fs->eF K H m (putF f v vfs) (nD f x fs)
 |_,_,.nil=>.cons ⟨rfl,hr⟩ .nil
 |(f1,v1)::fv,(f2,d2)::fs,.cons h r=>by
  obtain⟨e1,r1⟩:=h;have e1:f1=f2:=e1;subst e1;show eF K H m (if f1=f then(f1,v)::fv else(f1,v1)::putF f v fv) (if f1=f then(f,x)::fs else(f1,d2)::nD f x fs);by_cases hf:f1=f
  ·rw[zah hf,zah hf];exact .cons ⟨hf,hr⟩ r
  ·rw[zaj hf,zaj hf];exact .cons ⟨rfl,r1⟩ (zH hr r)
theorem qw{st:aa}(s:ak K H m st){z:V}{n:Nat}{c:Str}{fs:List (Str×Val)}(h:Rep K H m z (.loc n))(hc:st[n]?=some (.obj c fs)):
 ∃ p C dx vfs,m.ls[n]?=some (some p)/\z= .ref p/\PySem.W.nsIn K mainGlobals c=some (some (.ref C))/\H p=some (.ins C dx vfs)/\eF K H m vfs fs:=by
 obtain⟨p,hp,rfl,C,dx,vfs,h1,h2,h3⟩:=dQ s h hc (fun z=>by cases z);exact⟨p,C,dx,vfs,hp,rfl,h1,h2,h3⟩
end
theorem pH{D C:Addr}(h:some (some (Value.ref D))=some (some (Value.ref C))):D=C:=by have:=zam (zam h);exact zbF this
section
variable {X:Cx} {W:WX} {ob:List Ob} {a:Expr} {fa:ae->aa->R Val}
theorem oj(ho:kg X ob){c:Str}{o:Ob}(h:fW ob c=some o){C:Addr}(hC:PySem.W.nsIn X.K mainGlobals c=some (some (.ref C))):X.mg c=some (.ref C)/\QN X o C:=by obtain⟨hm,hn⟩:=rY h;obtain⟨D,q1,q2,q3⟩:=ho.at_ o hm;rw[hn]at q1 q2;rw[hC]at q2;obtain rfl:=pH q2;exact⟨q1,q3⟩
def QO(X:Cx)(f:Str)(Q:VK)(x:V)(H1:Hp):Prop:=
 (∃ (a D:Addr) (fs:List (Str×V)) (v:V),x= .ref a/\yV H1 a D fs/\XfC X.K D/\PySem.W.findIn X.K (.ref D) f=some none/\fs.lookup f=some v/\Q v H1)\/
 (∃ a C dx fs v,x= .ref a/\H1 a=some (.ins C dx fs)/\Cls X.K C/\NoAttr X.K C f/\fs.lookup f=some v/\Q v H1)
theorem MY{e:Expr}{te:TE}{pos:Pos}{f:Str}(he:PE X e te)(hb:attributeBase e f X.env (eval e X.env)=eval e X.env):PE X (.Attribute e f pos) (fun σ H Q=>te σ H (QO X f Q)):=by
 refine⟨fun pins s σ H Q I h=>?_⟩;refine attr_of hb (thn (he.run pins s σ H _ I h) fun u s1 ⟨x,H1,I1,rx,q⟩=>?_);rcases q with⟨a,D,fs,v,ex,hx,T,hno,l,q⟩|⟨a,C,dx,fs,v,ex,ea,c,n,l,q⟩
 ·subst ex;obtain rfl:u=Value.ref a:=rx;obtain⟨d,e1,e2⟩:=hx;obtain⟨oe,h1,h2,vs,h3⟩:=KZ I1 e1;rcases e2 with⟨_,rfl⟩|⟨dd,rfl,e3⟩
  ·cases l
  ·obtain⟨mA,hns,hr⟩:=I1.hok dd _ e3;obtain⟨od,ho,hl⟩:=lookIn_ns hns;obtain⟨u,hu,ru⟩:=RelO.some_of (v:=v) (o:=mA f) (by rw[←l];exact hr f);have J:PySem.W.InstAt s1.heap a oe D (some od):=⟨h1,h2.1,by unfold PySem.W.notCls;rw[h3],by rw[h2.2];exact ho⟩;exact HandSPX.exc_get I1.kIn J T.ga T.gg T.exC (PySem.W.findObj_own T.hdC hno rfl (by rw[hl,hu])) (handed_of ru) ⟨v,H1,I1.tok _,ru,q⟩
 ·subst ex;obtain rfl:u=Value.ref a:=rx;exact getattr_ok I1 ea c n l fun u' s2 I2 ru=>⟨v,H1,I2,ru,q⟩
theorem qx{cl:List Cl}{f:Str}{n:Nat}{st st1:aa}{z:Val}(h:cU cl ob f (.loc n) st=some (z,st1)):∃ c fs o,st[n]?=some (.obj c fs)/\fW ob c=some o/\f∈o.attrs/\fs.lookup f=some z/\st1=st:=by
 have h:(match st[n]? with
  |some (.obj c fs)=>(fW ob c).bind fun o=>guard' (o.attrs.contains f=true) ((fs.lookup f).map fun v=>(v,st))
  |_=>none)=some (z,st1):=h
 split at h
 ·rename_i c fs hc;obtain⟨o,h1,h2⟩:=zax.mp h;unfold guard' at h2;split at h2
  ·rename_i h3;obtain⟨v,h4,h5⟩:=zaG.mp h2;cases h5;exact⟨c,fs,o,hc,h1,by simpa using h3,h4,rfl⟩
  ·cases h2
 ·cases h
theorem IF{cl:List Cl}(ho:kg X ob){m:Mp}{H:Hp}{st st1:aa}{f:Str}{n:Nat}{z:V}{w:Val}{Q:VK}(s:ak X.K H m st)(rz:Rep X.K H m z (.loc n))(h:cU cl ob f (.loc n) st=some (w,st1))(hq:∀ v,Rep X.K H m v w->Q v H):QO X f Q z H:=by obtain⟨c,fs,o,hc,h1,h2,h3,_⟩:=qx h;obtain⟨p,C,dx,vfs,hp,rfl,q1,q2,q3⟩:=qw s rz hc;obtain⟨_,A⟩:=oj ho h1 q1;obtain⟨v,g1,g2⟩:=qv q3 h3;exact .inr ⟨p,C,dx,vfs,v,rfl,q2,A.cls,A.no f h2,g1,hq v g2⟩
theorem xM{f:Str}{o v:Val}{st st1:aa}(h:bF ob f o v st=some st1):∃ n c fs k,o= .loc n/\st[n]?=some (.obj c fs)/\fW ob c=some k/\f∈k.attrs/\fs.length<1000/\st1=st.set n (.obj c (nD f v fs)):=by
 unfold bF at h;split at h
 ·rename_i n;split at h
  ·rename_i c fs hc;obtain⟨k,h1,h2⟩:=zax.mp h;split at h2
   ·rename_i h3;cases h2;exact⟨n,c,fs,k,rfl,hc,h1,by simpa using h3.1,h3.2,rfl⟩
   ·cases h2
  ·cases h
 ·cases h
theorem BQ{m:Mp}{H:Hp}{st:aa}{p dx C:Addr}{n:Nat}{c f:Str}{fs:List (Str×Val)}{vfs:List (Str×V)}{v:V}{x:Val}(s:ak X.K H m st)(hp:m.ls[n]?=some (some p))(q1:PySem.W.nsIn X.K mainGlobals c=some (some (.ref C)))(q2:H p=some (.ins C dx vfs))(q3:eF X.K H m vfs fs)(rv:Rep X.K H m v x):
 Ext m H m (upd H p (.ins C dx (putF f v vfs)))/\ak X.K (upd H p (.ins C dx (putF f v vfs))) m (st.set n (.obj c (nD f x fs))):=by
 have e:=fH (o':=.ins C dx (putF f v vfs)) (zag hp) q2;exact⟨e,rN s hp q2 ⟨C,dx,putF f v vfs,q1,upd_same,zH (rv.ext e) (q3.ext e)⟩⟩
theorem QR{pos:Pos}{f:Str}(ho:kg X ob)(ha:GE X W a fa):PG X (.Attribute a f pos) (DG (gx X) [] fun v ρ st=>(fa ρ st).bind fun o st1=>match bF ob f o v st1 with
 |some st2=>.ok ρ st2
 |none=>.no):=by
 refine⟨fun pins s σ H v u Q I ru q=>?_⟩;obtain⟨m,ρ,st,x,r,rx,o⟩:=q;refine PySem.W.kas_attr (thn (ha.run pins s σ H (fun y H1=>∃ a C dx fs,y= .ref a/\H1 a=some (.ins C dx fs)/\Cls X.K C/\NoAttr X.K C f/\fs.length<1000/\Q σ (upd H1 a (.ins C dx (putF f v fs)))) I ⟨m,ρ,st,r,ao.out ((ao.bind o).imp fun y st1 m1 H1 e1 s1 o1 z rz=>?_)⟩) fun ov s1 ⟨y,H1,I1,ry,p,C,dx,fs,ey,ea,c,n,l,q⟩=>?_)
 ·cases hs:bF ob f y x st1 with
  |none=>rw[hs]at o1;exact o1.elim
  |some st2=>rw[hs]at o1;obtain⟨k,c,fs,ko,rfl,hc,h1,h2,h3,rfl⟩:=xM hs;obtain⟨p,C,dx,vfs,hp,rfl,q1,q2,q3⟩:=qw s1 rz hc;obtain⟨_,A⟩:=oj ho h1 q1;obtain⟨e2,s2⟩:=BQ (f:=f) s1 hp q1 q2 q3 (rx.ext e1);exact⟨p,C,dx,vfs,rfl,q2,A.cls,A.no f h2,by rw[zG q3];exact h3,o1 m1 _ e2 s2 σ ((r.ext e1 s1).ext e2 s2) fun _ _=>rfl⟩
 ·subst ey;obtain rfl:ov=Value.ref p:=ry;exact setattr_ok I1 ea c n l ru fun s3 I3=>⟨σ,_,I3,q⟩
end
def yz(K:PySem.W.Frag)(fd:FuncData)(ps ks:List Str):Prop:=(ks=[]/\Binds K fd ps [])\/(ks≠[]/\∃ n,n+1+ks.length=ps.length/\KBn K fd ps (n+1) ks (fun us ws=>us++ws) (fun vs zs=>vs++zs))
def MethAt(b:Bool)(X:Cx)(Fm:List Val->aa->R Val)(C:Addr)(mn:Str)(ks:List Str):Prop:=∃ fa fd ps k,Meth X.K C mn fa/\yz X.K fd ps ks/\GFn (gj b X.prog X.w) X.prog X.w X.K X.mg X.base k fa fd ps (kO (gx X) ps.length Fm)/\Room (k+1) X.A/\(∀ vs st,Fm vs st= .no\/vs.length=ps.length)/\(mn="__init__"->Mk X.K C fa)
theorem Fq{ob:List Ob}{c mn:Str}{v:Val}{st:aa}{i:Nat}(h:cG ob c mn v st=some i):∃ n fs,v= .loc n/\st[n]?=some (.obj c fs)/\fs.lookup mn=none/\cD ob c mn=some i:=by
 unfold cG at h;split at h
 ·rename_i n;split at h
  ·rename_i c' fs hc;split at h
   ·rename_i h2;obtain⟨rfl,h2⟩:=h2;exact⟨n,fs,rfl,hc,h2,h⟩
   ·cases h
  ·cases h
 ·cases h
theorem tF{M:Model}{A:Around}{E:Value->Shared->Prop}{s:Shared}{env:Env}{a:Expr}{mn:Str}{apos pos:Pos}{es:List Expr}{Q:Value->Shared->Prop}(hb:eK a=true)(hp:∀ y∈es,aG y=true)(hk:es.length<30)(hl:(apos.endLine == pos.line)=true)
 (h:wpAny M A (eval a env) (fun ov s₁=>∀ pl,wpAny M A (getMethod ov mn pl) (fun p s₂=>wpAny M A (callWith pos p.1 p.2 (backTo pos (starEach es env)) (backToKw pos (keywordEach [] env))) Q E s₂) E s₁) E s) :
 wpAny M A (eval (.Call (.Attribute a mn apos) es [] pos) env) Q E s:=by
 have hfew:methodCallForm (es.length+([]:List Keyword).length) (backTo pos (starEach es env)) (backToKw pos (keywordEach [] env))=true:=by unfold methodCallForm;rw[tW hp];show (true && true && decide (es.length+0+0<30))=true;simpa using hk
 have hpos:methodCallPos true a env apos pos=pure pos:=by unfold methodCallPos;simp[hl]
 rw[arm_eval_Call,lM hb];refine zaq (zbV h (fun ov s₁ h₁=>?_) fun _ _ e=>e);refine zaq (wpAny_standAt ?_);unfold methodCall;rw[hfew];refine zaq (za5 (zbV (h₁ _) (fun p s₂ h₂=>?_) fun _ _ e=>e));exact zaq (wpAny_of_eq hpos h₂)
section
variable {b:Bool} {X:Cx} {W:WX} {ob:List Ob} {a e:Expr} {es:List Expr} {fa:ae->aa->R Val} {fs:ae->aa->R (List Val)} {c mn:Str} {i:Nat} {Fns:Nat->List Val->aa->R Val} {pos apos p:Pos} {C0:Addr} {o:Ob}
theorem xO{ps:List Str}{m:Mp}{ρ:ae}{st:aa}{σ:L2.St}{H:Hp}{Q:VK}(ho:kg X ob)(hob:fW ob c=some o)(hC:PySem.W.nsIn X.K mainGlobals c=some (some (.ref C0)))(hi:cD ob c mn=some i)(hl:∀ vs st,Fns i vs st= .no\/vs.length=ps.length)
 (r:Rel X.K H m σ ρ st) (q:Out (gx X) W m H σ ((fa ρ st).bind fun v st1=>match cG ob c mn v st1 with |some i=>(fs ρ st1).bind fun vs st2=>Fns i (v::vs) st2 |none=>.no) fun x _ m' H'=>∀ v,Rep X.K H' m' v x->Q v H') :
 DE (gx X) W fa σ H (fun x H1=>∃ p dx vfs,x= .ref p/\H1 p=some (.ins C0 dx vfs)/\vfs.lookup mn=none/\DA (gx X) W fs σ H1 (fun vs H2=>kO (gx X) ps.length (Fns i) (x::vs) H2 Q (WE W σ))):=by
 refine⟨m,ρ,st,r,(Out.bind q).imp fun v st1 m1 H1 e1 s1 o1 z rz=>?_⟩;cases hm:cG ob c mn v st1 with
 |none=>rw[hm]at o1;exact o1.elim
 |some j=>rw[hm]at o1;obtain⟨n,fs',rfl,hc,h1,h2⟩:=Fq hm;rw[hi]at h2;obtain rfl:=zam h2;obtain⟨p,C,dx,vfs,hp,rfl,q1,q2,q3⟩:=qw s1 rz hc;rw[hC]at q1;obtain rfl:=pH q1;exact⟨p,dx,vfs,rfl,q2,xJ q3 h1,m1,ρ,st1,r.ext e1 s1,(Out.bind o1).imp fun xs st2 m2 H2 e2 s2 o2 vs rs=>yy s2 (.cons (rz.ext e2) rs) hl o2⟩
theorem IG(C:bQ X)(tk:∀ σ,PassesAt (gj b X.prog X.w) X σ (WE W σ))(ho:kg X ob)(hob:fW ob c=some o)(hi:cD ob c mn=some i)(hC:PySem.W.nsIn X.K mainGlobals c=some (some (.ref C0)))(M:MethAt b X (Fns i) C0 mn [])(hp:∀ y∈e::es,aG y=true)(hnb:eK a=true)(hk:(e::es).length<30)(hl9:(apos.endLine == pos.line)=true)(ha:GE X W a fa)(hes:jN X W (e::es) fs):
 GE X W (.Call (.Attribute a mn apos) (e::es) [] pos) (fun ρ st=>(fa ρ st).bind fun v st1=>match cG ob c mn v st1 with |some i=>(fs ρ st1).bind fun vs st2=>Fns i (v::vs) st2 |none=>.no):=by
 obtain⟨_,A⟩:=oj ho hob hC;obtain⟨f,fd,ps,k,me,bk,F,hr,hl,_⟩:=M;have hb:Binds X.K fd ps []:=by
  rcases bk with h |h
  ·exact h.2
  ·exact absurd rfl h.1
 refine⟨fun pins s σ H Q I q=>?_⟩;obtain⟨m,ρ,st,r,o⟩:=q;refine tF hnb hp hk hl9 (thn (ha.run pins s σ H _ I (xO ho hob hC hi hl r o)) fun u s1 ⟨x,H1,I1,rx,p,dx,vfs,ex,ea,l,q⟩ pl=>?_);subst ex;obtain rfl:u=Value.ref p:=rx;refine getmeth_ok I1 ea A.cls me l ?_;refine PySem.W.callWith_K (first:=[.ref p]) (h₀:=X.base) I.ok.mod.kin me.kp (thn (hes.run pos pins s1 σ H1 _ I1 q) fun us s2 ⟨vs,H2,I2,r,q2⟩=>⟨I2.kIn,?_⟩) (aV (hp e zac) _ _) (di fun y hy=>hp y (zae _ hy));exact run_gfn (us:=.ref p::us) (vs:=.ref p::vs) F (hr.mono (by omega)) C.gd hb (tk σ) I2 (.cons rfl r) q2
theorem Ft(C:bQ X)(tk:∀ σ,PassesAt (gj b X.prog X.w) X σ (WE W σ))(ho:kg X ob)(hob:fW ob c=some o)(hi:cD ob c mn=some i)(hC:PySem.W.nsIn X.K mainGlobals c=some (some (.ref C0)))(M:MethAt b X (Fns i) C0 mn [])(hnb:eK a=true)(hl9:(apos.endLine == pos.line)=true)(ha:GE X W a fa):
 GE X W (.Call (.Attribute a mn apos) [] [] pos) (fun ρ st=>(fa ρ st).bind fun v st1=>match cG ob c mn v st1 with |some i=>(R.ok ([]:List Val) st1).bind fun vs st2=>Fns i (v::vs) st2 |none=>.no):=by
 obtain⟨_,A⟩:=oj ho hob hC;obtain⟨f,fd,ps,k,me,bk,F,hr,hl,_⟩:=M;have hb:Binds X.K fd ps []:=by
  rcases bk with h |h
  ·exact h.2
  ·exact absurd rfl h.1
 refine⟨fun pins s σ H Q I q=>?_⟩;obtain⟨m,ρ,st,r,o⟩:=q;refine tF hnb (fun y hy=>by cases hy) (by decide) hl9 (thn (ha.run pins s σ H _ I (xO (fs:=fun _ st=>R.ok ([]:List Val) st) ho hob hC hi hl r o)) fun u s1 ⟨x,H1,I1,rx,p,dx,vfs,ex,ea,l,m1,ρ1,st1,r1,q⟩ pl=>?_);subst ex;obtain rfl:u=Value.ref p:=rx;refine getmeth_ok I1 ea A.cls me l ?_;have q:=Out.here q r1.st _ .nil;exact PySem.W.callWith_K0 (first:=[.ref p]) I1.kIn me.kp (run_gfn (us:=[.ref p]) (vs:=[.ref p]) F (hr.mono (by omega)) C.gd hb (tk σ) I1 (.cons rfl .nil) q)
theorem zI{ps:List Str}{Fm:List Val->aa->R Val}{m:Mp}{st:aa}{σ:L2.St}{H:Hp}{Q:VK}{vs:List V}{xs:List Val}(hC:PySem.W.nsIn X.K mainGlobals c=some (some (.ref C0)))(hl:∀ vs st,Fm vs st= .no\/vs.length=ps.length)
 (s:ak X.K H m st) (r:aW X.K H m vs xs) (q:Out (gx X) W m H σ (newR c Fm xs st) fun x _ m' H'=>∀ v,Rep X.K H' m' v x->Q v H') (x dx:Addr) (hx:H x=none) (hdx:H dx=none) (ne:dx≠x) :
 kO (gx X) ps.length Fm (.ref x::vs) (upd (upd H dx (.own x)) x (.ins C0 dx [])) (fun v H2=>v= .non/\Q (.ref x) H2) (WE W σ):=by
 have s1:ak X.K (upd H dx (.own x)) m st:=s.le (bf hdx);have hx1:upd H dx (.own x) x=none:=by rw[upd_ne (fun z=>ne z.symm)];exact hx
 have e2:Ext m (upd H dx (.own x)) (m.push x) (upd (upd H dx (.own x)) x (.ins C0 dx [])):=eU hx1;have s2:ak X.K (upd (upd H dx (.own x)) x (.ins C0 dx [])) (m.push x) (st++[.obj c []]):=kL s1 hx1 ⟨C0,dx,[],hC,upd_same,.nil⟩;have e3:Ext m H (m.push x) (upd (upd H dx (.own x)) x (.ins C0 dx [])):=(bH (bf hdx)).trans e2;have hlen:(m.push x).ls.length=m.ls.length+1:=by unfold Mp.push;simp
 have hat:(m.push x).ls[st.length]?=some (some x):=by unfold Mp.push;rw[←s.len];simp
 have rl:Rep X.K (upd (upd H dx (.own x)) x (.ins C0 dx [])) (m.push x) (.ref x) (.loc st.length):=.loc (by rw[hlen,s.len];omega) fun a h=>by rw[hat]at h;cases h;rfl
 refine yy s2 (.cons rl (aW.ext e3 r)) hl ((Out.from e3 (Out.bind q)).imp fun v st2 m2 H2 e4 s4 o4 w rw'=>?_);match v,o4,rw' with
 | .d .none,o4,rw'=>exact⟨lK rw',(Out.here o4 s4) _ (rl.ext e4)⟩
 | .d (.bool _),o4,_=>exact o4.elim
 | .d (.int _),o4,_=>exact o4.elim
 | .d (.str _),o4,_=>exact o4.elim
 | .d (.list _),o4,_=>exact o4.elim
 | .d (.tuple _),o4,_=>exact o4.elim
 | .d (.dict _),o4,_=>exact o4.elim
 | .loc _,o4,_=>exact o4.elim
 | .bW _,o4,_=>exact o4.elim
 | .xc _ _,o4,_=>exact o4.elim
 | .td _,o4,_=>exact o4.elim
 | .dN _ _,o4,_=>exact o4.elim
 | .eo _ _,o4,_=>exact o4.elim
theorem qy{k:Nat}{f:Addr}{fd:FuncData}{ps:List Str}{sp:Sp}{E:XK}{pins:List (Addr×Obj)}{σ:L2.St}{H:Hp}{s:Shared}{Q:VK}{us ws:List Value}{ks:List Str}{vs zs:List V}(M:Mk X.K C0 f)(F:GFn (gj b X.prog X.w) X.prog X.w X.K X.mg X.base k f fd ps sp)(hr:Room (k+1) X.A)(hg:X.A.guards=some [])
 (hb:∀ (s:Shared) (u:Value),X.K.In s.heap->((u::us)++ws).length=ps.length->BindsTo s fd ⟨u::us,ks.zip ws⟩ (ps.zip ((u::us)++ws))) (hx:PassesAt (gj b X.prog X.w) X σ E) (I:Inv X pins σ H s) (r:Vals vs us) (rz:Vals zs ws)
 (h:∀ x dx,H x=none->H dx=none->dx≠x->sp (.ref x::(vs++zs)) (upd (upd H dx (.own x)) x (.ins C0 dx [])) (fun v H2=>v= .non/\Q (.ref x) H2) E) :
 wpAny (model X.prog X.w) X.A (call (.ref C0) us (ks.zip ws)) (EP X pins σ Q) X.xe s:=by
 have hq:=h (s.heap.objs.size+1) s.heap.objs.size (I.hok.fresh (Nat.le_succ _)) (I.hok.fresh (zal _)) (zbC (Nat.lt_succ_self _));have I2:=Inv.made (C:=C0) I;have r2:Vals (V.ref (s.heap.objs.size+1)::(vs++zs)) (Value.ref (s.heap.objs.size+1)::(us++ws)):=.cons rfl (r.append rz);have hl:((Value.ref (s.heap.objs.size+1)::us)++ws).length=ps.length:=by have e:=r2.length;rw[F.len _ _ _ _ hq]at e;exact e.symm
 refine wpAny_call (make_map (f:=f) I.kIn M.makes M.init (zbA.mp M.fn) (codeAny_mono (F.run _ X.stack _ _ ⟨Value.ref (s.heap.objs.size+1)::us,ks.zip ws⟩ (Value.ref (s.heap.objs.size+1)::(us++ws)) _ _ E (hr.make C0 us (ks.zip ws)) hg
  (I2.env0.make C0 us (ks.zip ws)) (hb _ _ I2.kIn hl) r2 hq) fun r s' hq'=>?_))
 cases r with
 |error e=>exact hx pins _ _ e s' I2 hq'
 |ok fl=>
  cases fl with
  |ret u=>obtain⟨v,H',I3,rv,ev,q3⟩:=I2.after hq';subst ev;exact⟨rv,⟨V.ref (s.heap.objs.size+1),H',I3,rfl,q3⟩⟩
  |next=>exact False.elim hq'
  |brk=>exact False.elim hq'
  |cont=>exact False.elim hq'
theorem Fv{fd:FuncData}{ps:List Str}(h:yz X.K fd ps [])(us:List Value)(s:Shared)(u:Value)(k:X.K.In s.heap)(l:((u::us)++([]:List Value)).length=ps.length):BindsTo s fd ⟨u::us,(([]:List Str).zip ([]:List Value))⟩ (ps.zip ((u::us)++[])):=by
 rcases h with h |h
 ·have:=h.2 s (u::us) k l;exact this
 ·exact absurd rfl h.1
theorem QS(C:bQ X)(tk:∀ σ,PassesAt (gj b X.prog X.w) X σ (WE W σ))(hi:cD ob c "__init__" = some i)(hg:Gl X c)(hdb:(c == ("__debug__" : Str))=false)(hm:X.mg c=some (.ref C0))(hC:PySem.W.nsIn X.K mainGlobals c=some (some (.ref C0)))(M:MethAt b X (Fns i) C0 "__init__" [])(hp:∀ y∈e::es,aG y=true)(hes:jN X W (e::es) fs):
 GE X W (.Call (.Name c p) (e::es) [] pos) (fun ρ st=>(fs ρ st).bind fun vs st1=>newR c (Fns i) vs st1):=by
 obtain⟨f,fd,ps,k,me,bk,F,hr,hl,mk⟩:=M;have mk:=mk rfl;refine⟨fun pins s σ H Q I q=>?_⟩;obtain⟨m,ρ,st,r,o⟩:=q;refine zbl (ld_glob I hg hm ?_ hdb);refine PySem.W.callWith_K (h₀:=X.base) I.ok.mod.kin mk.kp (thn (hes.run pos pins s σ H (fun vs H1=>∀ x dx,H1 x=none->H1 dx=none->dx≠x->kO (gx X) ps.length (Fns i) (.ref x::vs) (upd (upd H1 dx (.own x)) x (.ins C0 dx [])) (fun v H2=>v= .non/\Q (.ref x) H2) (WE W σ)) I
  ⟨m,ρ,st,r,(Out.bind o).imp fun xs st1 m1 H1 e1 s1 o1 vs rs=>zI hC hl s1 rs o1⟩) fun us s1 ⟨vs,H1,I1,rv,q⟩=>⟨I1.kIn,?_⟩) (aV (hp e zac) _ _) (di fun y hy=>hp y (zae _ hy))
 exact qy (us:=us) (ws:=[]) (ks:=[]) (zs:=[]) mk F hr C.gd (Fv bk us) (tk σ) I1 rv .nil (by simpa only[zau]using q)
theorem Out.val{g:Gx}{α:Type}{m:Mp}{H:Hp}{σ:L2.St}{r:R α}{k:α->aa->Mp->Hp->Prop}(h:Out g W m H σ r k):Out g W m H σ r fun a st m' H'=>r= .ok a st/\k a st m' H':=by
 cases r with
 |ok a st=>exact fun m' H' e s=>⟨rfl,h m' H' e s⟩
 |exc x st=>exact h
 |no=>exact h
theorem MZ{kw:Str}{ke:Expr}{kp:Pos}{fk:ae->aa->R (List Val)}(C:bQ X)(tk:∀ σ,PassesAt (gj b X.prog X.w) X σ (WE W σ))(hi:cD ob c "__init__" = some i)(hg:Gl X c)(hdb:(c == ("__debug__" : Str))=false)(hm:X.mg c=some (.ref C0))(hC:PySem.W.nsIn X.K mainGlobals c=some (some (.ref C0)))(M:MethAt b X (Fns i) C0 "__init__" [kw])(hp:∀ y∈e::es,aG y=true)(hes:jN X W (e::es) fs)(hkw:PK X [⟨some kw,ke,kp⟩] (DA (gx X) W fk))(hfk:∀ ρ st zs st1,fk ρ st= .ok zs st1->zs.length=1):
 GE X W (.Call (.Name c p) (e::es) [⟨some kw,ke,kp⟩] pos) (fun ρ st=>(fs ρ st).bind fun vs st1=>(fk ρ st1).bind fun zs st2=>newR c (Fns i) (vs++zs) st2):=by
 obtain⟨f,fd,ps,k,me,bk,F,hr,hl,mk⟩:=M;have mk:=mk rfl;refine⟨fun pins s σ H Q I q=>?_⟩;obtain⟨m,ρ,st,r,o⟩:=q;refine zbl (ld_glob I hg hm ?_ hdb);have hst:=aV (hp e zac) es X.env;have hpb:(backTo pos (starEach (e::es) X.env)).any (·.1)=false:=di hp;refine PySem.W.callWith_KW (h₀:=X.base) I.ok.mod.kin mk.kp (by rfl) (thn (hes.run pos pins s σ H (fun vs H1=>DA (gx X) W fk σ H1 fun zs H2=>zs.length=1/\∀ x dx,H2 x=none->H2 dx=none->dx≠x->kO (gx X) ps.length (Fns i) (.ref x::(vs++zs)) (upd (upd H2 dx (.own x)) x (.ins C0 dx [])) (fun v H3=>v= .non/\Q (.ref x) H3) (WE W σ)) I
  ⟨m,ρ,st,r,(Out.bind o).imp fun xs st1 m1 H1 e1 s1 o1 vs rs=>⟨m1,ρ,st1,r.ext e1 s1,(Out.val (Out.bind o1)).imp fun zs st2 m2 H2 e2 s2 o2 ws rz=>⟨by rw[zao rz];exact hfk _ _ _ _ o2.1,zI hC hl s2 (bM (aW.ext e2 rs) rz) o2.2⟩⟩⟩) fun us s1 ⟨vs,H1,I1,rv,q⟩=>?_) (by rw[hpb];rfl) hst
 refine thn (hkw.run pos pins s1 σ H1 _ I1 q) fun ws s2 ⟨zs,H2,I2,rz,l1,q2⟩=>⟨I2.kIn,?_⟩;refine qy (us:=us) (ws:=ws) (ks:=[kw]) (zs:=zs) mk F hr C.gd (fun s u kin l=>?_) (tk σ) I2 rv rz q2;rcases bk with⟨h,_⟩|⟨_,n,hn,hb⟩
 ·cases h
 ·have e1:ws.length=1:=by rw[←rz.length];exact l1
  exact hb.to s (u::us) ws kin (by simp only[zav,zaf]at l hn⊢;simp only[zbx]at hn;omega) (by simpa using e1)
theorem M3(C:bQ X)(tk:∀ σ,PassesAt (gj b X.prog X.w) X σ (WE W σ))(hi:cD ob c "__init__" = some i)(hg:Gl X c)(hdb:(c == ("__debug__" : Str))=false)(hm:X.mg c=some (.ref C0))(hC:PySem.W.nsIn X.K mainGlobals c=some (some (.ref C0)))(M:MethAt b X (Fns i) C0 "__init__" []):
 GE X W (.Call (.Name c p) [] [] pos) (fun ρ st=>(R.ok ([]:List Val) st).bind fun vs st1=>newR c (Fns i) vs st1):=by
 obtain⟨f,fd,ps,k,me,bk,F,hr,hl,mk⟩:=M;have mk:=mk rfl;refine⟨fun pins s σ H Q I q=>?_⟩;obtain⟨m,ρ,st,r,o⟩:=q;refine zbl (ld_glob I hg hm ?_ hdb);refine zca I.kIn mk.kp ?_;exact qy (us:=[]) (ws:=[]) (ks:=[]) (vs:=[]) (zs:=[]) mk F hr C.gd (Fv bk []) (tk σ) I .nil .nil (zI hC hl r.st .nil o)
end
def II(K:PySem.W.Frag)(ta tv:TE)(rd:V->V->Hp->VK->Prop)(f:Str):TS:=fun D σ H=>ta σ H fun x H1=>∃ a C dx fs v,x= .ref a/\H1 a=some (.ins C dx fs)/\Cls K C/\NoAttr K C f/\fs.lookup f=some v/\ tv σ H1 fun y H2=>rd v y H2 fun z H3=>∃ C' dx' fs',H3 a=some (.ins C' dx' fs')/\Cls K C'/\NoAttr K C' f/\fs'.length<1000/\D.nx σ (upd H3 a (.ins C' dx' (putF f z fs')))
theorem CU{X:Cx}{o value:Expr}{f:Str}{pos tpos:Pos}{ta tv:TE}{op:Operator}{rd:V->V->Hp->VK->Prop}(ha:PE X o ta)(hv:PE X value tv)(hop:InOp X op rd):PS X (.AugAssign (.Attribute o f tpos) op value pos) (II X.K ta tv rd f):=by refine⟨fun pins s σ H D I h=>?_⟩;refine wpAny_AugAssign_AttributeAny (thn (ha.run pins s σ H _ I h) fun ov s1 ⟨x,H1,I1,rx,a,C,dx,fs,v,ex,ea,c,n,l,q⟩=>?_);subst ex;obtain rfl:ov=Value.ref a:=rx;refine getattr_ok I1 ea c n l fun u s2 I2 ru=>thn (hv.run pins s2 σ H1 _ I2 q) fun w3 s3 ⟨y,H2,I3,ry,q3⟩=>thn (hop pins s3 σ H2 v y u w3 _ I3 ru ry q3) fun w4 s4 ⟨z,H3,I4,rz,C',dx',fs',ea',c',n',l',q4⟩=>?_;exact setattr_ok I4 ea' c' n' l' rz fun s5 I5=>⟨σ,_,I5,q4⟩
def CV(X:Cx)(op:Operator)(o:jK):Prop:=∃ rd,InOp X op rd/\∀ {m:Mp} {H:Hp} {st st1:aa} {v u z:Val} {vx ux:V} {Q:VK},Rep X.K H m vx v->Rep X.K H m ux u->j6 o v u st=some (z,st1)->(∀ w,Rep X.K H m w z->Q w H)->st1=st/\rd vx ux H Q
theorem M4(X:Cx):CV X .Add .add:=by
 refine⟨fun x y H Q=>rAdd x y H Q\/rAddS x y H Q,?_,?_⟩
 ·rintro pins s σ H x y u v Q I rx ry (h |h)
  ·exact in_add pins s σ H x y u v Q I rx ry h
  ·exact in_addS pins s σ H x y u v Q I rx ry h
 ·intro m H st st1 v u z vx ux Q rv ru h hq;unfold j6 at h;split at h
  ·rename_i i j;have h:some (Val.d (.int (i+j)),st)=some (z,st1):=h;cases h;obtain rfl:=ay rv;obtain rfl:=ay ru;exact⟨rfl,.inl ⟨i,j,rfl,rfl,hq _ (.d (.int _))⟩⟩
  ·rename_i i j;have h:guard' (i.length+j.length<=sizeLine) (some (Val.d (.str (i++j)),st))=some (z,st1):=h;unfold guard' at h;split at h
   ·rename_i hl;cases h;obtain rfl:=aQ rv;obtain rfl:=aQ ru;exact⟨rfl,.inr ⟨i,j,rfl,rfl,hl,hq _ (.d (.str _))⟩⟩
   ·cases h
  ·cases h
theorem M5(X:Cx):CV X .Sub .sub:=by
 refine⟨rSub,in_sub,?_⟩;intro m H st st1 v u z vx ux Q rv ru h hq;unfold j6 at h;split at h
 ·rename_i i j;have h:some (Val.d (.int (i-j)),st)=some (z,st1):=h;cases h;obtain rfl:=ay rv;obtain rfl:=ay ru;exact⟨rfl,⟨i,j,rfl,rfl,hq _ (.d (.int _))⟩⟩
 ·cases h
 ·cases h
section
variable {X:Cx} {W:WX} {ob:List Ob} {a e:Expr} {fa fe:ae->aa->R Val}
theorem BR{op:Operator}{o:jK}{f:Str}{tp pos:Pos}(hop:CV X op o)(ho:kg X ob)(ha:GE X W a fa)(he:GE X W e fe):
 GS X W (.AugAssign (.Attribute a f tp) op e pos) (fun ρ st=>(fa ρ st).cat ρ fun x st1=>(R.aS (cU [] ob f x st1)).cat ρ fun v st2=>(fe ρ st2).cat ρ fun u st3=>(R.aS (j6 o v u st3)).cat ρ fun z st4=>match bF ob f x z st4 with
  |some st5=>.ok (.next ρ) st5
  |none=>.no):=by
 obtain⟨rd,h1,h2⟩:=hop;refine ig (CU ha he h1) fun D σ H q=>?_;obtain⟨m,ρ,st,r,o⟩:=q;refine⟨m,ρ,st,r,(cz r o).imp fun x st1 m1 H1 e1 s1 o1 zx rx=>?_⟩;have r1:=r.ext e1 s1;cases hf:cU [] ob f x st1 with
 |none=>rw[hf]at o1;exact o1.elim
 |some pr=>
  obtain⟨v,st2⟩:=pr;rw[hf]at o1;cases x with
  |d _=>cases hf
  |bW _=>cases hf
  |xc _ _=>cases hf
  |td _=>cases hf
  |dN _ _=>cases hf
  |eo _ _=>cases hf
  |loc n=>
   obtain⟨c,fs,ko,hc,g1,g2,g3,rfl⟩:=qx hf;obtain⟨p,C,dx,vfs,hp,rfl,q1,q2,q3⟩:=qw s1 rx hc;obtain⟨_,A⟩:=oj ho g1 q1;obtain⟨vv,l1,l2⟩:=qv q3 g3;refine⟨p,C,dx,vfs,vv,rfl,q2,A.cls,A.no f g2,l1,?_⟩;have o2:ao (gx X) m1 H1 ((fe ρ st2).cat ρ fun u st3=>(R.aS (j6 _ v u st3)).cat ρ fun z st4=>match bF ob f (.loc n) z st4 with |some st5=>.ok (.next ρ) st5 |none=>.no) (lZ (gx X) W D):=o1
   refine⟨m1,ρ,st2,r1,(cz r1 o2).imp fun u st3 m3 H3 e3 s3 o3 y ry=>?_⟩;cases hz:j6 _ v u st3 with
   |none=>rw[hz]at o3;exact o3.elim
   |some pz=>
    obtain⟨z,st4⟩:=pz;rw[hz]at o3;have hh:=h2 (Q:=fun w H4=>∃ C' dx' fs',H4 p=some (.ins C' dx' fs')/\Cls X.K C'/\NoAttr X.K C' f/\fs'.length<1000/\D.nx σ (upd H4 p (.ins C' dx' (putF f w fs')))) (l2.ext e3) ry hz fun w rw'=>?_
    ·exact hh.2
    ·obtain rfl:st4=st3:=(h2 (Q:=fun _ _=>True) (l2.ext e3) ry hz fun _ _=>trivial).1;have o4:ao (gx X) m3 H3 (match bF ob f (.loc n) z st4 with |some st5=>(.ok (.next ρ) st5:R Fl) |none=>.no) (lZ (gx X) W D):=o3
     cases hs:bF ob f (.loc n) z st4 with
     |none=>rw[hs]at o4;exact o4.elim
     |some st5=>rw[hs]at o4;obtain⟨k,c',fs',ko',e5,hc',g1',g2',g3',rfl⟩:=xM hs;cases e5;obtain⟨p',C',dx',vfs',hp',e6,q1',q2',q3'⟩:=qw s3 (rx.ext e3) hc';cases e6;obtain⟨_,A'⟩:=oj ho g1' q1';obtain⟨e7,s7⟩:=BQ (f:=f) s3 hp' q1' q2' q3' rw';exact⟨C',dx',vfs',q2',A'.cls,A'.no f g2',by rw[zG q3'];exact g3',o4 m3 _ e7 s7 σ ((r1.ext e3 s3).ext e7 s7)⟩
end
end G
namespace G
open PySem PySem.Spec PyProof.Rows L2 PySem.Calls RT
section
end
section
end
end G
namespace G
open PySem PySem.Spec PyProof.Rows L2
section
end
def l0(X:Cx)(y:Str)(v:V):Prop:=(∃ C,X.mg y=some (.ref C)/\v= .ref C)\/(∃ T,X.mg y=none/\bootBuiltins y=some (.type T)/\y≠"__name__"/\v= .ty T)
def oq:V->Value
 | .ref a=>.ref a
 | .ty n=>.type n
 |_=>.none
theorem l0.rel{X:Cx}{y:Str}{v:V}(h:l0 X y v):RelV v (oq v)/\∀ u,RelV v u->u=oq v:=by
 rcases h with⟨C,_,rfl⟩|⟨T,_,_,_,rfl⟩
 ·exact⟨rfl,fun u h=>h⟩
 ·exact⟨rfl,fun u h=>h⟩
theorem l0.names{X:Cx}{y:Str}{v:V}(h:l0 X y v)(hg:Gl X y)(hd:(y == ("__debug__" : Str))=false):Names X y (oq v):=by
 rcases h with⟨C,h1,rfl⟩|⟨T,h1,h2,h3,rfl⟩
 ·exact⟨hg,hd,.inl h1⟩
 ·exact⟨hg,hd,.inr ⟨h1,h2,h3⟩⟩
theorem Ln{X:Cx}{y:Str}{v:V}{p:Pos}(h:l0 X y v)(hg:Gl X y)(hd:(y == ("__debug__" : Str))=false):PE X (.Name y p) (tC v):=by
 rcases h with⟨C,h1,rfl⟩|⟨T,h1,h2,h3,rfl⟩
 ·exact pe_glob hg h1 rfl hd
 ·exact pe_bltn hg h1 h2 rfl h3 hd
def Yv(X:Cx)(c:Cl)(C:Addr):Bool->Prop
 |true=>∃ fI fd,OexC X.K C/\PySem.W.findIn X.K (.ref C) "__init__" = some (some (.ref fI))/\PySem.W.typeIn X.K (.ref fI)=some (.type "function")/\FnOk X.prog X.w X.K X.mg X.base (L2.CX X.prog X.w) 1 fI fd (bx::c.az) (spI C c.az)/\L2H.FnH X.prog X.w X.K X.mg X.base (L2.CX X.prog X.w) 1 fI fd (bx::c.az) (spI C c.az)/\Binds X.K fd (bx::c.az) []/\c.az≠[]/\c.az.length<=800
 |false=>∃ bmB B newId initId,ExcBaseFacts B newId initId bmB/\PySem.W.excIn X.K C bmB newId=true/\c.az=[]/\PySem.W.keepIn X.K (.ref C)=true/\Raises X (.ref C)
structure vj (X:Cx) (ns:List Str) (c:Cl) (C:Addr):Prop where
 ex:ExcC X.K C
 xf:XfC X.K C
 no:∀ f∈c.az,PySem.W.findIn X.K (.ref C) f=some none
 zJ:Yv X c C c.ini
 sub:∀ y∈ns,∀ v,l0 X y v->PySem.W.kitOne X.K (.ref C) (oq v)=some (c.fV.contains y)/\PySem.W.exmOne X.K (.ref C) (oq v)=some (c.fV.contains y)
structure iP (X:Cx) (ns:List Str) (cl:List Cl):Prop where
 nm:∀ y∈ns,∃ v,l0 X y v
 at_:∀ c∈cl,∃ C,X.mg c.name=some (.ref C)/\PySem.W.nsIn X.K mainGlobals c.name=some (some (.ref C))/\vj X ns c C
theorem jT{cl:List Cl}{x:Str}{k:Cl}(h:dX cl x=some k):k∈cl/\k.name=x:=by unfold dX at h;exact⟨List.mem_of_find?_eq_some h,by simpa using List.find?_some h⟩
section
variable {X:Cx} {W:WX} {ns:List Str} {cl:List Cl} {a:Expr} {fa:ae->aa->R Val}
theorem zK{H:Hp}{m:Mp}{x:V}{c:Str}{fs:List (Str×PyData)}{k:Cl}(hcl:iP X ns cl)(hk:dX cl c=some k)(h:Rep X.K H m x (.xc c fs)):
 ∃ a D fv,x= .ref a/\X.mg c=some (.ref D)/\vj X ns k D/\xy H m a D fv/\wu X.K H m fv fs:=by
 obtain⟨p,D,fv,rfl,h1,h2,h3⟩:=zg h;obtain⟨hm,hn⟩:=jT hk;obtain⟨C,q1,q2,q3⟩:=hcl.at_ k hm;rw[hn]at q1 q2;rw[h1]at q2;have e:D=C:=by have:=zam (zam q2);exact zbF this
 subst e;exact⟨p,D,fv,rfl,q1,q3,h2,h3⟩
theorem zL{cs:List Str}{v:Val}{st st1:aa}{z:Val}(h:iW cl cs v st=some (z,st1)):∃ c fs k,v= .xc c fs/\dX cl c=some k/\z= .d (.bool (cs.any fun y=>k.fV.contains y))/\st1=st:=by
 unfold iW at h;split at h
 ·rename_i c fs;obtain⟨k,h1,h2⟩:=zax.mp h;cases h2;exact⟨c,fs,k,rfl,h1,rfl,rfl⟩
 ·cases h
theorem M6{x y:Str}{p p2 pos:Pos}(hcl:iP X ns cl)(hy:y∈ns)(hg:Gl X x)(hm:X.mg x=none)(hv:bootBuiltins x=some (.builtin "isinstance"))(hn:x≠"__name__")(hdb:(x == ("__debug__" : Str))=false)(hg2:Gl X y)(hdb2:(y == ("__debug__" : Str))=false)
 (hp:aG a=true) (ha:GE X W a fa):GE X W (.Call (.Name x p) [a,.Name y p2] [] pos) (fun ρ st=>(fa ρ st).bind fun v st1=>R.aS (iW cl [y] v st1)):=by
 obtain⟨u,hu⟩:=hcl.nm y hy;refine PEw (pe_callB Hl hg hm hv (pa_cons ha (pa_cons (Ln hu hg2 hdb2) pa_nil rfl) (aV hp _ _)) hn hdb (aV hp _ _) rfl) fun σ H Q q=>?_;obtain⟨m,ρ,st,r,o⟩:=q;refine⟨m,ρ,st,r,(Out.bind o).imp fun v st1 m1 H1 e1 s1 o1 z rz=>?_⟩;have o2:=Out.aS o1;cases hi:iW cl [y] v st1 with
 |none=>rw[hi]at o2;exact o2.elim
 |some pr=>obtain⟨w,st2⟩:=pr;obtain⟨c,fs,k,rfl,hk,rfl,rfl⟩:=zL hi;rw[hi]at o2;obtain⟨pa,D,fv,rfl,q1,q2,q3,q4⟩:=zK hcl hk rz;refine⟨pa,D,fv,u,oq u,k.fV.contains y,q2.ex,rfl,q3.at_,hu.rel.2,(q2.sub y hy u hu).1,?_⟩;have:=(ai.here o2 s1) _ (.d (.bl _));simpa using this
def qA:List Str->List Expr->Bool
 | [],[]=>true
 |y::ys,.Name x _::xs=>decide (x=y) && qA ys xs
 |_,_=>false
theorem zM:∀ {ys:List Str} {es:List Expr} {vs:List V},qA ys es=true->(∀ y∈ys,Gl X y/\(y == ("__debug__" : Str))=false)->(hv:Paired (fun y v=>l0 X y v) ys vs)->PA X es (fun _ H Q=>Q vs H)
 | [],[],_,_,_,.nil=>pa_nil
 | [],_::_,_,h,_,_=>by cases h
 |y::ys,[],_,h,_,_=>by cases h
 |y::ys,e::es,v::vs',h,hg,.cons h1 h2=>by
  unfold qA at h;split at h
  ·contradiction
  ·rename_i y' ys' x p xs e1 e2;cases e1;cases e2;simp only[zaa,zab]at h;obtain⟨rfl,h⟩:=h;obtain⟨g1,g2⟩:=hg x zac;exact pa_cons (Ln h1 g1 g2) (zM h (fun y hy=>hg y (zae _ hy)) h2) rfl
  ·cases h
theorem vm:∀ {ys:List Str} {vs:List V},Paired (fun y v=>l0 X y v) ys vs->∀ us,Vals vs us->us=vs.map oq
 | [],[],.nil,_,.nil=>rfl
 |_::_,_::_,.cons h1 h2,_,.cons r rr=>by rw[zaR,vm h2 _ rr,h1.rel.2 _ r]
theorem xP{k:Cl}{D:Addr}(A:vj X ns k D):∀ {ys:List Str} {vs:List V},(∀ y∈ys,y∈ns)->Paired (fun y v=>l0 X y v) ys vs->PySem.W.kitAny X.K (.ref D) (vs.map oq)=some (ys.any fun y=>k.fV.contains y)
 | [],[],_,.nil=>rfl
 |y::_,_::_,hy,.cons h1 h2=>by have ih:=xP A (fun y hz=>hy y (zae _ hz)) h2;have q:=(A.sub y (hy y zac) _ h1).1;rw[zaR,zbn];unfold PySem.W.kitAny;rw[q,ih];cases k.fV.contains y <;> rfl
theorem zN(hcl:iP X ns cl):∀ {ys:List Str},(∀ y∈ys,y∈ns)->∃ vs,Paired (fun y v=>l0 X y v) ys vs
 | [],_=>⟨[],.nil⟩
 |y::ys,h=>by obtain⟨v,hv⟩:=hcl.nm y (h y zac);obtain⟨vs,hvs⟩:=zN hcl fun z hz=>h z (zae _ hz);exact⟨v::vs,.cons hv hvs⟩
theorem M7{x:Str}{ys:List Str}{es:List Expr}{j:Nat}{p p2 pos:Pos}(hcl:iP X ns cl)(hy:∀ y∈ys,y∈ns)(hes:qA ys es=true)(hg:Gl X x)(hm:X.mg x=none)(hv:bootBuiltins x=some (.builtin "isinstance"))(hn:x≠"__name__")(hdb:(x == ("__debug__" : Str))=false)(hg2:∀ y∈ys,Gl X y/\(y == ("__debug__" : Str))=false)
 (hl:ys.length<=1000) (hp:aG a=true) (ha:GE X W a fa):GE X W (.Call (.Name x p) [a,.Tuple es j p2] [] pos) (fun ρ st=>(fa ρ st).bind fun v st1=>R.aS (iW cl ys v st1)):=by
 obtain⟨vs,hvs⟩:=zN hcl hy;refine PEw (pe_callB EB hg hm hv (pa_cons ha (pa_cons (pe_tup (zM hes hg2 hvs)) pa_nil rfl) (aV hp _ _)) hn hdb (aV hp _ _) rfl) fun σ H Q q=>?_;obtain⟨m,ρ,st,r,o⟩:=q;refine⟨m,ρ,st,r,(Out.bind o).imp fun v st1 m1 H1 e1 s1 o1 z rz=>?_⟩;have o2:=Out.aS o1;cases hi:iW cl ys v st1 with
 |none=>rw[hi]at o2;exact o2.elim
 |some pr=>obtain⟨w,st2⟩:=pr;obtain⟨c,fs,k,rfl,hk,rfl,rfl⟩:=zL hi;rw[hi]at o2;obtain⟨pa,D,fv,rfl,q1,q2,q3,q4⟩:=zK hcl hk rz;refine⟨by rw[zap,←zao hvs];omega,fun t ht=>?_⟩;refine⟨pa,t,D,fv,vs,vs.map oq,ys.any fun y=>k.fV.contains y,q2.ex,rfl,(q3.stay (bH (bf ht)).stay).at_,.inl (.inl upd_same),vm hvs,xP q2 hy hvs,?_⟩;exact(ai.fresh o2 s1 ht) _ (.d (.bl _))
theorem IJ{ob:List Ob}{f c0:Str}{fs0:List (Str×PyData)}{st st1:aa}{z:Val}(h:cU cl ob f (.xc c0 fs0) st=some (z,st1)):∃ c fs k d,Val.xc c0 fs0= .xc c fs/\dX cl c=some k/\f∈k.az/\fs.lookup f=some d/\z= .d d/\st1=st:=by
 have h:((dX cl c0).bind fun k=>guard' (k.az.contains f=true) ((fs0.lookup f).bind fun d=>dat st d))=some (z,st1):=h;obtain⟨k,h1,h2⟩:=zax.mp h;unfold guard' at h2;split at h2
 ·rename_i h3;obtain⟨d,h4,h5⟩:=zax.mp h2;cases h5;exact⟨c0,fs0,k,d,rfl,h1,by simpa using h3,h4,rfl,rfl⟩
 ·cases h2
theorem qB{K:PySem.W.Frag}{H:Hp}{m:Mp}{f:Str}:∀ {fv:List (Str×V)} {fs:List (Str×PyData)} {d:PyData},wu K H m fv fs->fs.lookup f=some d->∃ v,fv.lookup f=some v/\bG K H m v d
 |_,_,d,.nil,h=>by cases h
 |(f1,v1)::fv,(f2,d2)::fs,d,.cons h r,e=>by
  obtain⟨e1,r1⟩:=h;have e1:f1=f2:=e1;subst e1;by_cases hf:f=f1
  ·subst hf;simp only[za8,zbv]at e⊢;cases e;exact⟨v1,rfl,r1⟩
  ·have e3:(f == f1)=false:=by simpa using hf
   simp only[za8,e3]at e⊢;exact qB r e
theorem QT{ob:List Ob}{f:Str}{pos:Pos}(hcl:iP X ns cl)(ho:kg X ob)(hb:eK a=true)(ha:GE X W a fa):GE X W (.Attribute a f pos) (fun ρ st=>(fa ρ st).bind fun v st1=>R.aS (cU cl ob f v st1)):=by
 refine PEw (MY ha (lM hb _ _)) fun σ H Q q=>?_;obtain⟨m,ρ,st,r,o⟩:=q;refine⟨m,ρ,st,r,(Out.bind o).imp fun v st1 m1 H1 e1 s1 o1 z rz=>?_⟩;have o2:=Out.aS o1;cases hi:cU cl ob f v st1 with
 |none=>rw[hi]at o2;exact o2.elim
 |some pr=>
  obtain⟨w,st2⟩:=pr;rw[hi]at o2;cases v with
  |d _=>cases hi
  |bW _=>cases hi
  |loc n=>obtain⟨_,_,_,_,_,_,_,rfl⟩:=qx hi;exact IF ho s1 rz hi fun v rv=>ai.here o2 s1 v rv
  |td _=>cases hi
  |dN _ _=>cases hi
  |eo _ _=>cases hi
  |xc c fs=>obtain⟨c,fs,k,d,e,hk,hf,hd,rfl,rfl⟩:=IJ hi;cases e;obtain⟨pa,D,fv,rfl,q1,q2,q3,q4⟩:=zK hcl hk rz;obtain⟨u,h1,h2⟩:=qB q4 hd;exact .inl ⟨pa,D,fv,u,rfl,q3.at_,q2.xf,q2.no f hf,h1,(ai.here o2 s1) _ (.d h2)⟩
theorem M8{g:Gx}{fs:ae->aa->R (List Val)}{σ:L2.St}{H:Hp}{k k':List V->Hp->Prop}(h:∀ vs H,k vs H->k' vs H)(q:DA g W fs σ H k):DA g W fs σ H k':=by obtain⟨m,ρ,st,r,o⟩:=q;exact⟨m,ρ,st,r,o.imp fun xs st1 m1 H1 _ _ z vs rv=>h _ _ (z vs rv)⟩
theorem zO{K:PySem.W.Frag}{H:Hp}{m:Mp}:∀ {fs:List Str} {vs:List V} {xs:List Val},aW K H m vs xs->eF K H m (fs.zip vs) (fs.zip xs)
 | [],_,_,_=>.nil
 |_::_,_,_,.nil=>.nil
 |f::fs,_,_,.cons h r=>.cons ⟨rfl,h⟩ (zO r)
theorem tH{α β:Type}{P:α->β->Prop}{xs:List α}{ys:List β}(h:Paired P xs ys):Paired P xs.reverse ys.reverse:=CO h
theorem IK{c:Str}{k:Cl}{p pos pos':Pos}{es:List Expr}{fs:ae->aa->R (List Val)}(C:bQ X)(tk:L2N.Takes X W)(hr:Room 2 X.A)(hcl:iP X ns cl)(hk:dX cl c=some k)(hg:Gl X c)(hdb:(c == ("__debug__" : Str))=false)(hp:∀ y∈es,aG y=true)(ha:jN X W es fs)
 (he:es=[]/\(fs=fun _ st=>.ok [] st)/\k.ini=false\/∃ e0 er,es=e0::er/\k.ini=true) :
 GS X W (.Raise (some (.Call (.Name c p) es [] pos)) none pos') (fun ρ st=>(fs ρ st).cat ρ fun vs st1=>gz cl c vs ρ st1):=by
 obtain⟨hmem,hnm⟩:=jT hk;obtain⟨D,hm,hns,A⟩:=hcl.at_ k hmem;rw[hnm]at hm;rcases he with⟨rfl,rfl,hi⟩|⟨e0,er,rfl,hi⟩
 ·have mk:=A.zJ;rw[hi]at mk;obtain⟨bmB,B,nid,iid,F,q,hf,kp,rs⟩:=mk;refine ig (L2N.ps_raise C.calm tk (EF F q hm kp rs hg hdb)) fun D' σ H w=>?_;obtain⟨m,ρ,st,r,o⟩:=w;have o:ao (gx X) m H (gz cl c [] ρ st) (lZ (gx X) W D'):=o;unfold gz at o;rw[hk]at o;dsimp only at o;split at o
  ·exact(ao.here o r.st) σ _ none r ⟨D,hm,rfl,.inl ⟨by simp,rfl⟩⟩
  ·exact o.elim
 ·have mk:=A.zJ;rw[hi]at mk;obtain⟨fI,fd,T,iC,tI,F1,_,hb,hne,h8⟩:=mk;refine ig (L2N.ps_raise C.calm tk (Hu (ta:=DA (gx X) W fs) (fun σ H k k' h q=>M8 h q) T iC tI F1 hr hb hg hm ha hne h8 hdb (aV (hp e0 zac) _ _) (di fun y hy=>hp y (zae _ hy)))) fun D' σ H w=>?_;obtain⟨m,ρ,st,r,o⟩:=w;refine⟨m,ρ,st,r,(cz r o).imp fun xs st1 m1 H1 e1 s1 o1 vs rv=>?_⟩;unfold gz at o1;rw[hk]at o1;dsimp only at o1;split at o1
  ·rename_i hl;refine⟨by rw[zao rv];exact hl.1,fun d hd=>?_⟩;have ee:=bH (m:=m1) (bf (o:=.xd (k.az.zip vs).reverse) hd);have sl:=s1.le (bf (o:=.xd (k.az.zip vs).reverse) hd);refine(o1 m1 _ ee sl) σ _ (some d) ((r.ext e1 s1).ext ee sl) ⟨D,hm,rfl,.inr ⟨d,_,rfl,upd_same,s1.frz hd,?_⟩⟩;exact tH (zO (aW.ext ee rv))
  ·exact o1.elim
end
def XF(g:Gx)(H:Hp)(m:Mp)(k:Cl)(cls:Value)(d:Option Addr)(fs:List (Str×PyData)):Prop:=∃ C,g.mg k.name=some (.ref C)/\cls= .ref C/\((d=none/\fs=[])\/∃ dd fv,d=some dd/\H dd=some (.xd fv)/\lB m dd/\wu g.K H m fv fs)
theorem XF.stay{g:Gx}{H H':Hp}{m m':Mp}{k:Cl}{cls:Value}{d:Option Addr}{fs:List (Str×PyData)}(s:fS H m H' m')(h:XF g H m k cls d fs):XF g H' m' k cls d fs:=by obtain⟨C,h1,h2,h3⟩:=h;refine⟨C,h1,h2,h3.imp id ?_⟩;rintro⟨dd,fv,e,h4,h5,h6⟩;exact⟨dd,fv,e,(s _ _ h4 h5).1,(s _ _ h4 h5).2,Paired.mapP h6 fun _ _ z=>⟨z.1,z.2.stay s⟩⟩
theorem BS{K:PySem.W.Frag}{H:Hp}{m:Mp}:∀ {fv:List (Str×V)} {xs:List (Str×Val)} {fs:List (Str×PyData)},eF K H m fv xs->lV xs=some fs->wu K H m fv fs
 |_,[],fs,.nil,e=>by cases e;exact .nil
 |_,(f,x)::xs,fs,.cons h r,e=>by
  cases x with
  |d d=>have e:(lV xs).map ((f,d)::·)=some fs:=e;obtain⟨fs',e1,rfl⟩:=zaG.mp e;exact .cons ⟨h.1,cN h.2⟩ (BS r e1)
  |_=>cases e
section
variable {X:Cx} {W:WX} {ns:List Str} {cl:List Cl}
def DU(g:Gx)(k:Cl)(cls:Value)(d:Option Addr)(x:SI):TE:=fun σ H Q=>∃ m ρ st fs,Rel g.K H m σ ρ st/\XF g H m k cls d fs/\ai g m H (jt k.az fs ρ st x) fun y _ m' H'=>∀ v,bG g.K H' m' v y->Q v H'
def QU(g:Gx)(k:Cl)(cls:Value)(d:Option Addr)(xs:List SI):TA:=fun σ H Q=>∃ m ρ st fs,Rel g.K H m σ ρ st/\XF g H m k cls d fs/\ai g m H (eH k.az fs ρ xs st) fun ys _ m' H'=>∀ vs,aY g.K H' m' vs ys->Q vs H'
structure InK (X:Cx) (ns:List Str) (k:Cl) (cls:Value):Prop where
 ex:∃ C,X.mg k.name=some (.ref C)/\cls= .ref C/\vj X ns k C
def Held(X:Cx)(n:Option Str)(a:Addr)(σ:L2.St):Prop:=∀ (y:Str) (i:Nat),n=some y->X.N[i]?=some y->σ[i]?=some (some (V.ref a))
def BU(N:List Str)(bV:Str->Bool)(n:Option Str):SI->Expr->Bool
 | .cst d,.Constant k _ _=>litOk k d
 | .var i,.Name x _=>decide (N[i]?=some x) && bV x
 | .frz i,.Name x _=>decide (N[i]?=some x) && bV x
 | .fld f,.Attribute (.Name y _) g _=>decide (n=some y) && bV y && decide (g=f) && decide (y∈N)
 |_,_=>false
structure mU (X:Cx) (bV:Str->Bool):Prop where
 ok:∀ x,bV x=true->Vis X.env.scope x/\(x == ("__debug__" : Str))=false/\(x == ("__classdict__" : Str))=false
theorem IL{e:Expr}:PE X e (fun _ _ _=>False):=⟨fun _ _ _ _ _ _ h=>h.elim⟩
theorem bind_some{α β:Type}{o:Option α}{f:α->Option β}{b:β}(h:o.bind f=some b):∃ a,o=some a/\f a=some b:=zax.mp h
theorem Lo{a:Addr}{oe:Obj}{cls:Value}{d:Option Addr}{pn:List (Addr×Obj)}{k:Cl}{bV:Str->Bool}{n:Option Str}{x:SI}{e:Expr}(hV:mU X bV)(hk:InK X ns k cls)(hz:Zc cls d oe)(hf:∃ vs,oe.data= .fields vs)(hn:∀ y,n=some y->∃ i:Nat,X.N[i]?=some y)
 (h:BU X.N bV n x e=true):PE (X.suite a ((a,oe)::pn)) e (fun σ H Q=>Held X n a σ/\DU (gx X) k cls d x σ H Q):=by
 cases x with
 |cst c=>
  cases e <;> first |(cases h;done) |skip
  refine PEw (E2 (X:=X.suite a ((a,oe)::pn)) (W:=fun _ _ _ _=>False) h) fun σ H Q q=>?_;obtain⟨_,m,ρ,st,fs,r,_,o⟩:=q;exact⟨m,ρ,st,r,fun m' H' e' s' v rv=>o m' H' e' s' v (cN rv)⟩
 |var i=>
  cases e <;> first |(cases h;done) |skip
  rename_i y p;have h:(decide (X.N[i]?=some y) && bV y)=true:=h;rw[zaa,zab]at h;obtain⟨v1,v2,v3⟩:=hV.ok y h.2;refine PEw (pe_var (X:=X.suite a ((a,oe)::pn)) h.1 v1 v2 v3) fun σ H Q q=>?_;obtain⟨_,m,ρ,st,fs,r,_,o⟩:=q;cases hp:ρ[i]? with
  |none=>simp only[jt,hp]at o;exact o.elim
  |some w=>
   cases w with
   |none=>simp only[jt,hp]at o;exact o.elim
   |some w=>
    cases w with
    |d c=>simp only[jt,hp]at o;obtain⟨u,h1,h2⟩:=r.env i _ hp;exact⟨u,h1,(ai.here o r.st) u (cN h2)⟩
    |_=>simp only[jt,hp]at o;exact o.elim
 |frz i=>
  cases e <;> first |(cases h;done) |skip
  rename_i y p;have h:(decide (X.N[i]?=some y) && bV y)=true:=h;rw[zaa,zab]at h;obtain⟨v1,v2,v3⟩:=hV.ok y h.2;refine PEw (Qw (EZ (X:=X.suite a ((a,oe)::pn)) (W:=fun _ _ _ _=>False) h.1 v1 v2 v3)) fun σ H Q q=>?_;obtain⟨_,m,ρ,st,fs,r,_,o⟩:=q;refine⟨m,ρ,st,r,?_⟩;unfold Qv;dsimp only;cases hp:ρ[i]? with
  |none=>simp only[jt,hp]at o;exact o.elim
  |some w=>
   cases w with
   |none=>simp only[jt,hp]at o;exact o.elim
   |some w=>
    cases w with
    |d c=>simp only[jt,hp]at o;exact fun m' H' e' s' v rv=>o m' H' e' s' v (cN rv)
    |loc nn=>
     simp only[jt,hp]at o;show Out _ _ m H σ (match st[nn]? with
      |some (.lst xs)=>match datas xs with
       |some ds=>R.ok (Val.d (.list ds)) (st.set nn .dead)
       |none=>.no
      |some (.dct kvs)=>match bY kvs with
       |some ds=>R.ok (Val.d (.dict ds)) (st.set nn .dead)
       |none=>.no
      |_=>.no) _
     cases hc:st[nn]? with
     |none=>simp only[hc]at o;exact o.elim
     |some c=>
      simp only[hc]at o;cases c with
      |lst ws=>
       dsimp only at o⊢;cases hd:datas ws with
       |none=>rw[hd]at o;exact o.elim
       |some ds=>rw[hd]at o;exact fun m' H' e' s' v rv=>o m' H' e' s' v (cN rv)
      |_=>exact o.elim
    |_=>simp only[jt,hp]at o;exact o.elim
 |fld f=>
  cases e <;> first |(cases h;done) |skip
  rename_i e0 g p;cases e0 <;> first |(cases h;done) |skip
  rename_i y py;have h:(decide (n=some y) && bV y && decide (g=f) && decide (y∈X.N))=true:=h;simp only[zaa,zab]at h;obtain⟨⟨⟨h1,h2⟩,rfl⟩,h4⟩:=h;obtain⟨v1,v2,v3⟩:=hV.ok y h2;obtain⟨i,hi⟩:=hn y h1;obtain⟨C,hm,rfl,A⟩:=hk.ex;by_cases hg:g∈k.az
  ·refine PEw (pe_xf A.xf (A.no g hg) hz hf (pe_var (X:=X.suite a ((a,oe)::pn)) hi v1 v2 v3)) fun σ H Q q=>?_;obtain⟨hs,m,ρ,st,fs,r,⟨C',m1,m2,m3⟩,o⟩:=q;refine⟨.ref a,hs y i h1 hi,rfl,rfl,?_⟩;have o:ai (gx X) m H (guard' (k.az.contains g=true) ((fs.lookup g).map fun d=>(d,st))) _:=o;unfold guard' at o;rw[zah (by simpa using hg)]at o;cases hl:fs.lookup g with
   |none=>rw[hl]at o;exact o.elim
   |some y=>
    rw[hl]at o;rcases m3 with⟨_,rfl⟩|⟨dd,fv,rfl,q1,q2,q3⟩
    ·cases hl
    ·obtain⟨u,w1,w2⟩:=qB q3 hl;exact⟨dd,fv,u,rfl,q1,w1,(ai.here o r.st) u w2⟩
  ·refine PEw (t:=fun _ _ _=>False) IL fun σ H Q q=>?_;obtain⟨hs,m,ρ,st,fs,r,_,o⟩:=q;have o:ai (gx X) m H (guard' (k.az.contains g=true) ((fs.lookup g).map fun d=>(d,st))) _:=o;unfold guard' at o;rw[zaj (by simpa using hg)]at o;exact o.elim
def nE(N:List Str)(bV:Str->Bool)(n:Option Str):List SI->List Expr->Bool
 | [],[]=>true
 |x::xs,e::es=>aG e && BU N bV n x e && nE N bV n xs es
 |_,_=>false
theorem zP{a:Addr}{oe:Obj}{cls:Value}{d:Option Addr}{pn:List (Addr×Obj)}{k:Cl}{bV:Str->Bool}{n:Option Str}(hV:mU X bV)(hk:InK X ns k cls)(hz:Zc cls d oe)(hf:∃ vs,oe.data= .fields vs)(hn:∀ y,n=some y->∃ i:Nat,X.N[i]?=some y):
 ∀ {xs:List SI} {es:List Expr},nE X.N bV n xs es=true->PA (X.suite a ((a,oe)::pn)) es (fun σ H Q=>Held X n a σ/\QU (gx X) k cls d xs σ H Q)
 | [],[],_=>K3 pa_nil fun σ H Q q=>by obtain⟨_,m,ρ,st,fs,r,_,o⟩:=q;exact(ai.here o r.st) _ .nil
 | [],_::_,h=>by cases h
 |_::_,[],h=>by cases h
 |x::xs,e::es,h=>by
  have h:(aG e && BU X.N bV n x e && nE X.N bV n xs es)=true:=h;simp only[zaa]at h;obtain⟨⟨h1,h2⟩,h3⟩:=h;refine K3 (pa_cons (Lo hV hk hz hf hn h2) (zP hV hk hz hf hn h3) (aV h1 _ _)) fun σ H Q q=>?_;obtain⟨hs,m,ρ,st,fs,r,xf,o⟩:=q;have o:ai (gx X) m H ((jt k.az fs ρ st x).bind fun p=>(eH k.az fs ρ xs p.2).map fun q=>(p.1::q.1,q.2)) _:=o;refine⟨hs,m,ρ,st,fs,r,xf,?_⟩;cases h4:jt k.az fs ρ st x with
  |none=>rw[h4]at o;exact o.elim
  |some p=>
   obtain⟨y,st1⟩:=p;rw[h4]at o;have o:ai (gx X) m H ((eH k.az fs ρ xs st1).map fun q=>(y::q.1,q.2)) _:=o;intro m1 H1 e1 s1 v rv;refine⟨hs,m1,ρ,st1,fs,r.ext e1 s1,xf.stay e1.stay,?_⟩;cases h5:eH k.az fs ρ xs st1 with
   |none=>rw[h5]at o;exact o.elim
   |some p2=>obtain⟨ys,st2⟩:=p2;rw[h5]at o;exact fun m2 H2 e2 s2 vs rvs=>o m2 H2 (e1.trans e2) s2 _ (.cons (rv.stay e2.stay) rvs)
theorem QV{X:Cx}{k:Const}{d:PyData}{j:Nat}{pos:Pos}(h:litOk k d=true):∃ v,PE X (.Constant k j pos) (tC v)/\∀ K H m,bG K H m v d:=by
 cases k <;> cases d <;> first |(cases h;done) |skip
 ·exact⟨.non,pe_non,fun _ _ _=>.non⟩
 ·rename_i b c;obtain rfl:b=c:=by simpa[litOk]using h
  exact⟨.bl b,pe_bl,fun _ _ _=>.bl _⟩
 ·rename_i b c;obtain rfl:b=c:=by simpa[litOk]using h
  exact⟨.int b,pe_int,fun _ _ _=>.int _⟩
 ·rename_i b c;obtain rfl:b=c:=by simpa[litOk]using h
  exact⟨.str b,pe_str,fun _ _ _=>.str _⟩
def zQ(N:List Str)(bV sto:Str->Bool)(n:Option Str):Su->Stmt->Bool
 | .keep j,.Assign [.Name y _] (.Name z _) _=>decide (n=some z) && decide (N[j]?=some y) && sto y && bV z
 | .set j d,.Assign [.Name y _] (.Constant k _ _) _=>decide (N[j]?=some y) && sto y && litOk k d
 | .ret true xs,.Return (some (.Tuple es _ _)) _=>nE N bV n xs es
 | .ret false [x],.Return (some e) _=>BU N bV n x e
 |_,_=>false
structure yC (X:Cx) (sto:Str->Bool):Prop where
 ok:∀ x,sto x=true->L2.Loc X.env.scope x/\(X.fn x=true\/X.env.scope.names.lookup x=some .local)
def Lp(i:Option Nat)(a:Addr)(σ:L2.St):Prop:=∀ j:Nat,i=some j->σ[j]?=some (some (V.ref a))
def QW(g:Gx)(k:Cl)(i:Option Nat)(su:Su)(a:Addr)(cls:Value)(d:Option Addr):TS:=fun D σ H=>Lp i a σ/\∃ m ρ st fs,Rel g.K H m σ ρ st/\XF g H m k cls d fs/\
 match su with
 | .keep j=>D.nx (σ.set j (some (.ref a))) H
 | .ret true xs=>ai g m H (eH k.az fs ρ xs st) fun ys st' m' H'=>ys.length<=sizeLine/\∀ m2 H2 v,Ext m' H' m2 H2->ak g.K H2 m2 st'->Rep g.K H2 m2 v (.d (.tuple ys))->D.rt v H2
 | .ret false xs=>ai g m H (eH k.az fs ρ xs st) fun ys _ m' H'=>∃ y,ys=[y]/\∀ v,Rep g.K H' m' v (.d y)->D.rt v H'
 | .set j c=>∀ v,(∀ H m,bG g.K H m v c)->D.nx (σ.set j (some v)) H
 | .o9 _ _ _=>False
theorem nodup_ix{α:Type}:∀ {l:List α} {i j:Nat} {x:α},l.Nodup->l[i]?=some x->l[j]?=some x->i=j
 | [],i,j,x,_,h,_=>by simp at h
 |a::l,0,0,x,_,_,_=>rfl
 |a::l,0,j+1,x,nd,h1,h2=>by simp only[zbe,zb2]at h1;rw[zaI]at h2;subst h1;exact absurd (zag h2) (zby.mp nd).1
 |a::l,i+1,0,x,nd,h1,h2=>by simp only[zbe,zb2]at h2;rw[zaI]at h1;subst h2;exact absurd (zag h1) (zby.mp nd).1
 |a::l,i+1,j+1,x,nd,h1,h2=>by rw[zaI]at h1 h2;rw[nodup_ix (zby.mp nd).2 h1 h2]
theorem Fw{a:Addr}{oe:Obj}{cls:Value}{d:Option Addr}{pn:List (Addr×Obj)}{k:Cl}{bV sto:Str->Bool}{n:Option Str}{i:Option Nat}{su:Su}{b₀:Stmt}(nd:X.N.Nodup)(hV:mU X bV)(hS:yC X sto)(hk:InK X ns k cls)(hz:Zc cls d oe)(hf:∃ vs,oe.data= .fields vs)
 (hn:∀ y,n=some y->∃ j:Nat,i=some j/\X.N[j]?=some y) (h:zQ X.N bV sto n su b₀=true):PSs (X.suite a ((a,oe)::pn)) [b₀] (QW (gx X) k i su a cls d):=by
 have hn':∀ y,n=some y->∃ j:Nat,X.N[j]?=some y:=fun y e=>by obtain⟨j,_,h2⟩:=hn y e;exact⟨j,h2⟩
 have hat:∀ {σ:L2.St},Lp i a σ->Held X n a σ:=fun {σ} hs y j e hj=>by obtain⟨j',h1,h2⟩:=hn y e;rw[nodup_ix nd hj h2];exact hs j' h1
 cases su with
 |keep j=>
  unfold zQ at h;split at h <;> first |contradiction |skip
  rename_i j' y py z pz p e1;cases e1;simp only[zaa,zab]at h;obtain⟨⟨⟨h1,h2⟩,h3⟩,h4⟩:=h;obtain⟨v1,v2,v3⟩:=hV.ok z h4;obtain⟨s1,s2⟩:=hS.ok y h3;obtain⟨j',hj1,hj2⟩:=hn z h1;refine tY (pss_cons (ps_set (X:=X.suite a ((a,oe)::pn)) nd h2 s1 (pe_var (X:=X.suite a ((a,oe)::pn)) hj2 v1 v2 v3) (vg rfl _ _ _) s2) pss_nil) fun D σ H q=>?_;obtain⟨hs,m,ρ,st,fs,r,xf,q⟩:=q;exact⟨.ref a,hs j' hj1,q⟩
 |set j c=>
  unfold zQ at h;split at h <;> first |contradiction |skip
  rename_i j' c' y py k' jj pc p e1;cases e1;simp only[zaa,zab]at h;obtain⟨⟨h2,h3⟩,h4⟩:=h;obtain⟨s1,s2⟩:=hS.ok y h3;obtain⟨u,hu1,hu2⟩:=QV (X:=X.suite a ((a,oe)::pn)) (j:=jj) (pos:=pc) h4;refine tY (pss_cons (ps_set (X:=X.suite a ((a,oe)::pn)) nd h2 s1 hu1 (vg rfl _ _ _) s2) pss_nil) fun D σ H q=>?_;obtain⟨hs,m,ρ,st,fs,r,xf,q⟩:=q;exact q u fun H m=>hu2 _ H m
 |o9 _ _ _=>cases h
 |ret b xs=>
  cases b with
  |true=>
   cases b₀ <;> first |(cases h;done) |skip
   rename_i o p;cases o <;> first |(cases h;done) |skip
   rename_i e;cases e <;> first |(cases h;done) |skip
   rename_i es jj p2;have h:nE X.N bV n xs es=true:=h;refine tY (pss_cons (ps_ret (Bv (zP hV hk hz hf hn' h))) pss_nil) fun D σ H q=>?_;obtain⟨hs,m,ρ,st,fs,r,xf,q⟩:=q;refine⟨hat hs,m,ρ,st,fs,r,xf,?_⟩;refine ai.imp q fun ys st1 m1 H1 e1 s1 o1 vs rv=>?_;obtain⟨hl,o1⟩:=o1;have hlen:vs.length=ys.length:=zao rv.pair;refine⟨by rw[hlen];exact hl,fun p oo hp ho=>?_⟩;exact o1 m1 _ _ (bH (bf hp)) (s1.le (bf hp)) (eO s1 hp ho rv)
  |false=>
   cases b₀ <;> first |(rcases xs with _ |⟨_,_ |_⟩<;> cases h;done) |skip
   rename_i o p;cases o <;> first |(rcases xs with _ |⟨_,_ |_⟩<;> cases h;done) |skip
   rename_i e;rcases xs with _ |⟨x,_ |_⟩<;> first |(cases h;done) |skip
   have h:BU X.N bV n x e=true:=h;refine tY (pss_cons (ps_ret (Lo hV hk hz hf hn' h)) pss_nil) fun D σ H q=>?_;obtain⟨hs,m,ρ,st,fs,r,xf,q⟩:=q;refine⟨hat hs,m,ρ,st,fs,r,xf,?_⟩;have q:ai (gx X) m H ((jt k.az fs ρ st x).bind fun p=>(some ([],p.2):Option (List PyData×aa)).map fun q=>(p.1::q.1,q.2)) _:=q;cases h4:jt k.az fs ρ st x with
   |none=>rw[h4]at q;exact q.elim
   |some w=>obtain⟨y,st1⟩:=w;rw[h4]at q;intro m1 H1 e1 s1 v rv;obtain⟨y',e2,q2⟩:=q m1 H1 e1 s1;cases e2;exact q2 v (.d rv)
theorem zR{ι:Type}{P:ι->Prop}{s:List Stmt}{t:ι->TS}(h:∀ k,P k->PSs X s (t k)):PSs X s (fun D σ H=>∃ k,P k/\t k D σ H):=⟨fun pins s σ H D I ⟨k,hp,q⟩=>(h k hp).run pins s σ H D I q⟩
theorem Rel.hide{K:PySem.W.Frag}{H:Hp}{m:Mp}{σ:L2.St}{ρ:ae}{st:aa}{i:Nat}{v:Option V}(r:Rel K H m σ ρ st):Rel K H m (σ.set i v) (ρ.set i none) st where
 len:=by simp[r.len]
 env:=fun j x h=>by
  by_cases e:i=j
  ·subst e;by_cases hl:i<ρ.length
   ·rw[zan hl]at h;cases h
   ·rw[zaJ (by simpa using hl)]at h;cases h
  ·rw[zar e]at h⊢;exact r.env j x h
 st:=r.st
theorem gF{e:jl}{k:Cl}{x:Str}:([x].any fun y=>k.fV.contains y)=k.fV.contains x:=by simp
theorem CW{g:Gx}{H:Hp}{m:Mp}{k:Cl}{e:jl}{cls:Value}{dd:Option Addr}{fs:List (Str×PyData)}(hn:k.name=e.cls)(er:wz g H m e cls dd)(hf:lV e.az=some fs):XF g H m k cls dd fs:=by
 obtain⟨C,h1,h2,h3⟩:=er;refine⟨C,by rw[hn];exact h1,h2,?_⟩;rcases h3 with⟨h4,h5⟩|⟨d,fv,h4,h5,h6,h7⟩
 ·rw[h4]at hf;cases hf;exact .inl ⟨h5,rfl⟩
 ·exact .inr ⟨d,fv,h4,h5,h6,BS h7 hf⟩
theorem xQ{fl:List Str}{i:Option Nat}{b:Bool}{xs:List SI}{e:jl}{ρ:ae}{st:aa}{fs:List (Str×PyData)}(hf:lV e.az=some fs):fR fl i (.ret b xs) e ρ st=match eH fl fs (unset i ρ) xs st with
 |some (ds,st1)=>if b then(if ds.length<=sizeLine then .ok (.ret (.d (.tuple ds))) st1 else .no)else match ds with
  | [d]=>.ok (.ret (.d d)) st1
  |_=>.no
 |none=>.no:=by
 unfold fR;rw[hf] <;> rfl
theorem M9{body:List Stmt}{fb:ae->aa->R Fl}{bV sto:Str->Bool}{x n:Str}{i:Nat}{su:Su}{b₀:Stmt}{np pos pos':Pos}(hx:X.ex=[])(hs:X.stack=X.env::X.outer)(hf:X.env.frame=some X.env.locals)(C:bQ X)(hi:X.N[i]?=some n)(hln:X.env.kindOf n=some .local)(tk:Takes X W)
 (hcl:iP X ns cl) (hy:x∈ns) (hg:Gl X x) (hdb:(x == ("__debug__" : Str))=false) (hV:mU X bV) (hS:yC X sto) (hsu:zQ X.N bV sto (some n) su b₀=true)
 (hb:∀ (W:WX) (pn:List (Addr×Obj)) (xe:Value->Shared->Prop),Takes (X.tr pn xe) W->PassesOwn (model X.prog X.w) X.A X.env xe->GSs (X.tr pn xe) W body fb) :
 GS X W (.Try body [.ExceptHandler (some (.Name x np)) (some n) [b₀] pos'] [] [] pos) (fun ρ st=>(fb ρ st).i9.bind fun fl st1=>gI cl [x] (some i) su fl st1):=by
 obtain⟨u,hu⟩:=hcl.nm x hy;refine ig (Be (i:=i) (Wout:=W) (tb:=fun W=>DS (gx X) W fb) (ts:=fun a cls d D σ H=>∃ k,InK X ns k cls/\QW (gx X) k (some i) su a cls d D σ H) hx hs hf C.nd hi hln (hu.names hg hdb) tk hb fun a oe cls d pn hz hfv=>zR fun k hk=>Fw C.nd hV hS hk hz hfv (fun y e=>⟨i,rfl,by cases e;exact hi⟩) hsu) fun D σ H q=>?_;obtain⟨m,ρ,st,r,o⟩:=q;refine⟨m,ρ,st,r,(jR o).imp fun fl st1 m1 H1 e1 s1 o1=>?_⟩;cases fl with
 |next ρ1=>exact ao.here o1 s1
 |ret v=>exact ao.here o1 s1
 |brk ρ1=>exact ao.here o1 s1
 |cont ρ1=>exact ao.here o1 s1
 |exc e ρ1=>
  intro σ' cls dd r' er;unfold gI at o1;dsimp only at o1;cases hk:dX cl e.cls with
  |none=>rw[hk]at o1;exact o1.elim
  |some k=>
   rw[hk]at o1;dsimp only at o1;obtain⟨hmem,hnm⟩:=jT hk;obtain⟨CC,mgC,nsC,A⟩:=hcl.at_ k hmem;obtain⟨C',mg',ec,_⟩:=id er;have mg':X.mg e.cls=some (.ref C'):=mg';rw[←hnm,mgC]at mg';obtain rfl:CC=C':=zbF (zam mg');subst ec;refine⟨k.fV.contains x,(A.sub x hy u hu).2,fun hb' a na=>?_,fun hb'=>?_⟩
   ·rw[zah (by rw[gF (e:=e)];exact hb')]at o1;refine⟨k,⟨CC,mgC,rfl,A⟩,?_⟩;by_cases hir:i<ρ1.length;case neg=>rw[zaj (by simp[BA,hir])]at o1;exact o1.elim
    rw[zah (by simp[BA,hir])]at o1;cases hfl:lV e.az with
    |none=>unfold fR at o1;rw[hfl]at o1;exact o1.elim
    |some fs=>
     have xf:=CW hnm er hfl;have hil:i<σ'.length:=by rw[r'.len];exact hir
     refine⟨fun j hj=>by cases hj;exact zan hil,m1,ρ1.set i none,st1,fs,r'.hide,xf,?_⟩;have ee:=bH (m:=m1) (bf (o:=yU (.ref CC) dd a) na);have sl:=s1.le (bf (o:=yU (.ref CC) dd a) na);cases su with
     |o9 _ _ _=>cases hsu
     |ret b xs=>
      rw[xQ hfl]at o1;have o1:ao (gx X) m1 H1 (match eH k.az fs (ρ1.set i none) xs st1 with
       |some (ds,st1)=>if b=true then(if ds.length<=sizeLine then R.ok (Fl.ret (.d (.tuple ds))) st1 else .no)else match ds with
        | [d]=>.ok (.ret (.d d)) st1
        |_=>.no
       |none=>.no) _:=o1
      cases hsr:eH k.az fs (ρ1.set i none) xs st1 with
      |none=>rw[hsr]at o1;exact o1.elim
      |some p=>
       obtain⟨ds,st2⟩:=p;rw[hsr]at o1;dsimp only at o1;cases b with
       |true=>
        rw[zah rfl]at o1;show ai (gx X) m1 H1 (eH k.az fs (ρ1.set i none) xs st1) _;rw[hsr];split at o1
        ·rename_i hl;exact fun m2 H2 e2 s2=>⟨hl,fun m3 H3 v e3 s3 rv=>(o1 m3 H3 (e2.trans e3) s3) v rv⟩
        ·exact o1.elim
       |false=>
        rw[zaj (by simp)]at o1;show ai (gx X) m1 H1 (eH k.az fs (ρ1.set i none) xs st1) _;rw[hsr];split at o1
        ·rename_i y;exact fun m2 H2 e2 s2=>⟨y,rfl,fun v rv=>(o1 m2 H2 e2 s2) v rv⟩
        ·exact o1.elim
     |keep j=>
      unfold fR at o1;rw[hfl]at o1;dsimp only at o1;split at o1
      ·rename_i hc;obtain⟨hj,hij⟩:=hc;refine(o1 m1 _ ee sl) _ ?_;have rx:=(r'.ext ee sl);refine⟨by simp[r'.len],fun l y hl=>?_,sl⟩;by_cases e1:i=l
       ·subst e1;rw[zan (by simpa using hir)]at hl;cases hl
       ·rw[zar e1]at hl⊢;by_cases e2:j=l
        ·subst e2;rw[zan hj]at hl;cases hl;refine⟨.ref a,zan (by simpa[r'.len]using hj),?_⟩;obtain⟨C2,m2,e3,h3⟩:=xf.stay ee.stay;cases e3;rcases h3 with⟨h4,h5⟩|⟨d2,fv,h4,h5,h6,h7⟩
         ·exact .xc (fv:=[]) (by rw[←hnm];exact nsC) ⟨dd,upd_same,s1.frz na,.inl ⟨h4,rfl⟩⟩ (by rw[h5];exact .nil)
         ·exact .xc (by rw[←hnm];exact nsC) ⟨dd,upd_same,s1.frz na,.inr ⟨d2,h4,h5,h6⟩⟩ h7
        ·rw[zar e2]at hl⊢;rw[zar e1];exact rx.env l y hl
      ·exact o1.elim
     |set j c=>
      intro v hv;unfold fR at o1;rw[hfl]at o1;dsimp only at o1;split at o1
      ·rename_i hj;refine(o1 m1 _ ee sl) _ ?_;have rx:=(r'.ext ee sl);refine⟨by simp[r'.len,unset],fun l y hl=>?_,sl⟩;have hl:((ρ1.set j (some (.d c))).set i none)[l]?=some (some y):=hl;by_cases e1:i=l
       ·subst e1;rw[zan (by simpa using hir)]at hl;cases hl
       ·rw[zar e1]at hl⊢;by_cases e2:j=l
        ·subst e2;rw[zan hj]at hl;cases hl;exact⟨v,zan (by simpa[r'.len]using hj),.d (hv _ _)⟩
        ·rw[zar e2]at hl⊢;rw[zar e1];exact rx.env l y hl
      ·exact o1.elim
   ·rw[zaj (by rw[gF (e:=e),hb'];simp)]at o1;exact ao.here o1 s1 σ' _ dd r' er
theorem Na{body:List Stmt}{fb:ae->aa->R Fl}{bV sto:Str->Bool}{x:Str}{su:Su}{b₀:Stmt}{np pos pos':Pos}(hs:X.stack=X.env::X.outer)(hf:X.env.frame=some X.env.locals)(C:bQ X)(tk:Takes X W)
 (hcl:iP X ns cl) (hy:x∈ns) (hg:Gl X x) (hdb:(x == ("__debug__" : Str))=false) (hV:mU X bV) (hS:yC X sto) (hsu:zQ X.N bV sto none su b₀=true)
 (hb:∀ (W:WX) (pn:List (Addr×Obj)) (xe:Value->Shared->Prop),Takes (X.tr pn xe) W->PassesOwn (model X.prog X.w) X.A X.env xe->GSs (X.tr pn xe) W body fb) :
 GS X W (.Try body [.ExceptHandler (some (.Name x np)) none [b₀] pos'] [] [] pos) (fun ρ st=>(fb ρ st).i9.bind fun fl st1=>gI cl [x] none su fl st1):=by
 obtain⟨u,hu⟩:=hcl.nm x hy;refine ig (ps_try_only (Wout:=W) (tb:=fun W=>DS (gx X) W fb) (ts:=fun a cls d D σ H=>∃ k,InK X ns k cls/\QW (gx X) k none su a cls d D σ H) hs hf (hu.names hg hdb) tk hb fun a oe cls d pn hz hfv=>zR fun k hk=>Fw C.nd hV hS hk hz hfv (fun y e=>by cases e) hsu) fun D σ H q=>?_;obtain⟨m,ρ,st,r,o⟩:=q;refine⟨m,ρ,st,r,(jR o).imp fun fl st1 m1 H1 e1 s1 o1=>?_⟩;cases fl with
 |next ρ1=>exact ao.here o1 s1
 |ret v=>exact ao.here o1 s1
 |brk ρ1=>exact ao.here o1 s1
 |cont ρ1=>exact ao.here o1 s1
 |exc e ρ1=>
  intro σ' cls dd r' er;unfold gI at o1;dsimp only at o1;cases hk:dX cl e.cls with
  |none=>rw[hk]at o1;exact o1.elim
  |some k=>
   rw[hk]at o1;dsimp only at o1;obtain⟨hmem,hnm⟩:=jT hk;obtain⟨CC,mgC,nsC,A⟩:=hcl.at_ k hmem;obtain⟨C',mg',ec,_⟩:=id er;have mg':X.mg e.cls=some (.ref C'):=mg';rw[←hnm,mgC]at mg';obtain rfl:CC=C':=zbF (zam mg');subst ec;refine⟨k.fV.contains x,(A.sub x hy u hu).2,fun hb' a na=>?_,fun hb'=>?_⟩
   ·rw[zah (by rw[gF (e:=e)];exact hb'),zah (by rfl)]at o1;refine⟨k,⟨CC,mgC,rfl,A⟩,?_⟩;cases hfl:lV e.az with
    |none=>unfold fR at o1;rw[hfl]at o1;exact o1.elim
    |some fs=>
     have xf:=CW hnm er hfl;refine⟨(fun j hj=>nomatch hj),m1,ρ1,st1,fs,r',xf,?_⟩;cases su with
     |o9 _ _ _=>cases hsu
     |ret b xs=>
      rw[xQ hfl]at o1;have o1:ao (gx X) m1 H1 (match eH k.az fs ρ1 xs st1 with
       |some (ds,st1)=>if b=true then(if ds.length<=sizeLine then R.ok (Fl.ret (.d (.tuple ds))) st1 else .no)else match ds with
        | [d]=>.ok (.ret (.d d)) st1
        |_=>.no
       |none=>.no) _:=o1
      cases hsr:eH k.az fs ρ1 xs st1 with
      |none=>rw[hsr]at o1;exact o1.elim
      |some p=>
       obtain⟨ds,st2⟩:=p;rw[hsr]at o1;dsimp only at o1;cases b with
       |true=>
        rw[zah rfl]at o1;show ai (gx X) m1 H1 (eH k.az fs ρ1 xs st1) _;rw[hsr];split at o1
        ·rename_i hl;exact fun m2 H2 e2 s2=>⟨hl,fun m3 H3 v e3 s3 rv=>(o1 m3 H3 (e2.trans e3) s3) v rv⟩
        ·exact o1.elim
       |false=>
        rw[zaj (by simp)]at o1;show ai (gx X) m1 H1 (eH k.az fs ρ1 xs st1) _;rw[hsr];split at o1
        ·rename_i y;exact fun m2 H2 e2 s2=>⟨y,rfl,fun v rv=>(o1 m2 H2 e2 s2) v rv⟩
        ·exact o1.elim
     |keep j=>unfold fR at o1;rw[hfl]at o1;exact o1.elim
     |set j c=>
      intro v hv;unfold fR at o1;rw[hfl]at o1;dsimp only at o1;split at o1
      ·rename_i hj;refine(ao.here o1 s1) _ ?_;refine⟨by simp[r'.len,unset],fun l y hl=>?_,s1⟩;have hl:(ρ1.set j (some (.d c)))[l]?=some (some y):=hl;by_cases e2:j=l
       ·subst e2;rw[zan hj]at hl;cases hl;exact⟨v,zan (by rw[r'.len];exact hj),.d (hv _ _)⟩
       ·rw[zar e2]at hl⊢;exact r'.env l y hl
      ·exact o1.elim
   ·rw[zaj (by rw[gF (e:=e),hb'];simp)]at o1;exact ao.here o1 s1 σ' _ dd r' er
end
section
variable {X:Cx} {a:Addr} {pn:List (Addr×Obj)} {xe:Value->Shared->Prop}
theorem Yw{es:List Expr}{t:TA}(h:PA (X.suite a pn) es t):PA (gX X a pn xe) es t:=⟨fun pos pins s σ H Q I q=>zbV (h.run pos pins s σ H Q (Bs I) q) (fun u s' ⟨v,H',J,r⟩=>⟨v,H',K0 J,r⟩) fun _ _ z=>False.elim z⟩
end
def Fx(cl:List Cl)(gl:Str->Bool)(N:List Str)(bV:Str->Bool)(n:Option Str)(c2:Str)(fl2:List Str)(xs:List SI)(s:Stmt):Bool:=match s with
 | .Raise (some (.Call (.Name x _) (e::es) [] _)) (some (.Constant .none _ _)) _=>decide (x=c2) && gl x && nE N bV n xs (e::es) && (match dX cl c2 with |some k2=>k2.ini && decide (k2.az=fl2) |none=>false)
 |_=>false
section
variable {X:Cx} {W:WX} {ns:List Str} {cl:List Cl}
def Wx(g:Gx)(ns:List Str)(X:Cx)(W:WX)(C2 i:Nat)(fl2:List Str)(xs:List SI)(a:Addr)(cls:Value)(d:Option Addr)(k:Cl):TS:=fun _ σ H=>σ[i]?=some (some (V.ref a))/\∃ m ρ st fs,Rel g.K H m σ ρ st/\XF g H m k cls d fs/\ ai g m H (eH k.az fs ρ xs st) fun ys st' m' H'=>ys.length=fl2.length/\ys.length<=800/\∀ vs,aY g.K H' m' vs ys->∀ dd,H' dd=none->W (.ref C2) (some dd) (σ.set i none) (upd H' dd (.xd (fl2.zip vs).reverse))
theorem IM{g:Gx}{k:Cl}{cls:Value}{d:Option Addr}{xs:List SI}{σ:L2.St}{H:Hp}{q q':List V->Hp->Prop}(h:∀ vs H,q vs H->q' vs H)(o:QU g k cls d xs σ H q):QU g k cls d xs σ H q':=by obtain⟨m,ρ,st,fs,r,xf,o⟩:=o;exact⟨m,ρ,st,fs,r,xf,ai.imp o fun ys st1 m1 H1 _ _ z vs rv=>h _ _ (z vs rv)⟩
theorem Nb{gl:Str->Bool}{N:List Str}{bV:Str->Bool}{n:Option Str}{c2:Str}{fl2:List Str}{xs:List SI}{s:Stmt}(h:Fx cl gl N bV n c2 fl2 xs s=true):
 ∃ px e es p1 j p2 p3 k2,s= .Raise (some (.Call (.Name c2 px) (e::es) [] p1)) (some (.Constant .none j p2)) p3/\gl c2=true/\nE N bV n xs (e::es)=true/\dX cl c2=some k2/\k2.ini=true/\k2.az=fl2:=by
 unfold Fx at h;split at h
 ·rename_i x px e es p1 j p2 p3;simp only[zaa,zab]at h;obtain⟨⟨⟨rfl,h2⟩,h3⟩,h4⟩:=h;cases hk:dX cl x with
  |none=>rw[hk]at h4;cases h4
  |some k2=>rw[hk]at h4;have h4:(k2.ini && decide (k2.az=fl2))=true:=h4;rw[zaa,zab]at h4;exact⟨px,e,es,p1,j,p2,p3,k2,rfl,h2,h3,rfl,h4.1,h4.2⟩
 ·cases h
theorem zS{N:List Str}{bV:Str->Bool}{n:Option Str}:∀ {xs:List SI} {es:List Expr},nE N bV n xs es=true->∀ y∈es,aG y=true
 | [],[],_=>fun _ h=>by cases h
 | [],_::_,h=>by cases h
 |_::_,[],h=>by cases h
 |x::xs,e::es,h=>by
  have h:(aG e && BU N bV n x e && nE N bV n xs es)=true:=h;simp only[zaa]at h;intro y hy;rcases zas.mp hy with rfl |hy
  ·exact h.1.1
  ·exact zS h.2 y hy
theorem QX{a:Addr}{oe:Obj}{cls:Value}{d:Option Addr}{pn:List (Addr×Obj)}{xe:Value->Shared->Prop}{k k2:Cl}{bV:Str->Bool}{n c2:Str}{i:Nat}{xs:List SI}{e:Expr}{es:List Expr}{px p1 p2 p3:Pos}{j:Nat}{C2:Addr}(nd:X.N.Nodup)(hr:Room 2 X.A)(hcl:iP X ns cl)(hV:mU X bV)(hk:InK X ns k cls)(hz:Zc cls d oe)(hf:∃ vs,oe.data= .fields vs)
 (hi:X.N[i]?=some n) (tk:Takes (gX X a ((a,oe)::pn) xe) (fun cls d σ H=>W cls d (σ.set i none) H)) (hot:L2H.HotC (gX X a ((a,oe)::pn) xe)) (hg:Gl X c2) (hdb:(c2 == ("__debug__" : Str))=false) (hs:nE X.N bV (some n) xs (e::es)=true) (hk2:dX cl c2=some k2) (hini:k2.ini=true) (hm2:X.mg c2=some (.ref C2)) :
 PSs (gX X a ((a,oe)::pn) xe) [.Raise (some (.Call (.Name c2 px) (e::es) [] p1)) (some (.Constant .none j p2)) p3] (Wx (gx X) ns X W C2 i k2.az xs a cls d k):=by
 obtain⟨hmem,hnm⟩:=jT hk2;obtain⟨D,hm,hns,A⟩:=hcl.at_ k2 hmem;rw[hnm,hm2]at hm;obtain rfl:C2=D:=zbF (zam hm);have mk:=A.zJ;rw[hini]at mk;obtain⟨fI,fd,T,iC,tI,_,F1,hb,hne,h8⟩:=mk;have hpa:=Yw (a:=a) (pn:=(a,oe)::pn) (xe:=xe) (zP (a:=a) (pn:=pn) hV hk hz hf (fun y e=>⟨i,by cases e;exact hi⟩) hs);have hp:=zS hs;refine tY (pss_cons (L2H.ps_raiseHN hot tk (Hv (X:=gX X a ((a,oe)::pn) xe) (fun σ H q q' h o=>⟨o.1,IM h o.2⟩) T iC tI F1 (L2H.roomH_mark hr _) hot hb hg hm2 hpa hne h8 hdb (aV (hp e zac) _ _) (di fun y hy=>hp y (zae _ hy)))) pss_nil) fun D' σ H q=>?_;obtain⟨h1,m,ρ,st,fs,r,xf,o⟩:=q;refine⟨fun y j' e hj=>?_,m,ρ,st,fs,r,xf,ai.imp o fun ys st1 m1 H1 e1 s1 z vs rv=>?_⟩
 ·cases e;rw[nodup_ix nd hj hi];exact h1
 ·obtain⟨z1,z2,z3⟩:=z;have hlen:vs.length=ys.length:=zao rv.pair;exact⟨by rw[hlen];exact z1,fun dd hd=>z3 vs rv dd hd⟩
theorem zT{K:PySem.W.Frag}{H:Hp}{m:Mp}:∀ {fl:List Str} {vs:List V} {ys:List PyData},aY K H m vs ys->eF K H m (fl.zip vs) (fl.zip (ys.map Val.d))
 | [],_,_,_=>.nil
 |_::_,_,_,.nil=>.nil
 |f::fl,_,_,.cons h r=>.cons ⟨rfl,.d h⟩ (zT r)
theorem Nd{body:List Stmt}{fb:ae->aa->R Fl}{bV gl:Str->Bool}{x n c2:Str}{i:Nat}{fl2:List Str}{xs:List SI}{b₀:Stmt}{np pos pos':Pos}(hx:X.ex=[])(hs:X.stack=X.env::X.outer)(hf:X.env.frame=some X.env.locals)(C:bQ X)(hi:X.N[i]?=some n)(hln:X.env.kindOf n=some .local)(tk:Takes X W)
 (hr:Room 2 X.A) (hcl:iP X ns cl) (hy:x∈ns) (hg:Gl X x) (hdb:(x == ("__debug__" : Str))=false) (hV:mU X bV) (hG:∀ y,gl y=true->Gl X y/\(y == ("__debug__" : Str))=false) (hsu:Fx cl gl X.N bV (some n) c2 fl2 xs b₀=true)
 (hb:∀ (W:WX) (pn:List (Addr×Obj)) (xe:Value->Shared->Prop),L2N.Takes (X.tr pn xe) W->PassesOwn (model X.prog X.w) X.A X.env xe->GSs (X.tr pn xe) W body fb) :
 GS X W (.Try body [.ExceptHandler (some (.Name x np)) (some n) [b₀] pos'] [] [] pos) (fun ρ st=>(fb ρ st).i9.bind fun fl st1=>gI cl [x] (some i) (.o9 c2 fl2 xs) fl st1):=by
 obtain⟨u,hu⟩:=hcl.nm x hy;obtain⟨px,e,es,p1,j,p2,p3,k2,rfl,g1,g2,hk2,hini,rfl⟩:=Nb hsu;obtain⟨hmem2,hnm2⟩:=jT hk2;obtain⟨C2,hm2,hns2,A2⟩:=hcl.at_ k2 hmem2;rw[hnm2]at hm2 hns2;refine ig (CB (i:=i) (Wout:=W) (tb:=fun W=>DS (gx X) W fb) (ts:=fun a cls d D σ H=>∃ k,InK X ns k cls/\Wx (gx X) ns X W C2 i k2.az xs a cls d k D σ H) hx hs hf C.nd hi hln (hu.names hg hdb) tk hb
  fun a oe cls d pn xe hz hfv tk' hot=>zR fun k hk=>QX C.nd hr hcl hV hk hz.zc hfv hi tk' hot (hG _ g1).1 (hG _ g1).2 g2 hk2 hini hm2) fun D σ H q=>?_
 obtain⟨m,ρ,st,r,o⟩:=q;refine⟨m,ρ,st,r,(jR o).imp fun fl st1 m1 H1 e1 s1 o1=>?_⟩;cases fl with
 |next ρ1=>exact ao.here o1 s1
 |ret v=>exact ao.here o1 s1
 |brk ρ1=>exact ao.here o1 s1
 |cont ρ1=>exact ao.here o1 s1
 |exc e ρ1=>
  intro σ' cls dd r' er;unfold gI at o1;dsimp only at o1;cases hk:dX cl e.cls with
  |none=>rw[hk]at o1;exact o1.elim
  |some k=>
   rw[hk]at o1;dsimp only at o1;obtain⟨hmem,hnm⟩:=jT hk;obtain⟨CC,mgC,nsC,A⟩:=hcl.at_ k hmem;obtain⟨C',mg',ec,_⟩:=id er;have mg':X.mg e.cls=some (.ref C'):=mg';rw[←hnm,mgC]at mg';obtain rfl:CC=C':=zbF (zam mg');subst ec;refine⟨k.fV.contains x,(A.sub x hy u hu).2,fun hb' a na=>?_,fun hb'=>?_⟩
   ·rw[zah (by rw[gF (e:=e)];exact hb')]at o1;refine⟨k,⟨CC,mgC,rfl,A⟩,?_⟩;by_cases hir:i<ρ1.length;case neg=>rw[zaj (by simp[BA,hir])]at o1;exact o1.elim
    rw[zah (by simp[BA,hir])]at o1;cases hfl:lV e.az with
    |none=>unfold fR at o1;rw[hfl]at o1;exact o1.elim
    |some fs=>
     have xf:=CW hnm er hfl;have hil:i<σ'.length:=by rw[r'.len];exact hir
     refine⟨zan hil,m1,ρ1.set i none,st1,fs,r'.hide,xf,?_⟩;unfold fR at o1;rw[hfl]at o1;have o1:ao (gx X) m1 H1 (match eH k.az fs (ρ1.set i none) xs st1 with
      |some (ds,st1)=>if ds.length=k2.az.length/\ds.length<=800 then R.ok (Fl.exc ⟨c2,(k2.az.zip (ds.map Val.d)).reverse⟩ (ρ1.set i none)) st1 else .no
      |none=>.no) _:=o1
     cases hsr:eH k.az fs (ρ1.set i none) xs st1 with
     |none=>rw[hsr]at o1;exact o1.elim
     |some p=>
      obtain⟨ds,st2⟩:=p;rw[hsr]at o1;dsimp only at o1;split at o1
      ·rename_i hl;refine fun m2 H2 e2 s2=>⟨hl.1,hl.2,fun vs rv d2 hd2=>?_⟩;have ee:=bH (m:=m2) (bf (o:=.xd (k2.az.zip vs).reverse) hd2);have sl:=s2.le (bf (o:=.xd (k2.az.zip vs).reverse) hd2);have q:=o1 m2 _ (e2.trans ee) sl;have rr:Rel X.K (upd H2 d2 (.xd (k2.az.zip vs).reverse)) m2 (σ'.set i none) (ρ1.set i none) st2:=by
        have z:=(r'.hide (i:=i) (v:=none)).ext (e2.trans ee) sl;exact z
       have rs:(σ'.set i (some (.ref a))).set i none=σ'.set i none:=by simp
       rw[rs];refine q (σ'.set i none) (.ref C2) (some d2) rr ⟨C2,hm2,rfl,.inr ⟨d2,_,rfl,upd_same,s2.frz hd2,?_⟩⟩;exact tH (eF.ext ee (zT rv))
      ·exact o1.elim
   ·rw[zaj (by rw[gF (e:=e),hb'];simp)]at o1;exact ao.here o1 s1 σ' _ dd r' er
end
section
end
structure Lq (sc scope:Scope) (p:Str):Prop where
 kind:scope.kind= .function
 co:scope.isCoroutine=false
 gen:scope.isGenerator=false
 own:∀ y∈scope.names,y.2≠.cell/\(y.2= .local->y.1=p)
 par:scope.names.lookup p=some .local
 free:∀ y∈scope.names,y.2= .free->sc.names.lookup y.1=some .cell\/sc.names.lookup y.1=some .free
theorem Lq.has{X:Cx}{scope:Scope}{p:Str}(L:Lq X.env.scope scope p)(ok:X.Ok):∀ y∈scope.names,y.2= .free->∃ c,X.env.cells.lookup y.1=some c:=fun y hy e=>by
 rcases L.free y hy e with k |k
 ·exact ok.has _ (.inl k)
 ·exact ok.has _ (.inr k)
section
end
section
end
section
end
section
end
theorem xR:∀ {ds:List PyData} {ns:List Int},intsOf ds=some ns->ds=ns.map PyData.int
 | [],ns,h=>by cases h;rfl
 | .int b::r,ns,h=>by obtain⟨ns',h1,rfl⟩:=zaG.mp (show (intsOf r).map (b::·)=some ns from h);rw[zaR,←xR h1]
 | .none::r,ns,h=>by cases h
 | .bool _::r,ns,h=>by cases h
 | .str _::r,ns,h=>by cases h
 | .list _::r,ns,h=>by cases h
 | .tuple _::r,ns,h=>by cases h
 | .dict _::r,ns,h=>by cases h
theorem nH:∀ ns:List Int,intsOf (ns.map PyData.int)=some ns
 | []=>rfl
 |n::r=>by show (intsOf (r.map PyData.int)).map (n::·)=_;rw[nH r];rfl
theorem tK{K:PySem.W.Frag}{H:Hp}{m:Mp}:∀ {vs:List V} {ks:List Int},aY K H m vs (ks.map PyData.int)->vs=ks.map V.int
 | [],[],_=>rfl
 |_::_,[],h=>by cases h
 | [],_::_,h=>by cases h
 |v::vs,k::ks,h=>by
  rw[zaR]at h;cases h with
  |cons h1 h2=>cases h1;rw[zaR,←tK h2]
theorem zU{a b:List Int}(h:PyData.tuple (a.map PyData.int)= .tuple (b.map PyData.int)):a=b:=by have h:a.map PyData.int=b.map PyData.int:=PyData.tuple.inj h;have:=nH a;rw[h,nH]at this;exact(zam this).symm
section
variable {K:PySem.W.Frag} {H:Hp} {m:Mp} {x:V} {st:aa}
theorem IP{k:PyData}(h:Rep K H m x (.d k))(hk:(wD k).isSome=true):∃ (q:Addr) (ks:List Int),x= .ref q/\k= .tuple (ks.map PyData.int)/\iV K H m q (ks.map V.int):=by
 obtain⟨ks,hk⟩:=zbz.mp hk;cases k with
 |tuple ds=>obtain rfl:=xR (show intsOf ds=some ks from hk);obtain⟨q,vs,rfl,h1,h2⟩:=gD h;obtain rfl:=tK h2;exact⟨q,ks,rfl,rfl,h1⟩
 |_=>cases hk
theorem BV:∀ {ks:List fJ} {kvs:List (PyData×Val)} {ds:List (PyData×PyData)},gn K H m ks kvs->bY kvs=some ds->rL K H m ks ds
 |_,_,_,.nil,h=>by cases h;exact .nil
 |_,_,_,.cons (b:=(k,.d x)) r t,h=>by obtain⟨ds',h1,rfl⟩:=zaG.mp (show (bY _).map ((k,x)::·)=some _ from h);exact .cons ⟨r.1,r.2.1,cN r.2.2⟩ (BV t h1)
 |_,_,_,.cons (b:=(k,.loc _)) r t,h=>by cases h
 |_,_,_,.cons (b:=(k,.bW _)) r t,h=>by cases h
 |_,_,_,.cons (b:=(k,.xc _ _)) r t,h=>by cases h
 |_,_,_,.cons (b:=(k,.td _)) r t,h=>by cases h
 |_,_,_,.cons (b:=(k,.dN _ _)) r t,h=>by cases h
 |_,_,_,.cons (b:=(k,.eo _ _)) r t,h=>by cases h
theorem IQ{k:List Int}{ks:List fJ}{kvs:List (PyData×Val)}(h:gn K H m ks kvs):(valT ks k).isSome=kvs.any fun p=>decide (p.1= .tuple (k.map PyData.int)):=by
 unfold gn at h;induction h with
 |nil=>rfl
 | @cons p q ps qs r _ ih=>
   obtain⟨a,b,c⟩:=p;obtain⟨kd,w⟩:=q;obtain⟨r1,_,_⟩:=r;obtain rfl:kd= .tuple (a.map PyData.int):=r1;rw[zbn,←ih];unfold valT;by_cases h:a=k
   ·subst h;simp
   ·have : ¬ PyData.tuple (a.map PyData.int)= .tuple (k.map PyData.int):=fun z=>h (zU z);simp[h,this]
theorem IR{k:List Int}{q:Addr}{v:V}{w:Val}{ks:List fJ}{kvs:List (PyData×Val)}(hq:iV K H m q (k.map V.int))(hv:Rep K H m v w)(h:gn K H m ks kvs):gn K H m (putT ks k q v) (aq kvs [(.tuple (k.map PyData.int),w)]):=by
 show gn K H m _ (if kvs.any (fun p=>decide (p.1= .tuple (k.map PyData.int)))=true then kvs.map (fun p=>if p.1= .tuple (k.map PyData.int)then(.tuple (k.map PyData.int),w)else p)else kvs++[(.tuple (k.map PyData.int),w)]);unfold putT;rw[←IQ h];split
 ·rename_i z;clear z;unfold gn at h⊢;induction h with
  |nil=>exact .nil
  | @cons p q' ps qs r _ ih=>
    refine .cons ?_ ih;obtain⟨a,b,c⟩:=p;obtain⟨kd,u⟩:=q';obtain⟨r1,r2,r3⟩:=r;obtain rfl:kd= .tuple (a.map PyData.int):=r1;by_cases h:a=k
    ·subst h;simp only[if_true];exact⟨by first |rfl |trivial,r2,hv⟩
    ·have : ¬ PyData.tuple (a.map PyData.int)= .tuple (k.map PyData.int):=fun z=>h (zU z);simp only[h,this,if_false];exact⟨by first |rfl |trivial,r2,r3⟩
 ·exact bM h (.cons ⟨rfl,hq,hv⟩ .nil)
end
section
variable {X:Cx} {pins:List (Addr×Obj)} {σ:L2.St} {H:Hp} {m:Mp} {s:Shared} {st:aa}
theorem key_is(I:Inv X pins σ H s){q:Addr}{ks:List Int}(h:iV X.K H m q (ks.map V.int)):(TK X.prog X.w).is s.heap ks q:=by obtain⟨its,r,t,_⟩:=I.tuple h.sq;exact Mi t (by simpa using r)
theorem keys_at(I:Inv X pins σ H s){ks:List fJ}{kvs:List (PyData×Val)}(h:gn X.K H m ks kvs):qh X.prog X.w s.heap ks:=by
 unfold qh;unfold gn at h;induction h with
 |nil=>intro p hp;cases hp
 |cons r _ ih=>
  intro p hp;rcases zas.mp hp with e |hp
  ·subst e;exact key_is I r.2.1
  ·exact ih p hp
end
section
variable {X:Cx} {pins:List (Addr×Obj)} {σ:L2.St} {H:Hp} {m:Mp} {s:Shared} {st:aa}
theorem wQ{K:PySem.W.Frag}(s:ak K H m st){n:Nat}{p:Addr}(hp:m.ls[n]?=some (some p)):lB ⟨m.ls.set n none,m.P⟩ p:=by refine⟨?_,s.np p (zag hp)⟩;intro z;obtain⟨i,hi⟩:=zaF.mp z;obtain⟨h1,h2⟩:=iM hi;exact h1 (s.inj i n p h2 hp)
def Vq(X:Cx):TSet:=fun o i v H Q=>∃ m st a b c,ak X.K H m st/\Rep X.K H m o a/\Rep X.K H m i b/\Rep X.K H m v c/\ai (gx X) m H ((ph a b c st).map fun st=>((),st)) fun _ _ _ H'=>Q H'
theorem Nf(C:bQ X):PSet X (Vq X):=by
 intro pins s σ H ox i v ov iv u Q I r1 r2 r3 h;obtain⟨m,st,a,b,c,S,ra,rb,rc,o⟩:=h;have hu:=C.un;cases e:ph a b c st with
 |none=>rw[e]at o;exact o.elim
 |some st1=>
  rw[e]at o;unfold ph at e;split at e
  ·rename_i n k;split at e
   ·rename_i kvs hc;split at e
    ·rename_i hk;cases e;obtain⟨p,hn,rfl,ks,hp,rr⟩:=dQ S ra hc (fun z=>by cases z);obtain⟨qa,kk,rfl,rfl,hq⟩:=IP rb hk.1;obtain rfl:ov=Value.ref p:=r1;obtain rfl:iv=Value.ref qa:=r2;refine EH (by omega) I hp (keys_at I rr) (key_is I hq) r3 (by rw[zao rr];exact hk.2) fun s' I'=>⟨_,I',?_⟩;exact ai.mut o S hn hp ⟨_,upd_same,IR (hq.stay (fH (zag hn) hp).stay) (rc.ext (fH (zag hn) hp)) (gn.ext (fH (zag hn) hp) rr)⟩
    ·cases e
   ·cases e
  ·cases e
variable {W:WX} {a b e:Expr} {pos p:Pos} {fa fb fe:ae->aa->R Val}
theorem Nh(C:bQ X)(hp:aG b=true)(ha:GE X W a fa)(hb:GE X W b fb):PG X (.Subscript a b pos) (DG (gx X) [] fun v ρ st=>(fa ρ st).bind fun o st1=>(fb ρ st1).bind fun k st2=>match ph o k v st2 with
 |some st3=>.ok ρ st3
 |none=>.no):=Fb (pg_sub ha hb (Nf C) (BJ hp)) fun v σ H Q q=>by
 obtain⟨m,ρ,st,x,r,rx,o⟩:=q;refine⟨m,ρ,st,r,ao.out ((ao.bind o).imp fun y st1 m1 H1 e1 s1 o1 u ru=>?_)⟩;refine⟨m1,ρ,st1,r.ext e1 s1,ao.out ((ao.bind o1).imp fun z st2 m2 H2 e2 s2 o2 t rt=>?_)⟩;refine⟨m2,st2,y,z,x,s2,ru.ext e2,rt,(rx.ext e1).ext e2,?_⟩;cases e:ph y z x st2 with
 |none=>rw[e]at o2;exact o2.elim
 |some st3=>rw[e]at o2;exact fun m3 H3 e3 s3=>o2 m3 H3 e3 s3 σ (((r.ext e1 s1).ext e2 s2).ext e3 s3) fun _ _=>rfl
theorem QY{te:TE}(h:PE X e te):PE X e (fun σ H Q=>te σ H fun x H1=>Q x H1\/∃ d ks,x= .ref d/\H1 d=some (TD d ks)/\∀ o,Q x (upd H1 d (.frz o (TD d ks)))):=⟨fun pins s σ H Q I q=>thn (h.run pins s σ H _ I q) fun u s1 ⟨x,H1,I1,rx,q1⟩=>by
 rcases q1 with q1 |⟨d,ks,ex,hd,q1⟩
 ·exact⟨x,H1,I1,rx,q1⟩
 ·obtain⟨o,I2⟩:=I1.lock hd (O3 _ _);exact⟨x,_,I2,rx,q1 o⟩⟩
def Lr(fa:ae->aa->R Val):ae->aa->R Val:=fun ρ st=>(fa ρ st).bind fun v st1=>match v with
    | .loc n=>match st1[n]? with
      |some (.lst xs)=>match datas xs with
       |some ds=>.ok (.d (.list ds)) (st1.set n .dead)
       |none=>.no
      |some (.dct kvs)=>match bY kvs with
       |some ds=>.ok (.d (.dict ds)) (st1.set n .dead)
       |none=>.no
      |some (.gQ kvs)=>match bY kvs with
       |some ds=>.ok (.td ds) (st1.set n .dead)
       |none=>.no
      |_=>.no
    |v=>.ok v st1
theorem Nj(ha:GE X W a fa):GE X W a (Lr fa):=PEw (QY ha) fun σ H Q q=>by
 obtain⟨m,ρ,st,r,o⟩:=q;refine⟨m,ρ,st,r,(Out.bind o).imp fun v st1 m1 H1 e1 s1 o1 x rx=>?_⟩;dsimp only at o1;split at o1
 ·rename_i n;split at o1
  ·rename_i xs hx;split at o1
   ·rename_i ds hd;obtain⟨p,hp,rfl,vs,hH,rs⟩:=dQ s1 rx hx (fun z=>by cases z);exact .inl (o1 _ _ eZ (nW s1) _ (.d (.lst (xs:=vs) ⟨hH,wQ s1 hp⟩ (gr (rs.ext eZ) hd))))
   ·exact o1.elim
  ·rename_i kvs hx;split at o1
   ·rename_i ds hd;obtain⟨p,hp,rfl,es,hH,rs⟩:=dQ s1 rx hx (fun z=>by cases z);exact .inl (o1 _ _ eZ (nW s1) _ (.d (.dct (es:=es) ⟨hH,wQ s1 hp⟩ (jQ (rs.ext eZ) hd))))
   ·exact o1.elim
  ·rename_i kvs hx;split at o1
   ·rename_i ds hd;obtain⟨p,hp,rfl,es,hH,rs⟩:=dQ s1 rx hx (fun z=>by cases z);refine .inr ⟨p,es,rfl,hH,fun od=>?_⟩;have e2:Ext m1 H1 m1 (upd H1 p (.frz od (TD p es))):=fH (zag hp) hH;have s2:ak X.K (upd H1 p (.frz od (TD p es))) m1 (st1.set n .dead):=rN s1 hp hH trivial;have s3:=nW (n:=n) s2;rw[List.set_set]at s3;exact o1 _ _ (e2.trans eZ) s3 _ (.td upd_same (wQ s1 hp) ((BV rs hd).stay (e2.trans eZ).stay))
   ·exact o1.elim
  ·exact o1.elim
 ·exact .inl ((Out.here o1 s1) _ rx)
end
end G
namespace L2
open PySem PySem.Spec PyProof.Rows
section
end
section
end
section
end
end L2
namespace G
open PySem PySem.Spec PyProof.Rows L2 PySem.W
theorem Later.rep{m1 m2:Mp}{H1 H2:Hp}{K:PySem.W.Frag}(l:Later m1 H1 m2 H2){v:V}{x:Val}(h:Rep K H1 m1 v x):Rep K H2 m2 v x:=h.j9 l.stay l.len l.at_
section
end
section
variable {X:Cx} {W:WX} {a b e:Expr} {es:List Expr} {pos p p2:Pos} {fa fb fe:ae->aa->R Val}
structure IS (K:PySem.W.Frag) (mg:Str->Option Value) (c' c:Str):Prop where
 at_:∀ C',PySem.W.nsIn K mainGlobals c'=some (some (.ref C'))->PySem.W.findIn K (.ref C') "__class__" = some (some (.builtin "object.__class__"))/\PySem.W.mroIn K C' (.type "object")=some true/\ ∀ C,mg c=some (.ref C)->PySem.W.kitOne K (.ref C') (.ref C)=some (decide (c'=c))
 get:PySem.W.specialIn K (.builtin "object.__class__") "__get__" = some (some (.builtin "getset_descriptor.__get__"))/\PySem.W.takesIn K (.builtin "object.__class__")=some true
abbrev Ls(X:Cx):Str->Str->Prop:=IS X.K X.mg
end
section
end
end G
namespace G
open PySem PySem.Spec PyProof.Rows L2 PySem.Calls
section
end
section
end
section
end
section
variable {prog:Program} {w:World} {A:Around} {E:Value->Shared->Prop} {s:Shared}
open PySem.W in
theorem CY{l:Addr}{items:Array Value}{x:Value}{rest:List Value}{Q:List Value->Shared->Prop}(hl:s.heap.IsList l items)(hh:A.handled=none)(hx:items.toList=x::rest)(hz:items.size<=sizeLine)
 (h:∀ h' tk,Heap.ExtBut s.heap.objs.size s.heap h'->Q [x,.ref h'.objs.size] { s with heap:=h'.push { cls:=.type "list",data:=.seq rest.toArray },toks:=tk }) :
 wpAny (model prog w) A (unpackItems (.ref l) 2 (some 1)) Q E s:=by
 have hn:1<=items.size:=by rw[←zaS,hx];simp
 have hlt:l≠s.heap.objs.size:=by obtain⟨o,ho,_⟩:=hl;exact zbC (zbk ho)
 unfold unpackItems;refine zaq ?_;unfold notIterableAtAll;refine zaq (wpAny_specialOf hl.typeIs slot_list_iter.lookup ?_);refine za9 ?_;simp only[zb0,if_false];refine zaq (za5 (wpAny_pyIter_list hl ?_));refine zaq (za5 (kun_draw hlt 1 0 _ _ ⟨_,zbr _ rfl,rfl,rfl⟩ (hl.push _) (by omega) fun h₁ hit₁ hs₁=>?_));have hl₁:h₁.IsList l items:=(hl.push _).extBut hs₁.extBut hlt;rw[zb4]at hit₁;have hit₁':=hit₁;obtain⟨oi,hoi,_⟩:=hit₁';have hl₁':=hl₁;obtain⟨ol,hol,_⟩:=hl₁';rw[zbc,hx];show wpAny _ _ (holding [x] (collect _) >>= _) _ _ _;refine zaq (za5 (kun_collect (s:={ s with heap:=h₁ }) (T:="list_iterator") (.inr (.inr (.inl rfl))) (Walks.list (A:=A.in1) hh s.heap.objs.size l hlt items) (fun j u st=>st.1.typeIs) (k:=1) (by omega) ⟨hit₁,hl₁⟩ (zbk hoi) (zbk hol) (fun h₂ tk hk=>?_) hz));rw[hx];show wpAny _ _ (if rest.length<0 then _ else _) _ _ _;rw[zaj (Nat.not_lt_zero _)];show wpAny _ _ (newList (rest.take rest.length) >>= fun d=>pure ([x]++[d]++rest.drop rest.length)) _ _ _;rw[za6,zbm];have he:Heap.ExtBut s.heap.objs.size s.heap h₂:=fun b o hb e=>hk b o hb (hs₁.extBut b o hb (zaT _ e));have hs:sizeOk (.seq rest.toArray):=by
  show rest.toArray.size<=sizeLine;have:items.toList.length=rest.length+1:=by rw[hx];rfl
  rw[zba];rw[zaS]at this;omega
 exact zaq (wpAny_newObj_type (za9 (h h₂ tk he)) hs)
open PySem.W in
theorem Bh{l:Addr}{items:Array Value}{x:Value}{rest:List Value}{Q:List Value->Shared->Prop}(hl:IsTup s.heap l items)(hh:A.handled=none)(hx:items.toList=x::rest)(hz:items.size<=sizeLine)
 (h:∀ h' tk,Heap.ExtBut s.heap.objs.size s.heap h'->Q [x,.ref h'.objs.size] { s with heap:=h'.push { cls:=.type "list",data:=.seq rest.toArray },toks:=tk }) :
 wpAny (model prog w) A (unpackItems (.ref l) 2 (some 1)) Q E s:=by
 have hn:1<=items.size:=by rw[←zaS,hx];simp
 have hlt:l≠s.heap.objs.size:=by obtain⟨o,ho,_⟩:=hl;exact zbC (zbk ho)
 unfold unpackItems;refine zaq ?_;unfold notIterableAtAll;refine zaq (wpAny_specialOf hl.typeIs slot_tuple_iter.lookup ?_);refine za9 ?_;simp only[zb0,if_false];refine zaq (za5 (iter_tuple hl ?_));refine zaq (za5 (draw_tuple hlt 1 0 _ _ ⟨_,zbr _ rfl,rfl,rfl⟩ (hl.push _) (by omega) fun h₁ hit₁ hs₁=>?_));have hl₁:IsTup h₁ l items:=(hl.push _).extBut hs₁.extBut hlt;rw[zb4]at hit₁;have hit₁':=hit₁;obtain⟨oi,hoi,_⟩:=hit₁';have hl₁':=hl₁;obtain⟨ol,hol,_⟩:=hl₁';rw[zbc,hx];show wpAny _ _ (holding [x] (collect _) >>= _) _ _ _;refine zaq (za5 (kun_collect (s:={ s with heap:=h₁ }) (T:="tuple_iterator") (.inr (.inr (.inr rfl))) (Walks.tuple (A:=A.in1) hh s.heap.objs.size l hlt items) (fun j u st=>st.1.typeIs) (k:=1) (by omega) ⟨hit₁,hl₁⟩ (zbk hoi) (zbk hol) (fun h₂ tk hk=>?_) hz));rw[hx];show wpAny _ _ (if rest.length<0 then _ else _) _ _ _;rw[zaj (Nat.not_lt_zero _)];show wpAny _ _ (newList (rest.take rest.length) >>= fun d=>pure ([x]++[d]++rest.drop rest.length)) _ _ _;rw[za6,zbm];have he:Heap.ExtBut s.heap.objs.size s.heap h₂:=fun b o hb e=>hk b o hb (hs₁.extBut b o hb (zaT _ e));have hs:sizeOk (.seq rest.toArray):=by
  show rest.toArray.size<=sizeLine;have:items.toList.length=rest.length+1:=by rw[hx];rfl
  rw[zba];rw[zaS]at this;omega
 exact zaq (wpAny_newObj_type (za9 (h h₂ tk he)) hs)
end
section
variable {X:Cx} {W:WX} {e1 e2:Expr}
def Vr(K:PySem.W.Frag)(t:TGs):TG:=fun v σ H Q=>∃ a x xs,v= .ref a/\(SqL K H a (x::xs)\/SqT K H a (x::xs))/\∀ p,H p=none->t [x,.ref p] σ (upd H p (.lst xs)) Q
theorem Nk{k:Nat}{p pos:Pos}{t:TGs}(hc:X.calm=true)(h:PGs X [e1,e2] t)(hp1:aG e1=true)(hp2:aG e2=true):PG X (.Tuple [e1,.Starred e2 p] k pos) (Vr X.K t):=by
 refine⟨fun pins s σ H v u Q I r hw=>?_⟩;obtain⟨a,x,xs,rfl,hq,hw⟩:=hw;cases r;have eq1:assignEach [e1,.Starred e2 p] X.env=[(false,assign e1 X.env),(true,assign e2 X.env)]:=by rw[ie hp1];rfl
 have eq2:(assignEach [e1,e2] X.env).map (·.2)=[assign e1 X.env,assign e2 X.env]:=by rw[ie hp1,ie hp2];rfl
 rw[assign_Tuple];refine zaq (wpAny_standAt ?_);unfold unpack;rw[eq1];have last:∀ (u:Value) (us:List Value),L2.RelV x u->Vals xs us->(x::xs).length<=sizeLine->∀ h' tk,Heap.ExtBut s.heap.objs.size s.heap h'->wpAny (model X.prog X.w) X.A (assignInOrder [assign e1 X.env,assign e2 X.env] [u,.ref h'.objs.size]) (fun _ s'=>∃ σ' H',Inv X pins σ' H' s'/\Q σ' H') X.xe { s with heap:=h'.push { cls:=.type "list",data:=.seq us.toArray },toks:=tk }:=fun u us r1 rr hz h' tk hx=>by have I1:Inv X pins σ H { s with heap:=h',toks:=tk }:=I.kept (t':=tk) fun b o e=>hx b o (zbC (zbk e)) e;have I2:=I1.laid (t':=tk) (o:=.lst xs) (h':=h'.push { cls:=.type "list",data:=.seq us.toArray }) (a:=h'.objs.size) (fun b ob q=>zaT _ q) (zal _) ⟨by simp only[zaf]at hz;omega,_,0,rr,zbr _ rfl⟩;have q:=h.run pins _ σ _ [x,.ref h'.objs.size] [u,.ref h'.objs.size] Q I2 (.cons r1 (.cons rfl .nil)) (hw _ (I1.hok.fresh (zal _)));rw[eq2]at q;exact q
 rcases hq with hq |hq
 ·obtain⟨its,rv,ht,hz⟩:=I.list hq;cases rv with
  |cons r1 rr=>rename_i u us;have hlen:=rr.length;exact zaq (za5 (CY ht.isList (I.ok.hd hc) (x:=u) (rest:=us) rfl (by rw[zba,zaf];simp only[zaf]at hz;omega) (last u us r1 rr hz)))
 ·obtain⟨its,rv,ht,hz⟩:=I.tuple hq;cases rv with
  |cons r1 rr=>rename_i u us;have hlen:=rr.length;exact zaq (za5 (Bh ht (I.ok.hd hc) (x:=u) (rest:=us) rfl (by rw[zba,zaf];simp only[zaf]at hz;omega) (last u us r1 rr hz)))
theorem Nl{i j k:Nat}{x y:Str}{p1 p2 p pos:Pos}(C:bQ X)(hi:X.N[i]?=some x)(hx:Loc X.env.scope x)(hf:X.fn x=true\/X.env.scope.names.lookup x=some .local)
 (hj:X.N[j]?=some y) (hy:Loc X.env.scope y) (hg:X.fn y=true\/X.env.scope.names.lookup y=some .local) :
 PG X (.Tuple [.Name x p1,.Starred (.Name y p2) p] k pos) (DG (gx X) [i,j] fun v ρ st=>match dO st v with
  |some (x::r)=>if i<ρ.length/\j<ρ.length then .ok ((ρ.set i (some (.d x))).set j (some (.d (.list r)))) st else .no
  |_=>.no):=Fb (Nk C.calm (wN rfl (wM C hi hx hf) (wN rfl (wM C hj hy hg) Fc)) rfl rfl) fun v σ H Q q=>by
 obtain⟨m,ρ,st,x,r,rx,o⟩:=q;dsimp only at o;cases hl:dO st x with
 |none=>rw[hl]at o;exact o.elim
 |some ds=>
  rw[hl]at o;cases ds with
  |nil=>exact o.elim
  |cons d ds=>
   dsimp only at o;split at o
   ·rename_i hij;obtain⟨a,vs,rfl,hH,rd⟩:=zj r.st rx hl;cases rd with
    | @cons _ vs _ _ r1 rr=>refine⟨a,_,_,rfl,hH,fun a2 ha2=>?_⟩;have e2:Ext m H m (upd H a2 (.lst vs)):=bH (bf ha2);have s2:=r.st.le (bf (o:=.lst vs) ha2);refine⟨m,ρ,st,[.d d,.d (.list ds)],r.ext e2 s2,.cons (Rep.ext e2 (.d r1)) (.cons (gE r.st ha2 rr) .nil),?_⟩;simp only[hij.1,if_true,R.bind,zbq,hij.2];exact fun m' H' e' s' σ' r' n'=>o m' H' (e2.trans e') s' σ' r' n'
   ·exact o.elim
end
end G
namespace G
open PySem PySem.Spec PyProof.Rows L2
section
variable {X:Cx} {W W':WX} {e:Expr} {s:Stmt}
theorem IT:GE X W e (fun _ _=>.no):=⟨fun pins s σ H Q I q=>by obtain⟨m,ρ,st,r,o⟩:=q;exact o.elim⟩
theorem IU:GT X W e (bZ fun _ _=>.no):=⟨fun pins s σ H Q I q=>by obtain⟨m,ρ,st,r,o⟩:=q;exact o.elim⟩
theorem IV:GS X W s (fun _ _=>.no):=⟨fun pins s σ H D I q=>by obtain⟨m,ρ,st,r,o⟩:=q;exact o.elim⟩
end
def vn(ft:Val->ae->aa->R ae)(fc:ae->aa->R Bool)(fi1:ae->aa->R cC)(ft1:Val->ae->aa->R ae)(fc1:ae->aa->R Bool)(fe:ae->aa->R Val)(own1:List Nat)(ρ:ae):Val->aa->R (List Val):=fun x st2=>(ft x ρ st2).bind fun ρ1 st3=>(fc ρ1 st3).bind fun b st4=>if b then(fi1 ρ1 st4).bind fun p1 st5=>cY (pF ft1 fc1 fe (bT ρ1 own1)) p1.2 p1.1 st5 else .ok [] st4
def qC(mu:Bool)(fi:ae->aa->R cC)(ft:Val->ae->aa->R ae)(fc:ae->aa->R Bool)(fi1:ae->aa->R cC)(ft1:Val->ae->aa->R ae)(fc1:ae->aa->R Bool)(fe:ae->aa->R Val)(own own1:List Nat):ae->aa->R Val:=fun ρ st=>(fi ρ st).bind fun p st1=>((iK (vn ft fc fi1 ft1 fc1 fe own1 (bT ρ own)) p.2 p.1 st1).bP).bind fun ys st6=>aU mu ys st6
theorem Fy{f:Val->aa->R (List Val)}{gd:lC}{l:List Val}{st:aa}{zs:List Val}{stf:aa}(h:iK f gd l st= .ok zs stf):gd.ok st:=by
 cases l with
 |nil=>
  unfold iK at h;split at h
  ·assumption
  ·cases h
 |cons x r=>
  unfold iK at h;split at h
  ·assumption
  ·cases h
theorem dh.refl{D:Addr}{m:Mp}{H:Hp}(h : ¬ m.In D):dh D m H m H:=⟨zal _,fun _ _=>.inl rfl,rfl,fun a u h _ _=>h,fun a h n=>absurd h n,h⟩
section
variable {X:Cx} {W W':WX} {elt tg iter tg1 iter1:Expr} {ifs ifs1:List Expr} {scope:Scope} {own:List (Str×Nat)} {vs1:List Nat} {pos:Pos} {fi fi1:ae->aa->R cC} {ft ft1:Val->ae->aa->R ae} {fc fc1:ae->aa->R Bool} {fe:ae->aa->R Val} {sl sl1:List Nat} {mu:Bool}
theorem zV(hsl:∀ i∈sl,i∈own.map (·.2))(hsl1:∀ i∈sl1,i∈vs1)(hlen:∀ x ρ st ρ1 st1,ft x ρ st= .ok ρ1 st1->ρ1.length=ρ.length)(hlen1:∀ x ρ st ρ1 st1,ft1 x ρ st= .ok ρ1 st1->ρ1.length=ρ.length)
 {σ:L2.St} {H:Hp} {Q:VK} (q:DE (gx X) W (qC mu fi ft fc fi1 ft1 fc1 fe (own.map (·.2)) vs1) σ H Q) :
 tLc2 (DI (gx X) W fi) (DG (gx X) sl ft) (DT (gx X) W' fc) (DI (gx X) W' fi1) (DG (gx X) sl1 ft1) (DT (gx X) W' fc1) (DE (gx X) W' fe) (own.map (·.2)) vs1 σ H Q:=by
 obtain⟨m,ρ,st,r,o⟩:=q;refine⟨m,ρ,st,r,(Out.bind o).imp fun p st1 m1 H1 e1 s1 o1 _ J hJ D hD=>?_⟩;have r1:=r.ext e1 s1;generalize hvs:own.map (·.2)=vs at *
 cases ef:iK (vn ft fc fi1 ft1 fc1 fe vs1 (bT ρ vs)) p.2 p.1 st1 with
 |no=>rw[ef]at o1;exact o1.elim
 |exc x s=>rw[ef]at o1;exact o1.elim
 |ok zs stf=>
 rw[ef]at o1;have o1:Out (gx X) W m1 H1 σ (aU mu zs stf) fun x _ m' H'=>∀ v,Rep X.K H' m' v x->Q v H':=o1;have hz:zs.length<=sizeLine:=by
  unfold aU at o1;split at o1
  ·assumption
  ·exact o1.elim
 have nP : ¬ m1.P D:=fun z=>s1.trk D z hD;have nI : ¬ m1.In D:=fun z=>s1.live D z hD;have hPD:(m1.hide D).P D:=.inr rfl;let Pv:Nat->Hp->Prop:=fun i H=>∃ mp st2 acc ys zs',dh D (m1.hide D) (upd H1 D (.lst [])) mp H/\ak X.K H mp st2/\H D=some (.lst acc)/\aW X.K H mp acc ys/\iK (vn ft fc fi1 ft1 fc1 fe vs1 (bT ρ vs)) p.2 (p.1.drop i) st2= .ok zs' stf/\zs=ys++zs'
 have late:∀ {mp:Mp} {H2:Hp},dh D (m1.hide D) (upd H1 D (.lst [])) mp H2->Later m1 H1 mp H2:=fun {mp H2} ed=>⟨fun a u h f=>by obtain⟨q1,q2⟩:=kM (o:=.lst []) hD a u h f;exact ed.stay hPD a u q1 q2,ed.len,ed.at_⟩;refine⟨fun i k H=>k=p.1.length-i/\i<=p.1.length/\Pv i H,⟨p.1.length,by simp,za1 _,m1.hide D,st1,[],[],zs,⟨zal _,fun _ _=>.inl rfl,rfl,fun a u h _ _=>h,fun a h n=>absurd h n,nI⟩,rP hD s1,upd_same,.nil,by rw[zbc];exact ef,rfl⟩,?_⟩;rintro i k H2 ⟨rfl,hi,mp,st2,acc,ys,zs',ed,s2,hD2,ra,ef2,ez⟩;have gd:=Fy ef2;have lt:=late ed;have hPmp:mp.P D:=by rw[ed.P];exact hPD
 have rl:Rel X.K H2 mp σ ρ st2:=⟨r.len,fun j x e=>by obtain⟨v,h1,h2⟩:=r1.env j x e;exact⟨v,h1,h2.late lt⟩,s2⟩;by_cases hlt:i<p.1.length
 ·refine .inr ⟨hJ.go i mp H2 st2 lt s2 gd hlt,Pv (i+1),fun H' h'=>⟨p.1.length-(i+1),by omega,rfl,hlt,h'⟩,fun x H' y=>?_⟩;have hv:p.1[i]?=some p.1[i]:=by simp[hlt]
  obtain⟨le,rx⟩:=hJ.yld i mp H2 st2 x H' p.1[i] lt s2 gd hv y;rw[za4 hlt]at ef2;unfold iK at ef2;rw[zah gd]at ef2;obtain⟨oy,st3,et,ef2⟩:=R.aZ ef2;obtain⟨yr,st4,er,ef3⟩:=R.aZ ef2;cases ef3;unfold vn at et;obtain⟨ρ1,st5,eg,et⟩:=R.aZ et;obtain⟨b,st6,ec,et⟩:=R.aZ et;refine⟨mp,bT ρ vs,st2,p.1[i],(gu rl vs).le le,rx,?_⟩;rw[eg];intro m3 H3 e3 s3 σ3 r3 n3;have len3:σ3.length=(wipe σ vs).length:=by have q1:=r3.len;have q2:=(gu rl vs).len;rw[q1,q2,hlen _ _ _ _ _ eg]
  refine⟨(nZ len3 fun j hj=>n3 j fun z=>hj (hsl j z)).trans (mQ σ vs),m3,ρ1,st5,r3,?_⟩;rw[ec];intro m4 H4 e4 s4;have ed4:dh D (m1.hide D) (upd H1 D (.lst [])) m4 H4:=by have q:=ed.le le;have n4 : ¬ m4.In D:=fun z=>s4.np D z (by rw[e4.P,e3.P];exact hPmp);have n3' : ¬ m3.In D:=fun z=>s3.np D z (by rw[e3.P];exact hPmp);exact(q.trans (e3.d n3')).trans (e4.d n4)
  have nI2 : ¬ mp.In D:=ed.no;have nI3 : ¬ m3.In D:=fun z=>s3.np D z (by rw[e3.P];exact hPmp);have hD4:H4 D=some (.lst acc):=e4.keep D _ (e3.keep D _ (le D _ hD2) nI2) nI3;have ra4:aW X.K H4 m4 acc ys:=aW.ext e4 (aW.ext e3 (Paired.mapP ra fun _ _ z=>z.le le));cases b with
  |false=>dsimp only;rw[zaj (by simp)]at et⊢;cases et;exact⟨m4,_,acc,ys,yr,ed4,s4,hD4,ra4,er,by simpa using ez⟩
  |true=>
   dsimp only;rw[zah rfl]at et⊢;obtain⟨p1,st7,ei,et⟩:=R.aZ et;refine⟨m4,ρ1,st6,r3.ext e4 s4,?_⟩;rw[ei];intro m5 H5 e5 s5 _ J1 hJ1;have hP5:m5.P D:=by rw[e5.P,e4.P,e3.P];exact hPmp
   have n5 : ¬ m5.In D:=fun z=>s5.np D z hP5;have n4 : ¬ m4.In D:=fun z=>s4.np D z (by rw[e4.P,e3.P];exact hPmp);have hD5:H5 D=some (.lst acc):=e5.keep D _ hD4 n4;have ra5:aW X.K H5 m5 acc ys:=aW.ext e5 ra4;have ed5:=ed4.trans (e5.d n5);have r5:=(r3.ext e4 s4).ext e5 s5;let Pv1:Nat->Hp->Prop:=fun j H=>∃ mq st8 acc1 ys1 zs1,dh D m5 H5 mq H/\ak X.K H mq st8/\H D=some (.lst acc1)/\aW X.K H mq acc1 ys1/\cY (pF ft1 fc1 fe (bT ρ1 vs1)) p1.2 (p1.1.drop j) st8= .ok zs1 st3/\ys++oy=ys1++zs1
   refine⟨fun j k H=>k=p1.1.length-j/\j<=p1.1.length/\Pv1 j H,⟨p1.1.length,by simp,za1 _,m5,st7,acc,ys,oy,dh.refl n5,s5,hD5,ra5,by rw[zbc];exact et,rfl⟩,?_⟩;rintro j k H6 ⟨rfl,hj,mq,st8,acc1,ys1,zs1,edq,s6,hD6,ra6,ef6,ez6⟩;have gd1:=zB ef6;have lt1:Later m5 H5 mq H6:=⟨edq.stay hP5,edq.len,edq.at_⟩;have hPq:mq.P D:=by rw[edq.P];exact hP5
   have rl1:Rel X.K H6 mq σ3 ρ1 st8:=⟨r5.len,fun j x e=>by obtain⟨v,h1,h2⟩:=r5.env j x e;exact⟨v,h1,h2.late lt1⟩,s6⟩;by_cases hlt1:j<p1.1.length
   ·refine .inr ⟨hJ1.go j mq H6 st8 lt1 s6 gd1 hlt1,Pv1 (j+1),fun H' h'=>⟨p1.1.length-(j+1),by omega,rfl,hlt1,h'⟩,fun x1 H' y1=>?_⟩;have hv1:p1.1[j]?=some p1.1[j]:=by simp[hlt1]
    obtain⟨le1,rx1⟩:=hJ1.yld j mq H6 st8 x1 H' p1.1[j] lt1 s6 gd1 hv1 y1;rw[za4 hlt1]at ef6;unfold cY at ef6;rw[zah gd1]at ef6;obtain⟨oz,st9,et1,ef6⟩:=R.aZ ef6;obtain⟨yr1,st10,er1,ef7⟩:=R.aZ ef6;cases ef7;unfold pF at et1;obtain⟨ρ2,st11,eg1,et1⟩:=R.aZ et1;obtain⟨b1,st12,ec1,et1⟩:=R.aZ et1;refine⟨mq,bT ρ1 vs1,st8,p1.1[j],(gu rl1 vs1).le le1,rx1,?_⟩;rw[eg1];intro m7 H7 e7 s7 σ7 r7 n7;have len7:σ7.length=(wipe σ3 vs1).length:=by have q1:=r7.len;have q2:=(gu rl1 vs1).len;rw[q1,q2,hlen1 _ _ _ _ _ eg1]
    refine⟨(nZ len7 fun j hj=>n7 j fun z=>hj (hsl1 j z)).trans (mQ σ3 vs1),m7,ρ2,st11,r7,?_⟩;rw[ec1];intro m8 H8 e8 s8;have n7' : ¬ m7.In D:=fun z=>s7.np D z (by rw[e7.P];exact hPq);have n8 : ¬ m8.In D:=fun z=>s8.np D z (by rw[e8.P,e7.P];exact hPq);have ed8:dh D m5 H5 m8 H8:=((edq.le le1).trans (e7.d n7')).trans (e8.d n8);have hD8:H8 D=some (.lst acc1):=e8.keep D _ (e7.keep D _ (le1 D _ hD6) edq.no) n7';have ra8:aW X.K H8 m8 acc1 ys1:=aW.ext e8 (aW.ext e7 (Paired.mapP ra6 fun _ _ z=>z.le le1));cases b1 with
    |false=>dsimp only;rw[zaj (by simp)]at et1⊢;cases et1;exact⟨m8,_,acc1,ys1,yr1,ed8,s8,hD8,ra8,er1,by simpa using ez6⟩
    |true=>
     dsimp only;rw[zah rfl]at et1⊢;obtain⟨y,st13,ee,et1⟩:=R.aZ et1;cases et1;refine⟨m8,ρ2,st12,r7.ext e8 s8,?_⟩;rw[ee];intro m9 H9 e9 s9 u ru;have hP9:m9.P D:=by rw[e9.P,e8.P,e7.P];exact hPq
     have n9 : ¬ m9.In D:=fun z=>s9.np D z hP9;refine⟨acc1,e9.keep D _ hD8 n8,?_,m9,_,acc1++[u],ys1++[y],yr1,(ed8.trans (e9.d n9)).upd,zA hP9 s9,upd_same,?_,er1,?_⟩
     ·have q:=zao ra6;have q2:(ys++oy).length=ys1.length+(1+yr1.length):=by rw[ez6];simp;omega
      have q3:zs.length=(ys++oy).length+yr.length:=by rw[ez];simp;omega
      omega
     ·exact bM (Paired.mapP (aW.ext e9 ra8) fun _ _ z=>nY hP9 z) (.cons (nY hP9 ru) .nil)
     ·rw[ez6];simp
   ·obtain rfl:j=p1.1.length:=by omega
    rw[zbm]at ef6;unfold cY at ef6;rw[zah gd1]at ef6;cases ef6;rw[zau]at ez6;refine .inl ⟨hJ1.stop mq H6 _ lt1 s6 gd1,mq,_,acc1,ys1,yr,ed5.trans edq,s6,hD6,ra6,er,?_⟩;rw[ez,←ez6];simp
 ·obtain rfl:i=p.1.length:=by omega
  refine .inl ⟨hJ.stop mp H2 st2 lt s2 gd,?_⟩;rw[zbm]at ef2;unfold iK at ef2;rw[zah gd]at ef2;cases ef2;rw[zau]at ez;subst ez;have q:=wL (g:=gx X) (yx (K:=X.K) ed.P nP s2) (Paired.mapP ra fun _ _ z=>qp ed.P z) (Out.from (u6 hD ed) o1);have q2:=q.2 D rR;rw[wO hD2]at q2;exact q2
theorem IW(C:bQ X)(hp:aG iter=true)(hp1:aG iter1=true)(hi:tD X W tg iter fi)(ok:BlkOk X.N X.env.scope scope own)(hv:∀ i∈vs1,i∈own.map (·.2))
 (hg:∀ (s:Shared) (H:Hp) (C:Addr) (cl:List (Str×Addr)) (fp:List Addr),PG (X.blk s H scope (compEnvC scope cl C X.env) fp) tg (DG (gx X) sl ft))
 (ht:∀ (s:Shared) (H:Hp) (C:Addr) (cl:List (Str×Addr)) (fp:List Addr),PTs (X.blk s H scope (compEnvC scope cl C X.env) fp) ifs (DT (gx X) W' fc))
 (hi1:∀ (s:Shared) (H:Hp) (C:Addr) (cl:List (Str×Addr)) (fp:List Addr),PI (X.blk s H scope (compEnvC scope cl C X.env) fp) tg1 iter1 (DI (gx X) W' fi1))
 (hg1:∀ (s:Shared) (H:Hp) (C:Addr) (cl:List (Str×Addr)) (fp:List Addr),PG (X.blk s H scope (compEnvC scope cl C X.env) fp) tg1 (DG (gx X) sl1 ft1))
 (ht1:∀ (s:Shared) (H:Hp) (C:Addr) (cl:List (Str×Addr)) (fp:List Addr),PTs (X.blk s H scope (compEnvC scope cl C X.env) fp) ifs1 (DT (gx X) W' fc1))
 (he:∀ (s:Shared) (H:Hp) (C:Addr) (cl:List (Str×Addr)) (fp:List Addr),PE (X.blk s H scope (compEnvC scope cl C X.env) fp) elt (DE (gx X) W' fe))
 (hsl:∀ i∈sl,i∈own.map (·.2)) (hsl1:∀ i∈sl1,i∈vs1) (hlen:∀ x ρ st ρ1 st1,ft x ρ st= .ok ρ1 st1->ρ1.length=ρ.length) (hlen1:∀ x ρ st ρ1 st1,ft1 x ρ st= .ok ρ1 st1->ρ1.length=ρ.length) :
 GE X W (.ListComp elt [⟨tg,iter,ifs,0⟩,⟨tg1,iter1,ifs1,0⟩] scope pos) (qC mu fi ft fc fi1 ft1 fc1 fe (own.map (·.2)) vs1):=
 PEw (pe_lc2 C.calm C.nd hi ok hv hg ht hi1 hg1 ht1 he (fun x=>kN hp _ x) fun env x=>kN hp1 env x) fun _ _ _ q=>zV hsl hsl1 hlen hlen1 q
theorem FA{i:Nat}{y:Str}{py spos:Pos}(C:bQ X)(hy:X.N[i]?=some y)(hyl:X.env.scope.names.lookup y=some .local)(hsw:swapsWith (.ListComp elt [⟨tg,iter,ifs,0⟩,⟨tg1,iter1,ifs1,0⟩] scope pos) (some (.Name y py)) spos.line X.env=pure true)
 (hp:aG iter=true) (hp1:aG iter1=true) (hi:tD X W tg iter fi) (ok:BlkOk X.N X.env.scope scope own) (hv:∀ i∈vs1,i∈own.map (·.2))
 (hg:∀ (s:Shared) (H:Hp) (C:Addr) (cl:List (Str×Addr)) (fp:List Addr),PG (X.blk s H scope (compEnvC scope cl C X.env) fp) tg (DG (gx X) sl ft))
 (ht:∀ (s:Shared) (H:Hp) (C:Addr) (cl:List (Str×Addr)) (fp:List Addr),PTs (X.blk s H scope (compEnvC scope cl C X.env) fp) ifs (DT (gx X) W' fc))
 (hi1:∀ (s:Shared) (H:Hp) (C:Addr) (cl:List (Str×Addr)) (fp:List Addr),PI (X.blk s H scope (compEnvC scope cl C X.env) fp) tg1 iter1 (DI (gx X) W' fi1))
 (hg1:∀ (s:Shared) (H:Hp) (C:Addr) (cl:List (Str×Addr)) (fp:List Addr),PG (X.blk s H scope (compEnvC scope cl C X.env) fp) tg1 (DG (gx X) sl1 ft1))
 (ht1:∀ (s:Shared) (H:Hp) (C:Addr) (cl:List (Str×Addr)) (fp:List Addr),PTs (X.blk s H scope (compEnvC scope cl C X.env) fp) ifs1 (DT (gx X) W' fc1))
 (he:∀ (s:Shared) (H:Hp) (C:Addr) (cl:List (Str×Addr)) (fp:List Addr),PE (X.blk s H scope (compEnvC scope cl C X.env) fp) elt (DE (gx X) W' fe))
 (hsl:∀ i∈sl,i∈own.map (·.2)) (hsl1:∀ i∈sl1,i∈vs1) (hlen:∀ x ρ st ρ1 st1,ft x ρ st= .ok ρ1 st1->ρ1.length=ρ.length) (hlen1:∀ x ρ st ρ1 st1,ft1 x ρ st= .ok ρ1 st1->ρ1.length=ρ.length) :
 GS X W (.Assign [.Name y py] (.ListComp elt [⟨tg,iter,ifs,0⟩,⟨tg1,iter1,ifs1,0⟩] scope pos) spos) (fun ρ st=>(qC mu fi ft fc fi1 ft1 fc1 fe (own.map (·.2)) vs1 ρ st).cat ρ fun v st1=>(if i<ρ.length then R.ok (ρ.set i (some v)) st1 else .no).bP.bind fun ρ1 st2=>.ok (.next ρ1) st2):=
 ig (ps_setLc2 C.calm C.nd hy hyl hsw hi ok hv hg ht hi1 hg1 ht1 he (fun x=>kN hp _ x) fun env x=>kN hp1 env x) fun D σ H q=>zV (mu:=mu) hsl hsl1 hlen hlen1 (by
  obtain⟨m,ρ,st,r,o⟩:=q;refine⟨m,ρ,st,r,(cz r o).imp fun v st1 m1 H1 e1 s1 o1 x rx=>?_⟩;split at o1
  ·exact ao.here o1 s1 _ ((r.ext e1 s1).set rx)
  ·exact o1.elim)
end
section
end
section
end
section
end
variable {X:Cx} {W:WX}
variable {a b c:Expr} {es ts:List Expr} {pos p p2 q:Pos} {fa fb fc:ae->aa->R Val} {fs:ae->aa->R (List Val)}
theorem Nm{i j l:Nat}{x y z:Str}{px py pz pt:Pos}{kt k2:Nat}{pt2:Pos}(C:bQ X)(hi:X.N[i]?=some x)(hj:X.N[j]?=some y)(hl:X.N[l]?=some z)(hij:i≠j)(hil:i≠l)(hjl:j≠l)
 (hx:X.env.scope.names.lookup x=some .local) (hy:X.env.scope.names.lookup y=some .local) (hz:X.env.scope.names.lookup z=some .local)
 (h1:aG a=true) (h2:aG b=true) (h3:aG c=true) (ha:GE X W a fa) (hb:GE X W b fb) (hc:GE X W c fc) (hw:swappedStores [.Tuple [.Name x px,.Name y py,.Name z pz] kt pt] (.Tuple [a,b,c] k2 pt2) X.env=pure (some [x,y,z])) :
 GS X W (.Assign [.Tuple [.Name x px,.Name y py,.Name z pz] kt pt] (.Tuple [a,b,c] k2 pt2) pos)
  (fun ρ st=>(fa ρ st).cat ρ fun v st1=>(fb ρ st1).cat ρ fun u st2=>(fc ρ st2).cat ρ fun w st3=>if i<ρ.length/\j<ρ.length/\l<ρ.length then .ok (.next (((ρ.set i (some v)).set j (some u)).set l (some w))) st3 else .no):=
 ig (ps_par3 C.calm C.nd hi hj hl hij hil hjl hx hy hz (pa_cons ha (pa_cons hb (pa_cons hc pa_nil (aV h3 _ _)) (aV h2 _ _)) (aV h1 _ _)) hw (show swapsWith (.Tuple [a,b,c] k2 pt2) (some (.Tuple [.Name x px,.Name y py,.Name z pz] kt pt)) pos.line X.env=pure false from rW rfl _ _)) fun D σ H q=>by
  obtain⟨m,ρ,st,r,o⟩:=q;refine⟨m,ρ,st,r,(cz r o).imp fun v st1 m1 H1 e1 s1 o1 x rx=>?_⟩;have r1:=r.ext e1 s1;refine⟨m1,ρ,st1,r1,(cz r1 o1).imp fun u st2 m2 H2 e2 s2 o2 y ry=>?_⟩;have r2:=r1.ext e2 s2;refine⟨m2,ρ,st2,r2,(cz r2 o2).imp fun w st3 m3 H3 e3 s3 o3 z rz=>?_⟩;refine⟨x,y,z,rfl,?_⟩;split at o3
  ·exact ao.here o3 s3 _ ((((r2.ext e3 s3).set ((rx.ext e2).ext e3)).set (ry.ext e3)).set rz)
  ·exact o3.elim
theorem Nn{k k2:Nat}{pt pt2:Pos}{sl:List Nat}{fg:List Val->ae->aa->R ae}(C:bQ X)(hp:∀ y∈ts,aG y=true)(hg:PGs X ts (BI (gx X) sl fg))(he:jN X W es fs)(hn:∀ xs ρ st ρ1 st1,fg xs ρ st= .ok ρ1 st1->xs.length=ts.length)
 (hw:swappedStores [.Tuple ts k pt] (.Tuple es k2 pt2) X.env=pure none) :
 GS X W (.Assign [.Tuple ts k pt] (.Tuple es k2 pt2) pos) (fun ρ st=>(fs ρ st).cat ρ fun vs st1=>if vs.length<=sizeLine then(fg vs ρ st1).bP.bind fun ρ1 st2=>.ok (.next ρ1) st2 else .no):=
 ig (ps_asg (pe_tup he) (pg_tup C.calm hg (pC hp) (mP hp)) (show swapsWith (.Tuple es k2 pt2) (some (.Tuple ts k pt)) pos.line X.env=pure false from rW rfl _ _) hw (by rw[ie rfl];rfl)) fun D σ H q=>by
  obtain⟨m,ρ,st,r,o⟩:=q;refine⟨m,ρ,st,r,(cz r o).imp fun vs st1 m1 H1 e1 s1 o1 xs rs=>?_⟩;split at o1
  ·rename_i hl;refine⟨by rw[zao rs];exact hl,fun p hp2=>?_⟩;have el:=bH (m:=m1) (bf (o:=.tup xs) hp2);have o2:=BP o1;refine⟨p,xs,rfl,.inl (.inl upd_same),?_,m1,ρ,st1,vs,(r.ext e1 s1).le (bf hp2),aW.ext el rs,(ao.from el o2).imp fun ρ1 st2 m2 H2 e2 s2 o3 σ' r' _=>ao.here o3 s2 σ' r'⟩;obtain⟨ρ1,st2,eq⟩:=ao.u5 o2;rw[zao rs];exact hn _ _ _ _ _ eq
  ·exact o1.elim
end G
namespace G
open PySem PySem.Spec PyProof.Rows L2
structure Tab where
 fns:List Str
 iQ:List (Str×Bool)
 mV:List Str
 exc:List Cl:=[]
 cls:List Str:=[]
 /-- the defs that make lambdas -/
 lam:List Str:=[]
 /-- the classes of instances -/
 obs:List Ob:=[]
 /-- the numbers of the defs that are methods -/
 meth:List Nat:=[]
 /-- a method's parameters that are given by name alone -/
 kwo:List (Nat×List Str):=[]
 /-- classes c',c: whether one is the other is asked -/
 kJ:List (Str×Str):=[]
 /-- the numbers of the defs whose exceptions may have a context -/
 hot:List Nat:=[]
def pJ(T:Tab)(i:Nat):List Str:=(T.kwo.lookup i).getD []
structure Ck where
 N:List Str
 sc:Scope
 fb:Str->Bool
 /-- the def in which we stand,where lambdas may be made -/
 nm:Option Str
 /-- whether defs may be called -/
 cl:Bool
 /-- whether exceptions may have a context here -/
 hot:Bool:=false
def FnAt(b:Bool)(X:Cx)(Fm:List Val->aa->R Val)(x:Str):Prop:=∃ fa fd ps k,X.mg x=some (.ref fa)/\PySem.W.keepIn X.K (.ref fa)=true/\Binds X.K fd ps []/\GFn (gj b X.prog X.w) X.prog X.w X.K X.mg X.base k fa fd ps (kO (gx X) ps.length Fm)/\Room k X.A/\∀ vs st,Fm vs st= .no\/vs.length=ps.length
def zW(X:Cx)(o:Option PyData)(x:Str):Bool->Prop
 |true=>∃ kvs,o=some (.dict kvs)/\Ll X x kvs
 |false=>∃ d u v,o=some d/\X.mg x=some u/\RelV v u/\∀ H m,bG X.K H m v d
theorem Np{b:Bool}{X:Cx}:pX b X (fun _ _ _ _=>False):=by
 cases b
 ·exact Bq takes0
 ·exact takes0
theorem wR{a b:Bool}(h:(!a ||b)=true):a=true->b=true:=by intro ha;subst ha;simpa using h
def wU(T:Tab)(c:Ck)(cn m:Str):Bool:=match cD T.obs cn m with
 |some i=>!T.hot.contains i ||c.hot
 |none=>true
theorem l5{T:Tab}{c:Ck}{cn m:Str}{i:Nat}(hi:cD T.obs cn m=some i)(h:wU T c cn m=true):T.hot.contains i=true->c.hot=true:=by unfold wU at h;rw[hi]at h;exact wR h
structure gm (T:Tab) (Nv:bz) (X:Cx) (W:WX) (c:Ck):Prop where
 n:X.N=c.N
 sc:X.env.scope=c.sc
 fn:∀ x,c.fb x=true->X.fn x=true
 cA:bQ X
 call:c.cl=true->∀ (f:Nat) (x:Str),T.fns[f]?=some x->T.meth.contains f=false->FnAt (T.hot.contains f) X (Nv.fns f) x
 glob:∀ (n:Nat) (x:Str) (b:Bool),T.iQ[n]?=some (x,b)->zW X (Nv.glob n) x b
 bi:∀ x,T.mV.contains x=true->X.mg x=none
 tk:pX c.hot X W
 xS:Nv.cls=T.exc
 cls:iP X T.cls T.exc
 rm:Room 2 X.A
 tL:Nv.obs=T.obs
 ob:kg X T.obs
 me:c.cl=true->∀ (cn m:Str) (i:Nat),cD T.obs cn m=some i->∀ C,PySem.W.nsIn X.K mainGlobals cn=some (some (.ref C))->MethAt (T.hot.contains i) X (Nv.fns i) C m (pJ T i)
 kJ:∀ c1 c2,T.kJ.contains (c1,c2)=true->Ls X c1 c2
 lam:∀ x,c.nm=some x->X.env.qual=x++".<locals>."/\Room 4 X.A/\∃ ca P,PySem.W.tabIn X.K x=some (ca,P)/\X.env.code= .ref ca/\LamX.TabB X.base X.mg ca P
def Ck.blk(c:Ck)(scope:Scope):Ck:=⟨c.N,relS scope c.sc,fun x=>scope.names.lookup x == some .cell,none,c.cl,c.hot⟩
theorem gm.blk{T:Tab}{Nv:bz}{X:Cx}{W:WX}{c:Ck}(F:gm T Nv X W c)(scope:Scope)(s:Shared)(H:Hp)(C:Addr)(cl:List (Str×Addr))(fp:List Addr):gm T Nv (X.blk s H scope (compEnvC scope cl C X.env) fp) (fun _ _ _ _=>False) (c.blk scope) where
 n:=F.n
 sc:=by show relS scope X.env.scope=relS scope c.sc;rw[F.sc]
 fn:=fun x h=>h
 cA:=⟨F.cA.calm,F.cA.nd,F.cA.un,F.cA.gd,F.cA.sm⟩
 call:=F.call
 glob:=F.glob
 bi:=F.bi
 tk:=Np
 xS:=F.xS
 cls:=⟨F.cls.nm,fun k hk=>by obtain⟨C,h1,h2,h3⟩:=F.cls.at_ k hk;refine⟨C,h1,h2,⟨h3.ex,h3.xf,h3.no,?_,h3.sub⟩⟩;have:=h3.zJ;cases hi:k.ini <;> (rw[hi]at this;exact this)⟩
 rm:=F.rm
 tL:=F.tL
 ob:=⟨fun o ho=>let⟨C,h1,h2,h3⟩:=F.ob.at_ o ho;⟨C,h1,h2,⟨h3.cls,h3.no⟩⟩⟩
 kJ:=fun c1 c2 h=>⟨(F.kJ c1 c2 h).at_,(F.kJ c1 c2 h).get⟩
 me:=F.me
 lam:=fun x h=>nomatch h
def Ck.lam(c:Ck)(scope:Scope):Ck:=⟨c.N,scope,fun _=>false,none,false,c.hot⟩
def zX(c:Ck)(x:Str):Bool:=match c.sc.names.lookup x with
 |some .local=>true
 |some .cell=>true
 |some .free=>true
 |_=>false
def fO(c:Ck)(x:Str):Bool:=match c.sc.names.lookup x with
 |some .globalImplicit=>true
 |_=>false
def eB(c:Ck)(x:Str):Bool:=match c.sc.names.lookup x with
 |some .local=>true
 |some .cell=>c.fb x
 |_=>false
def okN(x:Str):Bool:=!(x == ("__debug__" : Str)) && !(x == ("__classdict__" : Str)) && !(x == ("__name__" : Str))
section
variable {T:Tab} {Nv:bz} {X:Cx} {W:WX} {c:Ck} {x:Str}
theorem gm.bV(F:gm T Nv X W c)(h:zX c x=true):Vis X.env.scope x:=by unfold zX at h;unfold Vis;rw[F.sc];split at h <;> first |exact .inl ‹_› |exact .inr (.inl ‹_›) |exact .inr (.inr ‹_›) |cases h
theorem gm.gl(F:gm T Nv X W c)(h:fO c x=true):Gl X x:=by
 unfold fO at h;show X.env.scope.names.lookup x=_;rw[F.sc];split at h
 ·assumption
 ·cases h
theorem gm.st(F:gm T Nv X W c)(h:eB c x=true):L2.Loc X.env.scope x/\(X.fn x=true\/X.env.scope.names.lookup x=some .local):=by
 unfold eB at h;unfold L2.Loc;rw[F.sc];split at h
 ·exact⟨.inl ‹_›,.inr ‹_›⟩
 ·exact⟨.inr ‹_›,.inl (F.fn x h)⟩
 ·cases h
theorem dR(h:okN x=true):(x == ("__debug__" : Str))=false/\(x == ("__classdict__" : Str))=false/\x≠"__name__":=by unfold okN at h;simp only[zaa,zaK]at h;exact⟨h.1.1,h.1.2,fun e=>by rw[e]at h;simp at h⟩
end
theorem QZ:bootBuiltins "len" = some (.builtin "len"):=by rfl
theorem zY:bootBuiltins "tuple" = some (.type "tuple"):=by rfl
theorem Nq:bootBuiltins "list" = some (.type "list"):=by rfl
theorem FF:bootBuiltins "str" = some (.type "str"):=by rfl
theorem Q2:bootBuiltins "int" = some (.type "int"):=by rfl
theorem Nr:bootBuiltins "bool" = some (.type "bool"):=by rfl
theorem Nt:bootBuiltins "dict" = some (.type "dict"):=by rfl
theorem Nu:bootBuiltins "repr" = some (.builtin "repr"):=by rfl
theorem Q3:bootBuiltins "abs" = some (.builtin "abs"):=by rfl
theorem Q4:bootBuiltins "min" = some (.builtin "min"):=by rfl
theorem Q5:bootBuiltins "max" = some (.builtin "max"):=by rfl
theorem pZ:bootBuiltins "isinstance" = some (.builtin "isinstance"):=by rfl
def zZ:Bi->Option Str
 | .len=>some "len"
 | .tuple=>some "tuple"
 | .str=>some "str"
 | .repr=>some "repr"
 | .abs=>some "abs"
 | .min2=>some "min"
 | .max2=>some "max"
 |_=>none
def Q6:Ty->Str
 | .tuple=>"tuple"
 | .list=>"list"
 | .str=>"str"
 | .int=>"int"
 | .bool=>"bool"
 | .dict=>"dict"
theorem Vs(t:Ty):bootBuiltins (Q6 t)=some (.type (uW t)):=by
 cases t
 ·exact zY
 ·exact Nq
 ·exact FF
 ·exact Q2
 ·exact Nr
 ·exact Nt
def z4:Me->Option Str
 | .append=>some "append"
 | .join=>some "join"
 | .find3=>some "find"
 | .mO=>some "find"
 | .i8=>some "rstrip"
 | .count=>some "count"
 | .lg=>some "get"
 | .update=>some "update"
 | .jm=>some "index"
 |_=>none
section
variable {X:Cx} {W:WX} {e a:Expr} {es:List Expr} {x:Str} {p pos:Pos} {fs:ae->aa->R (List Val)} {fa:ae->aa->R Val}
theorem Vt{b:Bi}(C:bQ X)(hb:zZ b=some x)(hg:Gl X x)(hm:X.mg x=none)(hx:okN x=true)(hp:∀ y∈e::es,aG y=true)(ha:jN X W (e::es) fs):
 GE X W (.Call (.Name x p) (e::es) [] pos) (fun ρ st=>(fs ρ st).bind fun vs st1=>R.aS (cJ b vs st1)):=by
 obtain⟨h1,_,h3⟩:=dR hx;cases b with
 |len=>cases hb;exact jv P7 hg hm QZ h3 h1 hp ha
 |tuple=>cases hb;exact BH HR hg hm zY h3 h1 hp ha
 |str=>cases hb;exact BH (P8 C) hg hm FF h3 h1 hp ha
 |repr=>cases hb;exact jv (MA C) hg hm Nu h3 h1 hp ha
 |abs=>cases hb;exact jv P9 hg hm Q3 h3 h1 hp ha
 |min2=>cases hb;exact jv (My C) hg hm Q4 h3 h1 hp ha
 |max2=>cases hb;exact jv (Mz C) hg hm Q5 h3 h1 hp ha
 |_=>cases hb
theorem Ny{m:Me}{name:Str}{apos cpos:Pos}(C:bQ X)(hm:z4 m=some name)(hp:∀ y∈es,aG y=true)(hb:eK a=true)(hk:es.length<30)(hl:(apos.endLine == cpos.line)=true)(ha:GE X W a fa)(hs:jN X W es fs)(he:es=[]->fs=fun _ st=>.ok [] st):
 GE X W (.Call (.Attribute a name apos) es [] cpos) (fun ρ st=>(fa ρ st).bind fun x st1=>if recv m st1 x=true then(fs ρ st1).bind fun vs st2=>R.aS (bO m x vs st2)else .no):=by
 cases es with
 |nil=>
  rw[he rfl];cases m with
  |append=>cases hm;exact jw PySem.F.plainAttrs_list PySem.F.slot_list_append PySem.F.type_list_append xC hb hl ha
  |join=>cases hm;exact jw zaD PySem.F.slot_str_join PySem.F.type_str_join BE hb hl ha
  |find3=>cases hm;exact jw zaD zbM zbN zo hb hl ha
  |mO=>cases hm;exact jw zaD zbM zbN zq hb hl ha
  |i8=>cases hm;exact jw zaD PySem.F.slot_str_rstrip PySem.F.type_str_rstrip uY hb hl ha
  |count=>cases hm;exact jw zaD PySem.F.slot_str_count PySem.F.type_str_count zu hb hl ha
  |lg=>cases hm;exact jw zbu PySem.F.slot_dict_get PySem.F.type_dict_get (BO C) hb hl ha
  |update=>cases hm;exact jw zbu zbY PySem.F.type_dict_update xF hb hl ha
  |jm=>cases hm;exact jw zaD PySem.F.slot_str_index PySem.F.type_str_index xG hb hl ha
  |_=>cases hm
 |cons e es=>
  cases m with
  |append=>cases hm;exact lF PySem.F.plainAttrs_list PySem.F.slot_list_append PySem.F.type_list_append xC hp hb hk hl ha hs (k:=0)
  |join=>cases hm;exact lF zaD PySem.F.slot_str_join PySem.F.type_str_join BE hp hb hk hl ha hs (k:=0)
  |find3=>cases hm;exact lF zaD zbM zbN zo hp hb hk hl ha hs (k:=0)
  |mO=>cases hm;exact lF zaD zbM zbN zq hp hb hk hl ha hs (k:=0)
  |i8=>cases hm;exact lF zaD PySem.F.slot_str_rstrip PySem.F.type_str_rstrip uY hp hb hk hl ha hs (k:=0)
  |count=>cases hm;exact lF zaD PySem.F.slot_str_count PySem.F.type_str_count zu hp hb hk hl ha hs (k:=0)
  |lg=>cases hm;exact lF zbu PySem.F.slot_dict_get PySem.F.type_dict_get (BO C) hp hb hk hl ha hs (k:=0)
  |update=>cases hm;exact lF zbu zbY PySem.F.type_dict_update xF hp hb hk hl ha hs (k:=0)
  |jm=>cases hm;exact lF zaD PySem.F.slot_str_index PySem.F.type_str_index xG hp hb hk hl ha hs (k:=0)
  |_=>cases hm
def CZ:jK->Operator
 | .add=>.Add | .sub=>.Sub | .mul=>.Mult | .mod=>.Mod | .fdiv=>.FloorDiv | .pow=>.Pow | .shr=>.RShift | .band=>.BitAnd | .Hz=>.Add
theorem Q7(o:jK):GO X (binaryOp (CZ o)) (gZ o):=by
 cases o
 ·exact PL
 ·exact PM
 ·exact PN
 ·exact PP
 ·exact Ms
 ·exact PR
 ·exact PU
 ·exact Mu
 ·exact MR
def C3:uM->CmpOp
 | .eq=>.Eq | .ne=>.NotEq | .lt=>.Lt | .le=>.LtE | .gt=>.Gt | .ge=>.GtE | .is=>.Is | .oY=>.IsNot | .isin=>.In | .oZ=>.NotIn
theorem FG(C:bQ X)(o:uM):GO X (compareOp (C3 o)) (cI o):=by
 cases o
 ·exact U8 C
 ·exact U9 C
 ·exact Va C
 ·exact Vc
 ·exact Vb
 ·exact Vd
 ·exact Ve
 ·exact HJ
 ·exact Vf C
 ·exact HK C
end
def l6(c:Ck)(own:List Nat):List (Str×Nat):=own.map fun i=>((c.N[i]?).getD "",i)
mutual
def jU:Tg->List Nat
 | .name i=>[i]
 | .tup ts=>C4 ts
 | .sub _ _=>[]
 | .subT _ _=>[]
 | .fld _ _=>[]
 | .star i j=>[i,j]
def C4:jL->List Nat
 | .nil=>[]
 | .cons t r=>jU t++C4 r
end
def C5(c:Ck)(i j:Nat):Expr->Bool
 | .Tuple [.Name x _,.Starred (.Name y _) _] _ _=>decide (c.N[i]?=some x) && eB c x && decide (c.N[j]?=some y) && eB c y
 |_=>false
def isTup:Expr->Bool
 | .Tuple _ _ _=>true
 |_=>false
theorem IX{e:Expr}(h:isTup e=true):∃ es k p,e= .Tuple es k p:=by
 unfold isTup at h;split at h
 ·exact⟨_,_,_,rfl⟩
 ·cases h
def IY(T:Tab)(c:Ck)(ys:List Str):Expr->Bool
 | .Name y _=>decide (ys=[y]) && T.cls.contains y && fO c y && okN y
 | .Tuple es _ _=>qA ys es && (ys.all fun y=>T.cls.contains y && fO c y && okN y) && decide (ys.length<=1000)
 |_=>false
def Q8(T:Tab)(x:Str)(vs:List Expr):Bool:=match dX T.exc x with
 |some k=>if vs.isEmpty then !k.ini else k.ini
 |none=>false
def wV(c:Ck)(x:Str):Bool:=zX c x && okN x
def Wy(c:Ck):Option Nat->Option Str->Bool
 |some i,some n=>decide (c.N[i]?=some n) && (match c.sc.names.lookup n with |some .local=>true |_=>false)
 |none,none=>true
 |_,_=>false
def IZ(T:Tab)(cn:Str)(vs:List Expr)(kws:List Keyword):Bool:=match cD T.obs cn "__init__" with
 |some i=>(match kws with
  | []=>decide (pJ T i=[])
  | [⟨some kw,_,_⟩]=>decide (pJ T i=[kw]) && !vs.isEmpty
  |_=>false)
 |none=>false
def I6(T:Tab)(cn m:Str):Bool:=match cD T.obs cn m with
 |some i=>decide (pJ T i=[])
 |none=>false
mutual
def au(T:Tab)(c:Ck):E->Expr->Bool
 | .var i,.Name x _=>decide (c.N[i]?=some x) && zX c x && okN x
 | .cst d,.Constant k _ _=>litOk k d
 | .glob n,.Name x _=>decide (T.iQ[n]?=some (x,false)) && fO c x && okN x
 | .bin o a b,.BinOp x op y _=>decide (op=CZ o) && au T c a x && au T c b y
 | .neg a,.UnaryOp .USub x _=>au T c a x
 | .cmp o a b,.Compare x [op] [y] _=>decide (op=C3 o) && aG y && au T c a x && au T c b y
 | .and es,.BoolOp .And vs _=>rZ T c es vs
 | .or es,.BoolOp .Or vs _=>rZ T c es vs
 | .not a,.UnaryOp .Not x _=>au T c a x
 | .ite t a b,.IfExp x y z _=>au T c t x && au T c a y && au T c b z
 | .tup es,.Tuple vs _ _=>dF T c es vs
 | .lst _ es,.List vs _=>dF T c es vs
 | .dct _ kvs,.Dict ks vs _=>vo T c kvs ks vs && decide (ks.length<=15)
 | .ix a i,.Subscript x y _=>aG y && au T c a x && au T c i y
 | .slice a lo hi,.Subscript x (.Slice l u none _) _=>au T c a x && vp T c lo l && vp T c hi u
 | .xA g i,.Subscript (.Name y _) z _=>decide (T.iQ[g]?=some (y,true)) && fO c y && okN y && aG z && au T c i z
 | .call f args,.Call (.Name x _) vs [] _=>c.cl && (decide (T.fns[f]?=some x) && !T.meth.contains f && (!T.hot.contains f ||c.hot)) && fO c x && okN x && dF T c args vs
 | .bi b args,.Call (.Name x _) vs [] _=>decide (zZ b=some x) && T.mV.contains x && fO c x && okN x && !vs.isEmpty && dF T c args vs
 | .nS a [t],.Call (.Name x _) [y,.Name z _] [] _=>decide (x="isinstance") && T.mV.contains x && fO c x && decide (z=Q6 t) && T.mV.contains z && fO c z && okN x && okN z && aG y && au T c a y
 | .me m a args,.Call (.Attribute o nm apos) vs [] cpos=>decide (z4 m=some nm) && eK o && (apos.endLine == cpos.line) && decide (vs.length<30) && au T c a o && dF T c args vs
 | .comp _ elt tg it ifs own,.ListComp e [g] scope _=>decide (g.is_async=0) && blkC c.N c.sc scope (l6 c own) && aG g.iter && ((jU tg).all fun i=>own.contains i) && fz T c it g.target g.iter && fB T (c.blk scope) tg g.target && iR T (c.blk scope) ifs g.ifs && au T (c.blk scope) elt e
 | .frz a,e=>u3 e && au T c a e
 | .never,_=>true
 | .o7 _ elt tg it ifs tg1 it1 ifs1 own own1,.ListComp e [g,g1] scope _=>decide (g.is_async=0) && decide (g1.is_async=0) && blkC c.N c.sc scope (l6 c own) && aG g.iter && aG g1.iter && ((jU tg).all fun i=>own.contains i) && ((jU tg1).all fun i=>own1.contains i) && (own1.all fun i=>own.contains i) &&
  fz T c it g.target g.iter && fB T (c.blk scope) tg g.target && iR T (c.blk scope) ifs g.ifs && fz T (c.blk scope) it1 g1.target g1.iter && fB T (c.blk scope) tg1 g1.target && iR T (c.blk scope) ifs1 g1.ifs && au T (c.blk scope) elt e
 | .sV a ys,.Call (.Name x _) [z,w] [] _=>decide (x="isinstance") && T.mV.contains x && fO c x && okN x && aG z && IY T c ys w && au T c a z
 | .fld a f,.Attribute z g _=>decide (g=f) && eK z && au T c a z
 | .new cn args ks,.Call (.Name x _) vs kws _=>c.cl && wU T c cn "__init__" && decide (x=cn) && fO c x && okN x && IZ T cn vs kws && dF T c args vs && dF T c ks (kws.map (·.value))
 | .av cn m a args,.Call (.Attribute o nm apos) vs [] cpos=>c.cl && wU T c cn m && decide (nm=m) && I6 T cn m && eK o && (apos.endLine == cpos.line) && decide (vs.length<30) && au T c a o && dF T c args vs
 | .o8 _ ke ve tg it ifs own,.DictComp kx vx [g] scope _=>decide (g.is_async=0) && blkC c.N c.sc scope (l6 c own) && aG g.iter && ((jU tg).all fun i=>own.contains i) && fz T c it g.target g.iter && fB T (c.blk scope) tg g.target && iR T (c.blk scope) ifs g.ifs && au T (c.blk scope) ke kx && au T (c.blk scope) ve vx
 |_,_=>false
def rZ(T:Tab)(c:Ck):Es->List Expr->Bool
 | .cons a .nil,[x]=>au T c a x
 | .cons a r,x::y::xs=>au T c a x && rZ T c r (y::xs)
 |_,_=>false
def vp(T:Tab)(c:Ck):Pt->Option Expr->Bool
 | .no,none=>true
 | .e a,some x=>au T c a x
 |_,_=>false
def dF(T:Tab)(c:Ck):Es->List Expr->Bool
 | .nil,[]=>true
 | .cons a r,x::xs=>aG x && au T c a x && dF T c r xs
 |_,_=>false
def vo(T:Tab)(c:Ck):nR->List (Option Expr)->List Expr->Bool
 | .nil,[],[]=>true
 | .cons a b r,some x::xs,y::ys=>au T c a x && au T c b y && vo T c r xs ys
 |_,_,_=>false
def iR(T:Tab)(c:Ck):Es->List Expr->Bool
 | .nil,[]=>true
 | .cons a .nil,[x]=>au T c a x
 |_,_=>false
def fz(T:Tab)(c:Ck):It->Expr->Expr->Bool
 | .e a,_,x=>au T c a x
 | .rng as,_,.Call (.Name x _) vs [] _=>decide (x="range") && T.mV.contains x && fO c x && dF T c as vs && (decide (vs.length=1) ||decide (vs.length=2) ||decide (vs.length=3))
 | .items a,tg,.Call (.Attribute o nm apos) [] [] cpos=>decide (nm="items") && eK o && (apos.endLine == cpos.line) && isTup tg && au T c a o
 |_,_,_=>false
def fB(T:Tab)(c:Ck):Tg->Expr->Bool
 | .name i,.Name x _=>decide (c.N[i]?=some x) && eB c x
 | .tup ts,.Tuple vs _ _=>qD T c ts vs
 | .sub a i,.Subscript x y _=>aG y && au T c a x && au T c i y
 | .star i j,e=>C5 c i j e
 | .fld a f,.Attribute x g _=>decide (g=f) && au T c a x
 | .subT a i,.Subscript x y _=>aG y && au T c a x && au T c i y
 |_,_=>false
def qD(T:Tab)(c:Ck):jL->List Expr->Bool
 | .nil,[]=>true
 | .cons t r,x::xs=>aG x && fB T c t x && qD T c r xs
 |_,_=>false
end
section
variable {Nv:bz} {T:Tab} {X:Cx} {W:WX} {c:Ck} {e:Expr}
def GB(X:Cx)(W:WX)(e:Expr)(f:ae->aa->R Val):Prop:=GE X W e f/\GT X W e (bZ f)
theorem br{f:ae->aa->R Val}(h:u3 e=true)(g:GE X W e f):GB X W e f:=⟨g,Vi g h⟩
abbrev aL(T:Tab)(Nv:bz)(t:E):Prop:=∀ (X:Cx) (W:WX) (c:Ck) (e:Expr),gm T Nv X W c->au T c t e=true->GB X W e (ev Nv t)
theorem ir{a b d:Bool}(h:(a && b && d)=true):a=true/\b=true/\d=true:=by simp only[zaa]at h;exact⟨h.1.1,h.1.2,h.2⟩
theorem Q9(i:Nat):aL T Nv (.var i):=fun X W c e F h=>by
 have ee:ev Nv (.var i)=fun ρ st=>match ρ[i]? with |some (some v)=>.ok v st |_=>.no:=by funext ρ st;first |(rw[ev];done) |(rw[ev];rfl)
 rw[ee];cases e <;> first |(cases h;done) |skip
 rename_i x p;have h:(decide (c.N[i]?=some x) && zX c x && okN x)=true:=h;obtain⟨h1,h2,h3⟩:=ir h;obtain⟨d1,d2,_⟩:=dR h3;exact br rfl (EZ (by rw[F.n];exact zad h1) (F.bV h2) d1 d2)
theorem Ra(d:PyData):aL T Nv (.cst d):=fun X W c e F h=>by
 have ee:ev Nv (.cst d)=fun _ st=>.ok (.d d) st:=by funext ρ st;first |(rw[ev];done) |(rw[ev];rfl)
 rw[ee];cases e <;> first |(cases h;done) |skip
 exact br rfl (E2 h)
theorem Nz(n:Nat):aL T Nv (.glob n):=fun X W c e F h=>by
 cases e <;> first |(cases h;done) |skip
 rename_i x p;have h:(decide (T.iQ[n]?=some (x,false)) && fO c x && okN x)=true:=h;obtain⟨h1,h2,h3⟩:=ir h;obtain⟨d1,d2,_⟩:=dR h3;obtain⟨d,u,v,hd,m1,r1,r2⟩:=F.glob n x false (zad h1);have ee:ev Nv (.glob n)=fun _ st=>.ok (.d d) st:=by funext ρ st;rw[ev,hd]
 rw[ee];exact br rfl (MC (F.gl h2) m1 r1 d1 r2)
theorem Rb(g:Nat)(a:E)(ha:aL T Nv a):aL T Nv (.xA g a):=fun X W c e F h=>by
 cases e <;> first |(cases h;done) |skip
 rename_i x y p;cases x <;> first |(cases h;done) |skip
 rename_i z pz;have h:(decide (T.iQ[g]?=some (z,true)) && fO c z && okN z && aG y && au T c a y)=true:=h;simp only[zaa]at h;obtain⟨⟨⟨⟨h2,h3⟩,h4⟩,h4'⟩,h5⟩:=h;obtain⟨kvs,hd,hw⟩:=F.glob g z true (zad h2);have ee:ev Nv (.xA g a)=fun ρ st=>(ev Nv a ρ st).bind fun v st1=>match v with
  | .d (.str x)=>match gp kvs x with
    |some d=>.ok (.d d) st1
    |none=>.no
  |_=>.no:=by
  funext ρ st
  rw[ev];congr 1
  funext v st1
  rw[hd];cases v with
  |d d=>cases d <;> rfl
  |loc _=>rfl
  |bW _=>rfl
  |xc _ _=>rfl
  |td _=>rfl
  |dN _ _=>rfl
  |eo _ _=>rfl
 rw[ee];exact br rfl (QH (F.gl h3) (dR h4).1 hw h4' (ha X W c _ F h5).1)
abbrev vq(T:Tab)(Nv:bz)(t:Pt):Prop:=∀ (X:Cx) (W:WX) (c:Ck) (o:Option Expr),gm T Nv X W c->vp T c t o=true->E5 X W o (cZ Nv t)
theorem Vu:vq T Nv .no:=fun X W c o F h=>by
 have ee:cZ Nv .no=fun _ st=>.ok none st:=by funext ρ st;rw[cZ]
 rw[ee];cases o with
 |none=>exact MG
 |some _=>cases h
theorem Yx(a:E)(ha:aL T Nv a):vq T Nv (.e a):=fun X W c o F h=>by
 have ee:cZ Nv (.e a)=fun ρ st=>(ev Nv a ρ st).bind fun v st1=>match v with | .d (.int i)=>.ok (some i) st1 |_=>.no:=by funext ρ st;first |(rw[cZ];done) |(rw[cZ];rfl)
 rw[ee];cases o with
 |none=>cases h
 |some x=>exact MH (ha X W c _ F h).1
theorem I7(a:E)(lo hi:Pt)(ha:aL T Nv a)(h1:vq T Nv lo)(h2:vq T Nv hi):aL T Nv (.slice a lo hi):=fun X W c e F h=>by
 have ee:ev Nv (.slice a lo hi)=fun ρ st=>(ev Nv a ρ st).bind fun x st1=>(cZ Nv lo ρ st1).bind fun l st2=>(cZ Nv hi ρ st2).bind fun u st3=>R.aS (fU x l u st3):=by funext ρ st;rw[ev]
 rw[ee];cases e <;> first |(cases h;done) |skip
 rename_i x y p;cases y <;> first |(cases h;done) |skip
 rename_i l u s p2;cases s <;> first |(cases h;done) |skip
 have h:(au T c a x && vp T c lo l && vp T c hi u)=true:=h;obtain⟨k1,k2,k3⟩:=ir h;exact br rfl (Ib (ha X W c _ F k1).1 (h1 X W c _ F k2) (h2 X W c _ F k3))
theorem Rc(o:jK)(a b:E)(ha:aL T Nv a)(hb:aL T Nv b):aL T Nv (.bin o a b):=fun X W c e F h=>by
 have ee:ev Nv (.bin o a b)=iH (gZ o) (ev Nv a) (ev Nv b):=by funext ρ st;first |(rw[ev];done) |(rw[ev];rfl)
 rw[ee];cases e <;> first |(cases h;done) |skip
 rename_i x op y p;have h:(decide (op=CZ o) && au T c a x && au T c b y)=true:=h;obtain⟨h1,h2,h3⟩:=ir h;rw[zad h1];exact br rfl (O5 (Q7 o) (ha X W c _ F h2).1 (hb X W c _ F h3).1)
theorem Rf(a:E)(ha:aL T Nv a):aL T Nv (.neg a):=fun X W c e F h=>by
 have ee:ev Nv (.neg a)=fun ρ st=>(ev Nv a ρ st).bind fun v st1=>match v with | .d (.int i)=>.ok (.d (.int (-i))) st1 |_=>.no:=by funext ρ st;first |(rw[ev];done) |(rw[ev];rfl)
 rw[ee];cases e <;> first |(cases h;done) |skip
 rename_i op x p;cases op <;> first |(cases h;done) |skip
 exact br rfl (Qe (ha X W c _ F h).1)
theorem Rg(o:uM)(a b:E)(ha:aL T Nv a)(hb:aL T Nv b):aL T Nv (.cmp o a b):=fun X W c e F h=>by
 have ee:ev Nv (.cmp o a b)=iH (cI o) (ev Nv a) (ev Nv b):=by funext ρ st;first |(rw[ev];done) |(rw[ev];rfl)
 rw[ee];cases e <;> first |(cases h;done) |skip
 rename_i x ops ys p;match ops,ys,h with
 | [op],[y],h=>have h:(decide (op=C3 o) && aG y && au T c a x && au T c b y)=true:=h;simp only[zaa]at h;obtain⟨⟨⟨h1,h2⟩,h3⟩,h4⟩:=h;rw[zad h1];exact⟨Qg (FG F.cA o) (ha X W c _ F h3).1 (hb X W c _ F h4).1 h2,Qh (HU o) (FG F.cA o) (ha X W c _ F h3).1 (hb X W c _ F h4).1 h2⟩
 | [],_,h=>cases h
 | [_],[],h=>cases h
 | [_],_::_::_,h=>cases h
 |_::_::_,_,h=>cases h
theorem Rh(a:E)(ha:aL T Nv a):aL T Nv (.not a):=fun X W c e F h=>by
 have ee:ev Nv (.not a)=fun ρ st=>(ev Nv a ρ st).bind fun v st1=>(aX v st1).bind fun b st2=>.ok (.d (.bool (!b))) st2:=by funext ρ st;first |(rw[ev];done) |(rw[ev];rfl)
 rw[ee];cases e <;> first |(cases h;done) |skip
 rename_i op x p;cases op <;> first |(cases h;done) |skip
 exact⟨Qi (ha X W c _ F h).1,Qj (ha X W c _ F h).2⟩
theorem Ri(t a b:E)(ht:aL T Nv t)(ha:aL T Nv a)(hb:aL T Nv b):aL T Nv (.ite t a b):=fun X W c e F h=>by
 have ee:ev Nv (.ite t a b)=fun ρ st=>(ev Nv t ρ st).bind fun v st1=>(aX v st1).bind fun k st2=>if k then ev Nv a ρ st2 else ev Nv b ρ st2:=by funext ρ st;first |(rw[ev];done) |(rw[ev];rfl)
 rw[ee];cases e <;> first |(cases h;done) |skip
 rename_i x y z p;have h:(au T c t x && au T c a y && au T c b z)=true:=h;obtain⟨h1,h2,h3⟩:=ir h;exact⟨Qk (ht X W c _ F h1).2 (ha X W c _ F h2).1 (hb X W c _ F h3).1,Ql (ht X W c _ F h1).2 (ha X W c _ F h2).2 (hb X W c _ F h3).2⟩
theorem Vv(a b:E)(ha:aL T Nv a)(hb:aL T Nv b):aL T Nv (.ix a b):=fun X W c e F h=>by
 have ee:ev Nv (.ix a b)=iH cW (ev Nv a) (ev Nv b):=by funext ρ st;first |(rw[ev];done) |(rw[ev];rfl)
 rw[ee];cases e <;> first |(cases h;done) |skip
 rename_i x y p;have h:(aG y && au T c a x && au T c b y)=true:=h;obtain⟨h1,h2,h3⟩:=ir h;exact br rfl (Vm F.cA h1 (ha X W c _ F h2).1 (hb X W c _ F h3).1)
abbrev iB(T:Tab)(Nv:bz)(t:Es):Prop:=∀ (X:Cx) (W:WX) (c:Ck) (es:List Expr),gm T Nv X W c->dF T c t es=true->jN X W es (bj Nv t)/\(∀ y∈es,aG y=true)/\(∀ ρ st vs st1,bj Nv t ρ st= .ok vs st1->vs.length=es.length)/\(es=[]->bj Nv t=fun _ st=>.ok [] st)
theorem Rj:iB T Nv .nil:=fun X W c es F h=>by
 have ee:bj Nv .nil=fun _ st=>.ok [] st:=by funext ρ st;rw[bj]
 cases es with
 |nil=>
  rw[ee];refine⟨Qs,fun y hy=>?_,fun ρ st vs st1 q=>?_,fun _=>rfl⟩
  ·cases hy
  ·have q:R.ok ([]:List Val) st= .ok vs st1:=q;cases q;rfl
 |cons _ _=>cases h
theorem NB(a:E)(r:Es)(ha:aL T Nv a)(hr:iB T Nv r):iB T Nv (.cons a r):=fun X W c es F h=>by
 have ee:bj Nv (.cons a r)=fun ρ st=>(ev Nv a ρ st).bind fun v st1=>(bj Nv r ρ st1).bind fun vs st2=>.ok (v::vs) st2:=by funext ρ st;rw[bj]
 cases es with
 |nil=>cases h
 |cons x xs=>
  have h:(aG x && au T c a x && dF T c r xs)=true:=h;obtain⟨h1,h2,h3⟩:=ir h;obtain⟨q1,q2,q3,_⟩:=hr X W c xs F h3;rw[ee];refine⟨MF h1 (ha X W c _ F h2).1 q1,fun y hy=>?_,fun ρ st vs st1 e=>?_,fun z=>nomatch z⟩
  ·rcases zas.mp hy with z |z
   ·rw[z];exact h1
   ·exact q2 y z
  ·obtain⟨v,s1,e1,e2⟩:=R.aZ e;obtain⟨us,s2,e3,e4⟩:=R.aZ e2;cases e4;rw[zaf,zaf,q3 _ _ _ _ e3]
abbrev sd(T:Tab)(Nv:bz)(t:Es):Prop:=∀ (X:Cx) (W:WX) (c:Ck) (es:List Expr) (p:Pos),gm T Nv X W c->rZ T c t es=true->(GE X W (.BoolOp .And es p) (dP Nv t)/\uZ X W (.BoolOp .And es p) (bZ (dP Nv t)))/\(GE X W (.BoolOp .Or es p) (fX Nv t)/\uZ X W (.BoolOp .Or es p) (bZ (fX Nv t)))
theorem Rk:sd T Nv .nil:=fun X W c es p F h=>by cases es <;> cases h
theorem NC(a:E)(r:Es)(ha:aL T Nv a)(hr:sd T Nv r):sd T Nv (.cons a r):=fun X W c es p F h=>by
 cases r with
 |nil=>
  have e1:dP Nv (.cons a .nil)=ev Nv a:=by funext ρ st;rw[dP]
  have e2:fX Nv (.cons a .nil)=ev Nv a:=by funext ρ st;rw[fX]
  match es,h with
  | [x],h=>obtain⟨q1,q2⟩:=ha X W c x F h;rw[e1,e2];exact⟨⟨E3 q1,ME q2⟩,⟨E3 q1,Qn q2⟩⟩
  | [],h=>cases h
  |x::y::xs,h=>have h:(au T c a x && rZ T c .nil (y::xs))=true:=h;rw[zaa]at h;cases h.2
 |cons b r=>
  have e1:dP Nv (.cons a (.cons b r))=zv (ev Nv a) (dP Nv (.cons b r)):=by funext ρ st;rw[dP] <;> first |rfl |(intro z;cases z)
  have e2:fX Nv (.cons a (.cons b r))=E4 (ev Nv a) (fX Nv (.cons b r)):=by funext ρ st;rw[fX] <;> first |rfl |(intro z;cases z)
  match es,h with
  | [],h=>cases h
  | [x],h=>cases h
  |x::y::xs,h=>have h:(au T c a x && rZ T c (.cons b r) (y::xs))=true:=h;rw[zaa]at h;obtain⟨q1,q2⟩:=ha X W c x F h.1;obtain⟨⟨r1,r2⟩,⟨r3,r4⟩⟩:=hr X W c (y::xs) p F h.2;rw[e1,e2];exact⟨⟨Qm q1 r1,Qp q2 r2⟩,⟨Vj q1 r3,Vl q2 r4⟩⟩
theorem Rl(es:Es)(h:sd T Nv es):aL T Nv (.and es):=fun X W c e F hk=>by
 have ee:ev Nv (.and es)=dP Nv es:=by funext ρ st;first |(rw[ev];done) |(rw[ev];rfl)
 rw[ee];cases e <;> first |(cases hk;done) |skip
 rename_i op vs p;cases op <;> first |(cases hk;done) |skip
 obtain⟨⟨q1,q2⟩,_⟩:=h X W c vs p F hk;exact⟨q1,Qq q2⟩
theorem Vw(es:Es)(h:sd T Nv es):aL T Nv (.or es):=fun X W c e F hk=>by
 have ee:ev Nv (.or es)=fX Nv es:=by funext ρ st;first |(rw[ev];done) |(rw[ev];rfl)
 rw[ee];cases e <;> first |(cases hk;done) |skip
 rename_i op vs p;cases op <;> first |(cases hk;done) |skip
 obtain⟨_,⟨q1,q2⟩⟩:=h X W c vs p F hk;exact⟨q1,Qq q2⟩
theorem Rm(es:Es)(h:iB T Nv es):aL T Nv (.tup es):=fun X W c e F hk=>by
 have ee:ev Nv (.tup es)=fun ρ st=>(bj Nv es ρ st).bind fun vs st1=>match datas vs with
  |some ds=>if ds.length<=sizeLine then .ok (.d (.tuple ds)) st1 else .no
  |none=>.no:=by funext ρ st;first |(rw[ev];done) |(rw[ev];rfl)
 rw[ee];cases e <;> first |(cases hk;done) |skip
 rename_i vs k p;exact br rfl (Qt (h X W c vs F hk).1)
theorem Ro(mu:Bool)(es:Es)(h:iB T Nv es):aL T Nv (.lst mu es):=fun X W c e F hk=>by
 have ee:ev Nv (.lst mu es)=fun ρ st=>(bj Nv es ρ st).bind fun vs st1=>aU mu vs st1:=by funext ρ st;first |(rw[ev];done) |(rw[ev];rfl)
 rw[ee];cases e <;> first |(cases hk;done) |skip
 rename_i vs p;exact br rfl (Qu (h X W c vs F hk).1)
theorem ND(f:Nat)(es:Es)(h:iB T Nv es):aL T Nv (.call f es):=fun X W c e F hk=>by
 have ee:ev Nv (.call f es)=fun ρ st=>(bj Nv es ρ st).bind fun vs st1=>Nv.fns f vs st1:=by funext ρ st;first |(rw[ev];done) |(rw[ev];rfl)
 rw[ee];cases e <;> first |(cases hk;done) |skip
 rename_i fe vs ks p;cases fe <;> first |(cases hk;done) |skip
 rename_i x px;cases ks <;> first |(cases hk;done) |skip
 have hk:(c.cl && (decide (T.fns[f]?=some x) && !T.meth.contains f && (!T.hot.contains f ||c.hot)) && fO c x && okN x && dF T c es vs)=true:=hk;simp only[zaa]at hk;obtain⟨⟨⟨⟨h0,⟨h1,h1'⟩,hh⟩,h2⟩,h3⟩,h5⟩:=hk;obtain⟨q1,q2,q3,q4⟩:=h X W c vs F h5;obtain⟨fa,fd,ps,k,m1,m2,m3,m4,m5,m6⟩:=F.call h0 f x (zad h1) (by simpa using h1');cases vs with
 |nil=>rw[q4 rfl];exact br rfl (IE F.cA (F.tk.at (wR hh)) m4 m6 m5 (F.gl h2) m1 m2 m3 (dR h3).1)
 |cons v vs=>exact br rfl (MX F.cA (F.tk.at (wR hh)) m4 m6 m5 (F.gl h2) m1 m2 m3 (dR h3).1 q2 q1)
theorem Vx(b:Bi)(es:Es)(h:iB T Nv es):aL T Nv (.bi b es):=fun X W c e F hk=>by
 have ee:ev Nv (.bi b es)=fun ρ st=>(bj Nv es ρ st).bind fun vs st1=>R.aS (cJ b vs st1):=by funext ρ st;first |(rw[ev];done) |(rw[ev];rfl)
 rw[ee];cases e <;> first |(cases hk;done) |skip
 rename_i fe vs ks p;cases fe <;> first |(cases hk;done) |skip
 rename_i x px;cases ks <;> first |(cases hk;done) |skip
 have hk:(decide (zZ b=some x) && T.mV.contains x && fO c x && okN x && !vs.isEmpty && dF T c es vs)=true:=hk;simp only[zaa]at hk;obtain⟨⟨⟨⟨⟨h1,h2⟩,h3⟩,h4⟩,h5⟩,h6⟩:=hk;obtain⟨q1,q2,q3,_⟩:=h X W c vs F h6;cases vs with
 |nil=>cases h5
 |cons v vs=>exact br rfl (Vt F.cA (zad h1) (F.gl h3) (F.bi x h2) h4 q2 q1)
theorem Vy(m:Me)(a:E)(es:Es)(ha:aL T Nv a)(h:iB T Nv es):aL T Nv (.me m a es):=fun X W c e F hk=>by
 have ee:ev Nv (.me m a es)=fun ρ st=>(ev Nv a ρ st).bind fun x st1=>if recv m st1 x=true then(bj Nv es ρ st1).bind fun vs st2=>R.aS (bO m x vs st2)else .no:=by funext ρ st;first |(rw[ev];done) |(rw[ev];rfl)
 rw[ee];cases e <;> first |(cases hk;done) |skip
 rename_i fe vs ks p;cases fe <;> first |(cases hk;done) |skip
 rename_i o nm apos;cases ks <;> first |(cases hk;done) |skip
 have hk:(decide (z4 m=some nm) && eK o && (apos.endLine == p.line) && decide (vs.length<30) && au T c a o && dF T c es vs)=true:=hk;simp only[zaa]at hk;obtain⟨⟨⟨⟨⟨h1,h2⟩,h3⟩,h4⟩,h5⟩,h6⟩:=hk;obtain⟨q1,q2,q3,q4⟩:=h X W c vs F h6;exact br rfl (Ny F.cA (zad h1) q2 h2 (zad h4) h3 (ha X W c _ F h5).1 q1 q4)
theorem NE{T:Tab}{c:Ck}{a:E}{t:Ty}{e:Expr}(h:au T c (.nS a [t]) e=true):∃ x px y z pz p,e= .Call (.Name x px) [y,.Name z pz] [] p:=by
 cases e <;> first |(cases h;done) |skip
 rename_i fe as ks p;cases fe <;> first |(cases h;done) |skip
 cases as <;> first |(cases h;done) |skip
 rename_i y r;cases r <;> first |(cases h;done) |skip
 rename_i z r;cases z <;> first |(cases h;done) |skip
 cases r <;> first |(cases h;done) |skip
 cases ks <;> first |(cases h;done) |skip
 exact⟨_,_,_,_,_,_,rfl⟩
theorem I8{T:Tab}{c:Ck}{a:E}{e:Expr}:au T c (.nS a []) e=false:=by cases e <;> rfl
theorem I9{T:Tab}{c:Ck}{a:E}{t u:Ty}{ts:List Ty}{e:Expr}:au T c (.nS a (t::u::ts)) e=false:=by cases e <;> rfl
theorem Rp(a:E)(ts:List Ty)(ha:aL T Nv a):aL T Nv (.nS a ts):=fun X W c e F hk=>by
 cases ts with
 |nil=>rw[I8]at hk;cases hk
 |cons t ts=>
 cases ts with
 |cons _ _=>rw[I9]at hk;cases hk
 |nil=>
 have ee:ev Nv (.nS a [t])=fun ρ st=>(ev Nv a ρ st).bind fun v st1=>R.aS ((lQ st1 v [t]).bind fun k=>bl st1 k):=by funext ρ st;first |(rw[ev];done) |(rw[ev];rfl)
 rw[ee];obtain⟨x,px,y,z,pz,p,rfl⟩:=NE hk;have hk:(decide (x="isinstance") && T.mV.contains x && fO c x && decide (z=Q6 t) && T.mV.contains z && fO c z && okN x && okN z && aG y && au T c a y)=true:=hk;simp only[zaa]at hk;obtain⟨⟨⟨⟨⟨⟨⟨⟨⟨h1,h2⟩,h3⟩,h4⟩,h5⟩,h6⟩,h7⟩,h8⟩,h9⟩,h10⟩:=hk;have ex:=zad h1;have ez:=zad h4;obtain⟨d1,_,d3⟩:=dR h7;obtain⟨d4,_,d6⟩:=dR h8;exact br rfl (MI (F.gl h3) (F.bi x h2) (by rw[ex];exact pZ) d3 d1 (F.gl h6) (F.bi z h5) (by rw[ez];exact Vs t) d6 d4 h9 (ha X W c _ F h10).1)
theorem Rq(a:E)(ha:aL T Nv a):aL T Nv (.frz a):=fun X W c e F hk=>by
 have ee:ev Nv (.frz a)=Lr (ev Nv a):=by funext ρ st;first |(rw[ev];done) |(rw[ev];rfl)
 rw[ee];have hk:(u3 e && au T c a e)=true:=by cases e <;> exact hk
 rw[zaa]at hk;exact br hk.1 (Nj (ha X W c _ F hk.2).1)
abbrev vt(T:Tab)(Nv:bz)(t:nR):Prop:=∀ (X:Cx) (W:WX) (c:Ck) (p:Pos) (ks:List (Option Expr)) (vs:List Expr),gm T Nv X W c->vo T c t ks vs=true->Fd X W p ks vs (fM Nv t)/\(ks=[]->vs=[]/\fM Nv t=fun _ st=>.ok ([],[]) st)
theorem Rr:vt T Nv .nil:=fun X W c p ks vs F h=>by
 have ee:fM Nv .nil=fun _ st=>.ok ([],[]) st:=by funext ρ st;rw[fM]
 rw[ee];match ks,vs,h with
 | [],[],_=>exact⟨QF,fun _=>⟨rfl,rfl⟩⟩
 | [],_::_,h=>cases h
 |_::_,_,h=>cases h
theorem NG(a b:E)(r:nR)(ha:aL T Nv a)(hb:aL T Nv b)(hr:vt T Nv r):vt T Nv (.cons a b r):=fun X W c p ks vs F h=>by
 have ee:fM Nv (.cons a b r)=fun ρ st=>(ev Nv a ρ st).bind fun x st1=>(ev Nv b ρ st1).bind fun y st2=>(fM Nv r ρ st2).bind fun p st3=>.ok (x::p.1,y::p.2) st3:=by funext ρ st;rw[fM]
 rw[ee];match ks,vs,h with
 |some x::xs,y::ys,h=>have h:(au T c a x && au T c b y && vo T c r xs ys)=true:=h;obtain⟨h1,h2,h3⟩:=ir h;exact⟨MN (ha X W c _ F h1).1 (hb X W c _ F h2).1 (hr X W c p xs ys F h3).1,fun z=>nomatch z⟩
 | [],_,h=>cases h
 |none::_,_,h=>cases h
 |some _::_,[],h=>cases h
theorem Ru(mu:Bool)(kvs:nR)(hk:vt T Nv kvs):aL T Nv (.dct mu kvs):=fun X W c e F h=>by
 have ee:ev Nv (.dct mu kvs)=fun ρ st=>(fM Nv kvs ρ st).bind fun p st1=>gy mu p.1 p.2 st1:=by funext ρ st;rw[ev]
 rw[ee];cases e <;> first |(cases h;done) |skip
 rename_i ks vs p;have h:(vo T c kvs ks vs && decide (ks.length<=15))=true:=h;rw[zaa]at h;obtain⟨q1,q2⟩:=hk X W c p ks vs F h.1;cases ks with
 |nil=>obtain⟨rfl,e2⟩:=q2 rfl;rw[e2];exact br rfl MO
 |cons k ks=>exact br rfl (QG q1 (by simp) (zad h.2))
abbrev iS(T:Tab)(Nv:bz)(t:Tg):Prop:=(∀ (X:Cx) (W:WX) (c:Ck) (e:Expr),gm T Nv X W c->fB T c t e=true->PG X e (DG (gx X) (jU t) (asg Nv t)))/\∀ x ρ st ρ1 st1,asg Nv t x ρ st= .ok ρ1 st1->ρ1.length=ρ.length
abbrev qE(T:Tab)(Nv:bz)(t:jL):Prop:=(∀ (X:Cx) (W:WX) (c:Ck) (es:List Expr),gm T Nv X W c->qD T c t es=true->PGs X es (BI (gx X) (C4 t) (dg Nv t))/\(∀ y∈es,aG y=true)/\∀ xs ρ st ρ1 st1,dg Nv t xs ρ st= .ok ρ1 st1->xs.length=es.length)/\ ∀ x ρ st ρ1 st1,dg Nv t x ρ st= .ok ρ1 st1->ρ1.length=ρ.length
theorem NH(i:Nat):iS T Nv (.name i):=by
 have ee:asg Nv (.name i)=fun v ρ st=>if i<ρ.length then .ok (ρ.set i (some v)) st else .no:=by funext v ρ st;rw[asg]
 refine⟨fun X W c e F h=>?_,fun x ρ st ρ1 st1 h=>?_⟩
 ·rw[ee];cases e <;> first |(cases h;done) |skip
  rename_i x p;have h:(decide (c.N[i]?=some x) && eB c x)=true:=h;rw[zaa]at h;obtain⟨h1,h2⟩:=F.st h.2;exact wM F.cA (by rw[F.n];exact zad h.1) h1 h2
 ·rw[ee]at h;dsimp only at h;split at h
  ·cases h;simp
  ·cases h
theorem Rv(ts:jL)(ht:qE T Nv ts):iS T Nv (.tup ts):=by
 have ee:asg Nv (.tup ts)=fun v ρ st=>match v with | .d (.tuple xs)=>dg Nv ts (xs.map Val.d) ρ st | .d (.list xs)=>dg Nv ts (xs.map Val.d) ρ st | .dN x n=>dg Nv ts [.d x,.loc n] ρ st | .eo x kvs=>dg Nv ts [.d x,.td kvs] ρ st |_=>.no:=by
  funext v ρ st
  cases v with
  |d d=>cases d <;> rfl
  |loc _=>rfl
  |bW _=>rfl
  |xc _ _=>rfl
  |td _=>rfl
  |dN _ _=>rfl
  |eo _ _=>rfl
 refine⟨fun X W c e F h=>?_,fun x ρ st ρ1 st1 h=>?_⟩
 ·rw[ee];cases e <;> first |(cases h;done) |skip
  rename_i vs k p;obtain⟨q1,q2,q3⟩:=ht.1 X W c vs F h;exact QC F.cA q2 q1 q3
 ·rw[ee]at h;dsimp only at h;split at h
  ·exact ht.2 _ _ _ _ _ h
  ·exact ht.2 _ _ _ _ _ h
  ·exact ht.2 _ _ _ _ _ h
  ·exact ht.2 _ _ _ _ _ h
  ·cases h
theorem NI(i j:Nat):iS T Nv (.star i j):=by
 have ee:asg Nv (.star i j)=fun v ρ st=>match dO st v with
  |some (x::r)=>if i<ρ.length/\j<ρ.length then .ok ((ρ.set i (some (.d x))).set j (some (.d (.list r)))) st else .no
  |_=>.no:=by funext v ρ st;first |(rw[asg];done) |(rw[asg];rfl)
 refine⟨fun X W c e F h=>?_,fun x ρ st ρ1 st1 h=>?_⟩
 ·rw[ee];have h:C5 c i j e=true:=h;unfold C5 at h;split at h
  ·simp only[zaa,zab]at h;obtain⟨⟨⟨h1,h2⟩,h3⟩,h4⟩:=h;obtain⟨q1,q2⟩:=F.st h2;obtain⟨q3,q4⟩:=F.st h4;exact Nl F.cA (by rw[F.n];exact h1) q1 q2 (by rw[F.n];exact h3) q3 q4
  ·cases h
 ·rw[ee]at h;dsimp only at h;split at h
  ·split at h
   ·cases h;simp
   ·cases h
  ·cases h
theorem Rx(a b:E)(ha:aL T Nv a)(hb:aL T Nv b):iS T Nv (.sub a b):=by
 have ee:asg Nv (.sub a b)=fun v ρ st=>(ev Nv a ρ st).bind fun o st1=>(ev Nv b ρ st1).bind fun k st2=>match jr o k v st2 with
  |some st3=>.ok ρ st3
  |none=>.no:=by funext v ρ st;first |(rw[asg];done) |(rw[asg];rfl)
 refine⟨fun X W c e F h=>?_,fun x ρ st ρ1 st1 h=>?_⟩
 ·rw[ee];cases e <;> first |(cases h;done) |skip
  rename_i x y p;have h:(aG y && au T c a x && au T c b y)=true:=h;obtain⟨h1,h2,h3⟩:=ir h;exact QD F.cA h1 (ha X W c _ F h2).1 (hb X W c _ F h3).1
 ·rw[ee]at h;obtain⟨v1,s1,_,h⟩:=R.aZ h;obtain⟨v2,s2,_,h⟩:=R.aZ h;try dsimp only at h
  split at h
  ·cases h;rfl
  ·cases h
theorem Ry:qE T Nv .nil:=by
 have ee:dg Nv .nil=fun vs ρ st=>match vs with | []=>.ok ρ st |_=>.no:=by
  funext vs ρ st
  cases vs <;> rfl
 refine⟨fun X W c es F h=>?_,fun x ρ st ρ1 st1 h=>?_⟩
 ·cases es with
  |cons _ _=>cases h
  |nil=>
   rw[ee];refine⟨Fc,fun y hy=>?_,fun xs ρ st ρ1 st1 h=>?_⟩
   ·cases hy
   ·try dsimp only at h
    split at h
    ·rfl
    ·cases h
 ·rw[ee]at h;try dsimp only at h
  split at h
  ·cases h;rfl
  ·cases h
theorem NJ(t:Tg)(r:jL)(ht:iS T Nv t)(hr:qE T Nv r):qE T Nv (.cons t r):=by
 have ee:dg Nv (.cons t r)=fun vs ρ st=>match vs with |v::vs=>(asg Nv t v ρ st).bind fun ρ1 st1=>dg Nv r vs ρ1 st1 | []=>.no:=by
  funext vs ρ st
  cases vs <;> rfl
 refine⟨fun X W c es F h=>?_,fun x ρ st ρ1 st1 h=>?_⟩
 ·cases es with
  |nil=>cases h
  |cons x xs=>
   have h:(aG x && fB T c t x && qD T c r xs)=true:=h;obtain⟨h1,h2,h3⟩:=ir h;obtain⟨q1,q2,q3⟩:=hr.1 X W c xs F h3;rw[ee];refine⟨wN h1 (ht.1 X W c x F h2) q1,fun y hy=>?_,fun vs ρ st ρ1 st1 h=>?_⟩
   ·rcases zas.mp hy with z |z
    ·rw[z];exact h1
    ·exact q2 y z
   ·try dsimp only at h
    split at h
    ·obtain⟨ρ2,s2,_,e2⟩:=R.aZ h;rw[zaf,zaf,q3 _ _ _ _ _ e2]
    ·cases h
 ·rw[ee]at h;try dsimp only at h
  split at h
  ·obtain⟨ρ2,s2,e1,e2⟩:=R.aZ h;exact(hr.2 _ _ _ _ _ e2).trans (ht.2 _ _ _ _ _ e1)
  ·cases h
abbrev lG(T:Tab)(Nv:bz)(t:It):Prop:=∀ (X:Cx) (W:WX) (c:Ck) (tg e:Expr),gm T Nv X W c->fz T c t tg e=true->tD X W tg e (cK Nv t)
theorem Yy(a:E)(ha:aL T Nv a):lG T Nv (.e a):=fun X W c tg e F h=>by
 have ee:cK Nv (.e a)=fun ρ st=>(ev Nv a ρ st).bind fun v st1=>fQ (bS v st1) st1:=by funext ρ st;rw[cK]
 rw[ee];have h:au T c a e=true:=h;exact Qy (ha X W c _ F h).1
theorem Rz(es:Es)(hs:iB T Nv es):lG T Nv (.rng es):=fun X W c tg e F h=>by
 have ee:cK Nv (.rng es)=fun ρ st=>(bj Nv es ρ st).bind fun vs st1=>fQ (lj vs) st1:=by funext ρ st;rw[cK]
 rw[ee];cases e <;> first |(cases h;done) |skip
 rename_i fe vs ks p;cases fe <;> first |(cases h;done) |skip
 rename_i x px;cases ks <;> first |(cases h;done) |skip
 have h:(decide (x="range") && T.mV.contains x && fO c x && dF T c es vs && (decide (vs.length=1) ||decide (vs.length=2) ||decide (vs.length=3)))=true:=h;simp only[zaa,za3,zab]at h;obtain⟨⟨⟨⟨rfl,h2⟩,h3⟩,h4⟩,h5⟩:=h;obtain⟨q1,q2,q3,_⟩:=hs X W c vs F h4;exact Qz (F.gl h3) (F.bi _ h2) q2 (by rcases h5 with (h5 |h5) |h5 <;> simp[h5]) q1 q3
abbrev mW(T:Tab)(Nv:bz)(t:Es):Prop:=∀ (X:Cx) (W:WX) (c:Ck) (es:List Expr),gm T Nv X W c->iR T c t es=true->PTs X es (DT (gx X) W (bR Nv t))
theorem NK:mW T Nv .nil:=fun X W c es F h=>by
 have ee:bR Nv .nil=fun _ st=>.ok true st:=by funext ρ st;rw[bR]
 cases es with
 |nil=>rw[ee];exact ML
 |cons _ _=>cases h
theorem NL(a:E)(ha:aL T Nv a):mW T Nv (.cons a .nil):=fun X W c es F h=>by
 have ee:bR Nv (.cons a .nil)=bZ (ev Nv a):=by funext ρ st;rw[bR];rfl
 match es,h with
 | [x],h=>rw[ee];exact MM (ha X W c _ F h).2
 | [],h=>cases h
 |_::_::_,h=>cases h
theorem NN(a b:E)(r:Es):mW T Nv (.cons a (.cons b r)):=fun X W c es F h=>by
 match es,h with
 | [x],h=>cases h
 | [],h=>cases h
 |_::_::_,h=>cases h
theorem qF{c:Ck}{scope:Scope}{own:List Nat}(h:blkC c.N c.sc scope (l6 c own)=true):(l6 c own).map (·.2)=own:=by
 unfold l6;rw[zbb]
 conv=>rhs;rw[←List.map_id own]
 rfl
theorem NO(mu:Bool)(elt:E)(tg:Tg)(it:It)(ifs:Es)(own:List Nat)(h1:aL T Nv elt)(h2:iS T Nv tg)(h3:lG T Nv it)(h4:mW T Nv ifs):aL T Nv (.comp mu elt tg it ifs own):=fun X W c e F h=>by
 have ee:ev Nv (.comp mu elt tg it ifs own)=u7 mu (cK Nv it) (asg Nv tg) (bR Nv ifs) (ev Nv elt) own:=by funext ρ st;rw[ev];rfl
 rw[ee];cases e <;> first |(cases h;done) |skip
 rename_i x gs scope p;cases gs with
 |nil=>cases h
 |cons g gs=>
 cases gs with
 |cons _ _=>cases h
 |nil=>
 obtain⟨tg',iter,ifs',n⟩:=g;have h:(decide (n=0) && blkC c.N c.sc scope (l6 c own) && aG iter && ((jU tg).all fun i=>own.contains i) && fz T c it tg' iter && fB T (c.blk scope) tg tg' && iR T (c.blk scope) ifs ifs' && au T (c.blk scope) elt x)=true:=h;simp only[zaa,zab]at h;obtain⟨⟨⟨⟨⟨⟨⟨rfl,k1⟩,k2⟩,k3⟩,k4⟩,k5⟩,k6⟩,k7⟩:=h;have ok:=blkOk_by k1;rw[←F.n,←F.sc]at ok;have hx:=qF k1;have g:=MK (mu:=mu) (W:=W) (W':=fun _ _ _ _=>False) (pos:=p) F.cA k2 (h3 X W c tg' iter F k4) ok (fun s H C cl fp=>h2.1 _ _ _ tg' (F.blk scope s H C cl fp) k5) (fun s H C cl fp=>h4 _ _ _ ifs' (F.blk scope s H C cl fp) k6) (fun s H C cl fp=>(h1 _ _ _ x (F.blk scope s H C cl fp) k7).1)
  (fun i hi=>by rw[hx];have:=zai.mp k3 i hi;simpa using this) h2.2
 rw[hx]at g;exact br rfl g
theorem Ja(mu:Bool)(ke ve:E)(tg:Tg)(it:It)(ifs:Es)(own:List Nat)(h0:aL T Nv ke)(h1:aL T Nv ve)(h2:iS T Nv tg)(h3:lG T Nv it)(h4:mW T Nv ifs):aL T Nv (.o8 mu ke ve tg it ifs own):=fun X W c e F h=>by
 have ee:ev Nv (.o8 mu ke ve tg it ifs own)=zD mu (cK Nv it) (asg Nv tg) (bR Nv ifs) (ev Nv ke) (ev Nv ve) own:=by funext ρ st;rw[ev];rfl
 rw[ee];cases e <;> first |(cases h;done) |skip
 rename_i x y gs scope p;cases gs with
 |nil=>cases h
 |cons g gs=>
 cases gs with
 |cons _ _=>cases h
 |nil=>
 obtain⟨tg',iter,ifs',n⟩:=g;have h:(decide (n=0) && blkC c.N c.sc scope (l6 c own) && aG iter && ((jU tg).all fun i=>own.contains i) && fz T c it tg' iter && fB T (c.blk scope) tg tg' && iR T (c.blk scope) ifs ifs' && au T (c.blk scope) ke x && au T (c.blk scope) ve y)=true:=h;simp only[zaa,zab]at h;obtain⟨⟨⟨⟨⟨⟨⟨⟨rfl,k1⟩,k2⟩,k3⟩,k4⟩,k5⟩,k6⟩,k7⟩,k8⟩:=h;have ok:=blkOk_by k1;rw[←F.n,←F.sc]at ok;have hx:=qF k1;have g:=Io (mu:=mu) (W:=W) (W':=fun _ _ _ _=>False) (pos:=p) F.cA k2 (h3 X W c tg' iter F k4) ok (fun s H C cl fp=>h2.1 _ _ _ tg' (F.blk scope s H C cl fp) k5) (fun s H C cl fp=>h4 _ _ _ ifs' (F.blk scope s H C cl fp) k6) (fun s H C cl fp=>(h0 _ _ _ x (F.blk scope s H C cl fp) k7).1) (fun s H C cl fp=>(h1 _ _ _ y (F.blk scope s H C cl fp) k8).1)
  (fun i hi=>by rw[hx];have:=zai.mp k3 i hi;simpa using this) h2.2
 rw[hx]at g;exact br rfl g
theorem FH{T:Tab}{c:Ck}{a:E}{tg e:Expr}(h:fz T c (.items a) tg e=true):∃ o nm apos p,e= .Call (.Attribute o nm apos) [] [] p:=by
 cases e <;> first |(cases h;done) |skip
 rename_i f as kws p;cases f <;> first |(cases h;done) |skip
 cases as <;> first |(cases h;done) |skip
 cases kws <;> first |(cases h;done) |skip
 exact⟨_,_,_,_,rfl⟩
theorem C6{T:Tab}{c:Ck}{a:E}{tg e:Expr}:fz T c (.values a) tg e=false:=by first |rfl |(cases e <;> first |rfl |(cases tg <;> rfl))
theorem NP{T:Tab}{c:Ck}{a:E}{tg e:Expr}:fz T c (.rev a) tg e=false:=by first |rfl |(cases e <;> first |rfl |(cases tg <;> rfl))
theorem Jb(a:E)(ha:aL T Nv a):lG T Nv (.items a):=fun X W c tg e F h=>by
 have ee:cK Nv (.items a)=Fe (ev Nv a):=by funext ρ st;rw[cK];rfl
 rw[ee];obtain⟨o,nm,apos,p,rfl⟩:=FH h;have h:(decide (nm="items") && eK o && (apos.endLine == p.line) && isTup tg && au T c a o)=true:=h;simp only[zaa]at h;obtain⟨⟨⟨⟨h1,h2⟩,h3⟩,h4⟩,h5⟩:=h;obtain rfl:=zad h1;obtain⟨es,k,p2,rfl⟩:=IX h4;exact Ip h2 h3 (ha X W c o F h5).1
theorem Jc:aL T Nv .never:=fun X W c e F h=>by
 have ee:ev Nv .never=fun _ _=>.no:=by funext ρ st;rw[ev]
 rw[ee];exact⟨IT,IU⟩
theorem Jd(mu:Bool)(elt:E)(tg:Tg)(it:It)(ifs:Es)(tg1:Tg)(it1:It)(ifs1:Es)(own own1:List Nat)(h1:aL T Nv elt)(h2:iS T Nv tg)(h3:lG T Nv it)(h4:mW T Nv ifs)(h5:iS T Nv tg1)(h6:lG T Nv it1)(h7:mW T Nv ifs1):
 aL T Nv (.o7 mu elt tg it ifs tg1 it1 ifs1 own own1):=fun X W c e F h=>by
 have ee:ev Nv (.o7 mu elt tg it ifs tg1 it1 ifs1 own own1)=qC mu (cK Nv it) (asg Nv tg) (bR Nv ifs) (cK Nv it1) (asg Nv tg1) (bR Nv ifs1) (ev Nv elt) own own1:=by funext ρ st;rw[ev];rfl
 rw[ee];cases e <;> first |(cases h;done) |skip
 rename_i x gs scope p;match gs,h with
 | [],h=>cases h
 | [_],h=>cases h
 |_::_::_::_,h=>cases h
 | [⟨tg',iter,ifs',n⟩,⟨tg1',iter1,ifs1',n1⟩],h=>
 have h:(decide (n=0) && decide (n1=0) && blkC c.N c.sc scope (l6 c own) && aG iter && aG iter1 && ((jU tg).all fun i=>own.contains i) && ((jU tg1).all fun i=>own1.contains i) && (own1.all fun i=>own.contains i) &&
  fz T c it tg' iter && fB T (c.blk scope) tg tg' && iR T (c.blk scope) ifs ifs' && fz T (c.blk scope) it1 tg1' iter1 && fB T (c.blk scope) tg1 tg1' && iR T (c.blk scope) ifs1 ifs1' && au T (c.blk scope) elt x)=true:=h
 simp only[zaa,zab]at h;obtain⟨⟨⟨⟨⟨⟨⟨⟨⟨⟨⟨⟨⟨⟨rfl,rfl⟩,k1⟩,k2⟩,k2'⟩,k3⟩,k3'⟩,k3''⟩,k4⟩,k5⟩,k6⟩,k4'⟩,k5'⟩,k6'⟩,k7⟩:=h;have ok:=blkOk_by k1;rw[←F.n,←F.sc]at ok;have hx:=qF k1;have sub:∀ {l:List Nat} {o:List Nat},(l.all fun i=>o.contains i)=true->∀ i∈l,i∈o:=fun q i hi=>by have:=zai.mp q i hi;simpa using this
 have g:=IW (mu:=mu) (W:=W) (W':=fun _ _ _ _=>False) (pos:=p) F.cA k2 k2' (h3 X W c tg' iter F k4) ok (fun i hi=>by rw[hx];exact sub k3'' i hi) (fun s H C cl fp=>h2.1 _ _ _ tg' (F.blk scope s H C cl fp) k5) (fun s H C cl fp=>h4 _ _ _ ifs' (F.blk scope s H C cl fp) k6)
  (fun s H C cl fp=>h6 _ _ _ tg1' iter1 (F.blk scope s H C cl fp) k4') (fun s H C cl fp=>h5.1 _ _ _ tg1' (F.blk scope s H C cl fp) k5') (fun s H C cl fp=>h7 _ _ _ ifs1' (F.blk scope s H C cl fp) k6') (fun s H C cl fp=>(h1 _ _ _ x (F.blk scope s H C cl fp) k7).1)
  (fun i hi=>by rw[hx];exact sub k3 i hi) (fun i hi=>sub k3' i hi) h2.2 h5.2
 rw[hx]at g;exact br rfl g
theorem RA(a:E)(ys:List Str)(ha:aL T Nv a):aL T Nv (.sV a ys):=fun X W c e F hk=>by
 have ee:ev Nv (.sV a ys)=fun ρ st=>(ev Nv a ρ st).bind fun v st1=>R.aS (iW T.exc ys v st1):=by funext ρ st;rw[←F.xS];first |(rw[ev];done) |(rw[ev];rfl)
 rw[ee];cases e <;> first |(cases hk;done) |skip
 rename_i fe vs ks p;cases fe <;> first |(cases hk;done) |skip
 rename_i x px;match vs,ks,hk with
 | [z,w],[],hk=>
   have hk:(decide (x="isinstance") && T.mV.contains x && fO c x && okN x && aG z && IY T c ys w && au T c a z)=true:=hk;simp only[zaa]at hk;obtain⟨⟨⟨⟨⟨⟨h1,h2⟩,h3⟩,h4⟩,h5⟩,h6⟩,h7⟩:=hk;have ex:=zad h1;obtain⟨d1,_,d3⟩:=dR h4;have hv:bootBuiltins x=some (.builtin "isinstance"):=by rw[ex];exact pZ
   unfold IY at h6;split at h6
   ·rename_i y py;simp only[zaa]at h6;obtain⟨⟨⟨k1,k2⟩,k3⟩,k4⟩:=h6;have k1:=zad k1;subst k1;exact br rfl (M6 F.cls (by simpa using k2) (F.gl h3) (F.bi x h2) hv d3 d1 (F.gl k3) (dR k4).1 h5 (ha X W c _ F h7).1)
   ·rename_i es j py;simp only[zaa]at h6;obtain⟨⟨k1,k2⟩,k3⟩:=h6;have k2:=zai.mp k2;refine br rfl (M7 F.cls (fun y hy=>?_) k1 (F.gl h3) (F.bi x h2) hv d3 d1 (fun y hy=>?_) (zad k3) h5 (ha X W c _ F h7).1)
    ·have:=k2 y hy;simp only[zaa]at this;simpa using this.1.1
    ·have:=k2 y hy;simp only[zaa]at this;exact⟨F.gl this.1.2,(dR this.2).1⟩
   ·cases h6
theorem RB(a:E)(f:Str)(ha:aL T Nv a):aL T Nv (.fld a f):=fun X W c e F hk=>by
 have ee:ev Nv (.fld a f)=fun ρ st=>(ev Nv a ρ st).bind fun v st1=>R.aS (cU T.exc T.obs f v st1):=by funext ρ st;rw[←F.xS,←F.tL];first |(rw[ev];done) |(rw[ev];rfl)
 rw[ee];cases e <;> first |(cases hk;done) |skip
 rename_i z g p;have hk:(decide (g=f) && eK z && au T c a z)=true:=hk;simp only[zaa]at hk;obtain⟨⟨h1,h2⟩,h3⟩:=hk;obtain rfl:=zad h1;exact br rfl (QT F.cls F.ob h2 (ha X W c _ F h3).1)
theorem Vz{kw:Str}{ke:Expr}{kp:Pos}{fe:ae->aa->R Val}(he:GE X W ke fe):PK X [⟨some kw,ke,kp⟩] (DA (gx X) W fun ρ st=>(fe ρ st).bind fun v st1=>(R.ok ([]:List Val) st1).bind fun vs st2=>.ok (v::vs) st2):=by refine⟨fun pos pins s σ H Q I q=>(pk_cons he pk_nil).run pos pins s σ H Q I ?_⟩;obtain⟨m,ρ,st,r,o⟩:=q;refine⟨m,ρ,st,r,(Out.bind o).imp fun v st1 m1 H1 e1 s1 o1 x rx=>?_⟩;exact Out.here o1 s1 _ (.cons rx .nil)
theorem RD(cn:Str)(es ks:Es)(h:iB T Nv es)(hks:iB T Nv ks)(hke:∀ k1 kr,ks= .cons k1 kr->aL T Nv k1):aL T Nv (.new cn es ks):=fun X W c e F hk=>by
 cases e <;> first |(cases hk;done) |skip
 rename_i fe vs kws p;cases fe <;> first |(cases hk;done) |skip
 rename_i x px;have hk:(c.cl && wU T c cn "__init__" && decide (x=cn) && fO c x && okN x && IZ T cn vs kws && dF T c es vs && dF T c ks (kws.map (·.value)))=true:=hk;simp only[zaa]at hk;obtain⟨⟨⟨⟨⟨⟨⟨h0,hh⟩,h1⟩,h2⟩,h3⟩,h4⟩,h5⟩,h6⟩:=hk;obtain rfl:=zad h1;obtain⟨q1,q2,q3,q4⟩:=h X W c vs F h5;unfold IZ at h4;cases hi:cD T.obs x "__init__" with
 |none=>rw[hi]at h4;cases h4
 |some i=>
  rw[hi]at h4;have ee:ev Nv (.new x es ks)=fun ρ st=>(bj Nv es ρ st).bind fun vs st1=>(bj Nv ks ρ st1).bind fun zs st2=>newR x (Nv.fns i) (vs++zs) st2:=by
   funext ρ st
   rw[ev,F.tL,hi]
  rw[ee];obtain⟨o,ho⟩:∃ o,fW T.obs x=some o:=by
   unfold cD at hi;cases e:fW T.obs x with
   |none=>rw[e]at hi;cases hi
   |some o=>exact⟨o,rfl⟩
  obtain⟨hm,hn⟩:=rY ho;obtain⟨C0,g1,g2,_⟩:=F.ob.at_ o hm;rw[hn]at g1 g2;have M:=F.me h0 x "__init__" i hi C0 g2;match kws,h4,h6 with
  | [],h4,h6=>
    have h4:=zad h4;rw[h4]at M;obtain⟨_,_,_,k4⟩:=hks X W c [] F h6;have e2:(fun ρ st=>(bj Nv es ρ st).bind fun vs st1=>(bj Nv ks ρ st1).bind fun zs st2=>newR x (Nv.fns i) (vs++zs) st2)=fun ρ st=>(bj Nv es ρ st).bind fun vs st1=>newR x (Nv.fns i) vs st1:=by
     funext ρ st
     congr 1
     funext vs st1
     rw[k4 rfl];show newR x (Nv.fns i) (vs++[]) st1=_;rw[zau]
    rw[e2];cases vs with
    |nil=>rw[q4 rfl];exact br rfl (M3 (ob:=T.obs) F.cA (F.tk.at (l5 hi hh)) hi (F.gl h2) (dR h3).1 g1 g2 M)
    |cons v vs=>exact br rfl (QS (ob:=T.obs) F.cA (F.tk.at (l5 hi hh)) hi (F.gl h2) (dR h3).1 g1 g2 M q2 q1)
  | [⟨some kw,ke,kp⟩],h4,h6=>
    have h4:(decide (pJ T i=[kw]) && !vs.isEmpty)=true:=h4;rw[zaa]at h4;have h7:=zad h4.1;rw[h7]at M;cases vs with
    |nil=>cases h4.2
    |cons v vs=>
     cases ks with
     |nil=>cases h6
     |cons k1 kr=>
      cases kr with
      |cons _ _=>have h6:(aG ke && au T c k1 ke && false)=true:=h6;simp at h6
      |nil=>
       have h6:(aG ke && au T c k1 ke && true)=true:=h6;simp only[zaa,and_true]at h6;have g9:=(hke k1 .nil rfl X W c ke F h6.2).1;have e3:bj Nv (.cons k1 .nil)=fun ρ st=>(ev Nv k1 ρ st).bind fun v st1=>(R.ok ([]:List Val) st1).bind fun vs st2=>.ok (v::vs) st2:=by
        funext ρ st
        rw[bj];congr 1
        all_goals (funext v st1;rw[bj])
       rw[e3];refine br rfl (MZ (ob:=T.obs) F.cA (F.tk.at (l5 hi hh)) hi (F.gl h2) (dR h3).1 g1 g2 M q2 q1 (Vz g9) fun ρ st zs st1 hz=>?_);obtain⟨v1,s1,_,hz⟩:=R.aZ hz;cases hz;rfl
theorem Je(cn m:Str)(a:E)(es:Es)(ha:aL T Nv a)(h:iB T Nv es):aL T Nv (.av cn m a es):=fun X W c e F hk=>by
 cases e <;> first |(cases hk;done) |skip
 rename_i fe vs ks p;cases fe <;> first |(cases hk;done) |skip
 rename_i o nm apos;cases ks <;> first |(cases hk;done) |skip
 have hk:(c.cl && wU T c cn m && decide (nm=m) && I6 T cn m && eK o && (apos.endLine == p.line) && decide (vs.length<30) && au T c a o && dF T c es vs)=true:=hk;simp only[zaa]at hk;obtain⟨⟨⟨⟨⟨⟨⟨⟨h0,hh⟩,h1⟩,h2⟩,h3⟩,h4⟩,h5⟩,h6⟩,h7⟩:=hk;obtain rfl:=zad h1;obtain⟨q1,q2,q3,q4⟩:=h X W c vs F h7;unfold I6 at h2;cases hi:cD T.obs cn nm with
 |none=>rw[hi]at h2;cases h2
 |some i=>
  rw[hi]at h2;have h2:=zad h2;obtain⟨ko,ho⟩:∃ o,fW T.obs cn=some o:=by
   unfold cD at hi;cases e:fW T.obs cn with
   |none=>rw[e]at hi;cases hi
   |some o=>exact⟨o,rfl⟩
  obtain⟨hm,hn⟩:=rY ho;obtain⟨C0,g1,g2,_⟩:=F.ob.at_ ko hm;rw[hn]at g1 g2;have M:=F.me h0 cn nm i hi C0 g2;rw[h2]at M;have ee:ev Nv (.av cn nm a es)=fun ρ st=>(ev Nv a ρ st).bind fun v st1=>match cG T.obs cn nm v st1 with |some i=>(bj Nv es ρ st1).bind fun vs st2=>Nv.fns i (v::vs) st2 |none=>.no:=by
   funext ρ st
   first |(rw[ev,F.tL];done) |(rw[ev,F.tL];rfl)
  rw[ee];cases vs with
  |nil=>rw[q4 rfl];exact br rfl (Ft (Fns:=Nv.fns) F.cA (F.tk.at (l5 hi hh)) F.ob ho hi g2 M h3 h4 (ha X W c _ F h6).1)
  |cons v vs=>exact br rfl (IG (Fns:=Nv.fns) F.cA (F.tk.at (l5 hi hh)) F.ob ho hi g2 M q2 h3 (zad h5) h4 (ha X W c _ F h6).1 q1)
theorem st_fld(a:E)(f:Str)(ha:aL T Nv a):iS T Nv (.fld a f):=by
 have ee:asg Nv (.fld a f)=fun v ρ st=>(ev Nv a ρ st).bind fun o st1=>match bF Nv.obs f o v st1 with
  |some st2=>.ok ρ st2
  |none=>.no:=by funext v ρ st;first |(rw[asg];done) |(rw[asg];rfl)
 refine⟨fun X W c e F h=>?_,fun x ρ st ρ1 st1 h=>?_⟩
 ·rw[ee,F.tL];cases e <;> first |(cases h;done) |skip
  rename_i x g p;have h:(decide (g=f) && au T c a x)=true:=h;rw[zaa]at h;obtain rfl:=zad h.1;exact QR F.ob (ha X W c _ F h.2).1
 ·rw[ee]at h;obtain⟨v1,s1,_,h⟩:=R.aZ h;try dsimp only at h
  split at h
  ·cases h;rfl
  ·cases h
theorem NQ(a b:E)(ha:aL T Nv a)(hb:aL T Nv b):iS T Nv (.subT a b):=by
 have ee:asg Nv (.subT a b)=fun v ρ st=>(ev Nv a ρ st).bind fun o st1=>(ev Nv b ρ st1).bind fun k st2=>match ph o k v st2 with
  |some st3=>.ok ρ st3
  |none=>.no:=by funext v ρ st;first |(rw[asg];done) |(rw[asg];rfl)
 refine⟨fun X W c e F h=>?_,fun x ρ st ρ1 st1 h=>?_⟩
 ·rw[ee];have inv:∃ x y p,e= .Subscript x y p/\(aG y && au T c a x && au T c b y)=true:=by cases e <;> first |(cases h;done) |exact⟨_,_,_,rfl,h⟩
  clear h;obtain⟨x,y,p,rfl,h⟩:=inv;obtain⟨h1,h2,h3⟩:=ir h;exact Nh F.cA h1 (ha X W c _ F h2).1 (hb X W c _ F h3).1
 ·rw[ee]at h;obtain⟨v1,s1,_,h⟩:=R.aZ h;obtain⟨v2,s2,_,h⟩:=R.aZ h;try dsimp only at h
  split at h
  ·cases h;rfl
  ·cases h
theorem NR:aL T Nv .none_:=fun X W c e F h=>by cases e <;> cases h
theorem cL{a:E}(h:∀ c e,au T c a e=false):aL T Nv a:=fun X W c e F hk=>by rw[h]at hk;cases hk
theorem vz{a:It}(h:∀ c tg e,fz T c a tg e=false):lG T Nv a:=fun X W c tg e F hk=>by rw[h]at hk;cases hk
mutual
theorem sE:∀ t:E,aL T Nv t
 | .var i=>Q9 i
 | .cst d=>Ra d
 | .glob n=>Nz n
 | .bin o a b=>Rc o a b (sE a) (sE b)
 | .neg a=>Rf a (sE a)
 | .cmp o a b=>Rg o a b (sE a) (sE b)
 | .chain o o' a b d=>cL fun c e=>by first |rfl |(cases e <;> rfl)
 | .and es=>Rl es (RE es)
 | .or es=>Vw es (RE es)
 | .not a=>Rh a (sE a)
 | .ite t a b=>Ri t a b (sE t) (sE a) (sE b)
 | .tup es=>Rm es (qb es)
 | .lst mu es=>Ro mu es (qb es)
 | .dct mu kvs=>Ru mu kvs (Wz kvs)
 | .ix a i=>Vv a i (sE a) (sE i)
 | .slice a lo hi=>I7 a lo hi (sE a) (WA lo) (WA hi)
 | .rev a=>cL fun c e=>by first |rfl |(cases e <;> rfl)
 | .K6 a lo=>cL fun c e=>by first |rfl |(cases e <;> rfl)
 | .none_=>NR
 | .Wo neg a g=>cL fun c e=>by first |rfl |(cases e <;> rfl)
 | .xA g a=>Rb g a (sE a)
 | .call f es=>ND f es (qb es)
 | .bi b es=>Vx b es (qb es)
 | .nS a ts=>Rp a ts (sE a)
 | .me m a es=>Vy m a es (sE a) (qb es)
 | .comp mu elt tg it ifs own=>NO mu elt tg it ifs own (sE elt) (ow tg) (xT it) (z5 ifs)
 | .frz a=>Rq a (sE a)
 | .O9 a=>cL fun c e=>by first |rfl |(cases e <;> rfl)
 | .never=>Jc
 | .o8 mu ke ve tg it ifs own=>Ja mu ke ve tg it ifs own (sE ke) (sE ve) (ow tg) (xT it) (z5 ifs)
 | .o7 mu elt tg it ifs tg1 it1 ifs1 own own1=>Jd mu elt tg it ifs tg1 it1 ifs1 own own1 (sE elt) (ow tg) (xT it) (z5 ifs) (ow tg1) (xT it1) (z5 ifs1)
 | .yZ a=>cL fun c e=>by first |rfl |(cases e <;> rfl)
 | .Pc a=>cL fun c e=>by first |rfl |(cases e <;> rfl)
 | .EK a=>cL fun c e=>by first |rfl |(cases e <;> rfl)
 | .Pb mu a=>cL fun c e=>by first |rfl |(cases e <;> rfl)
 | .Wq as=>cL fun c e=>by first |rfl |(cases e <;> rfl)
 | .sV a ys=>RA a ys (sE a)
 | .fld a f=>RB a f (sE a)
 | .new cn es ks=>RD cn es ks (qb es) (qb ks) (sKe ks)
 | .av cn m a es=>Je cn m a es (sE a) (qb es)
 | .EL t x a i k=>cL fun c e=>by first |rfl |(cases e <;> rfl)
 | .K7 mu=>cL fun c e=>by first |rfl |(cases e <;> rfl)
 | .K8 kvs=>cL fun c e=>by first |rfl |(cases e <;> rfl)
 | .Ws neg a b=>cL fun c e=>by first |rfl |(cases e <;> rfl)
 | .K9 a b=>cL fun c e=>by first |rfl |(cases e <;> rfl)
 | .La a b=>cL fun c e=>by first |rfl |(cases e <;> rfl)
 | .Pd a=>cL fun c e=>by first |rfl |(cases e <;> rfl)
 | .Pe a=>cL fun c e=>by first |rfl |(cases e <;> rfl)
 | .kJ a y cs=>cL fun c e=>by first |rfl |(cases e <;> rfl)
 | .EM a lo hi=>cL fun c e=>by first |rfl |(cases e <;> rfl)
 | .Lb a=>cL fun c e=>by first |rfl |(cases e <;> rfl)
theorem RE:∀ t:Es,sd T Nv t
 | .nil=>Rk
 | .cons a r=>NC a r (sE a) (RE r)
theorem qb:∀ t:Es,iB T Nv t
 | .nil=>Rj
 | .cons a r=>NB a r (sE a) (qb r)
theorem sKe:∀ t:Es,∀ k1 kr,t= .cons k1 kr->aL T Nv k1
 | .nil,_,_,h=>by cases h
 | .cons a r,k1,kr,h=>by have:=sE a;cases h;exact this
theorem z5:∀ t:Es,mW T Nv t
 | .nil=>NK
 | .cons a .nil=>NL a (sE a)
 | .cons a (.cons b r)=>NN a b r
theorem WA:∀ t:Pt,vq T Nv t
 | .no=>Vu
 | .e a=>Yx a (sE a)
theorem Wz:∀ t:nR,vt T Nv t
 | .nil=>Rr
 | .cons a b r=>NG a b r (sE a) (sE b) (Wz r)
theorem xT:∀ t:It,lG T Nv t
 | .e a=>Yy a (sE a)
 | .rng es=>Rz es (qb es)
 | .Pf es=>vz fun c tg e=>by first |rfl |(cases e <;> first |rfl |(cases tg <;> rfl))
 | .zip es=>vz fun c tg e=>by first |rfl |(cases e <;> first |rfl |(cases tg <;> rfl))
 | .items a=>Jb a (sE a)
 | .EN a=>vz fun c tg e=>by first |rfl |(cases e <;> first |rfl |(cases tg <;> rfl))
 | .Pg es=>vz fun c tg e=>by first |rfl |(cases e <;> first |rfl |(cases tg <;> rfl))
 | .values a=>fun X W c tg e F h=>by rw[C6]at h;cases h
 | .rev a=>fun X W c tg e F h=>by rw[NP]at h;cases h
theorem ow:∀ t:Tg,iS T Nv t
 | .name i=>NH i
 | .tup ts=>Rv ts (Jf ts)
 | .star i j=>NI i j
 | .sub a b=>Rx a b (sE a) (sE b)
 | .subT a b=>NQ a b (sE a) (sE b)
 | .fld a f=>st_fld a f (sE a)
theorem Jf:∀ t:jL,qE T Nv t
 | .nil=>Ry
 | .cons t r=>NJ t r (ow t) (Jf r)
end
end
def kP(c:Ck)(x:Str)(px:Pos):Expr->Bool
 | .ListComp _ _ scope pos=>(match c.sc.names.lookup x with |some .local=>true |_=>false) && (px.line == pos.line) && !(scope.names.any fun (n,k)=>n == x && (k == .local ||k == .cell))
 | .DictComp _ _ _ scope pos=>(match c.sc.names.lookup x with |some .local=>true |_=>false) && (px.line == pos.line) && !(scope.names.any fun (n,k)=>n == x && (k == .local ||k == .cell))
 |_=>false
def C7:Expr->Bool
 | .DictComp ..=>true
 | .ListComp ..=>true
 |_=>false
theorem wW{e:Expr}(h:C7 e=true):(∃ x gs sc p,e= .ListComp x gs sc p)\/∃ x y gs sc p,e= .DictComp x y gs sc p:=by cases e <;> first |(cases h;done) |exact .inl ⟨_,_,_,_,rfl⟩|exact .inr ⟨_,_,_,_,_,rfl⟩
def qG(c:Ck):Bool:=match c.sc.kind with
 | .function=>true
 |_=>false
def z6:Expr->Expr->Bool
 | .Tuple ..,.Tuple ..=>false
 | .List ..,.Tuple ..=>false
 |_,_=>true
theorem FJ{t e:Expr}(h:z6 t e=true)(env:Env):swappedStores [t] e env=pure none:=by cases t <;> first |rfl |(cases e <;> first |(cases h;done) |rfl)
theorem vA{c:Ck}{x:Str}{px:Pos}{e:Expr}{l:Nat}{env:Env}(hl:C7 e=true)(hs:env.scope=c.sc)(h:kP c x px e=false):swapsWith e (some (.Name x px)) l env=pure false:=by
 have ky:env.kindOf x=c.sc.names.lookup x:=by show env.scope.names.lookup x=_;rw[hs]
 obtain⟨elt,gs,scope,pos,rfl⟩|⟨elt,elt',gs,scope,pos,rfl⟩:=wW hl
 all_goals
  unfold kP at h;unfold swapsWith;simp only[ky,Expr.pos];show pure _=pure false;congr 1
  cases hk:c.sc.names.lookup x with
  |none=>simp
  |some k=>rw[hk]at h;cases k <;> simp_all
theorem xU{c:Ck}{x:Str}{px:Pos}{elt:Expr}{gs:List Comprehension}{scope:Scope}{pos:Pos}{l:Nat}{env:Env}(hk:qG c=true)(hs:env.scope=c.sc)(h:kP c x px (.ListComp elt gs scope pos)=true):
 swapsWith (.ListComp elt gs scope pos) (some (.Name x px)) l env=pure true/\env.scope.names.lookup x=some .local:=by
 unfold kP at h;simp only[zaa,zaK]at h;obtain⟨⟨h1,h2⟩,h3⟩:=h;have e1:c.sc.names.lookup x=some .local:=by
  split at h1
  ·assumption
  ·cases h1
 have e2:c.sc.kind= .function:=by
  unfold qG at hk;split at hk
  ·assumption
  ·cases hk
 exact⟨sw_true (by rw[hs];exact e2) (by rw[hs];exact e1) h2 h3,by rw[hs];exact e1⟩
def Jg(c:Ck)(x y:Str)(px py:Pos)(a b:Expr):Bool:=qG c && (match c.sc.names.lookup x with |some .local=>true |_=>false) && (match c.sc.names.lookup y with |some .local=>true |_=>false) && decide (x≠y) && (py.line == px.line) && aG a && aG b && !([a,b].all (foldedForSure 8)) && !([a,b].all (constantsAlone 8))
theorem NS{c:Ck}{x y:Str}{px py pt pt2:Pos}{kt k2:Nat}{a b:Expr}{env:Env}(hs:env.scope=c.sc)(h:Jg c x y px py a b=true):
 swappedStores [.Tuple [.Name x px,.Name y py] kt pt] (.Tuple [a,b] k2 pt2) env=pure (some [x,y])/\env.scope.names.lookup x=some .local/\env.scope.names.lookup y=some .local/\x≠y/\aG a=true/\aG b=true:=by
 unfold Jg at h;simp only[zaa,zaK,zab]at h;obtain⟨⟨⟨⟨⟨⟨⟨⟨h1,h2⟩,h3⟩,h4⟩,h5⟩,h6⟩,h7⟩,h8⟩,h9⟩:=h;have e1:c.sc.names.lookup x=some .local:=by
  split at h2
  ·assumption
  ·cases h2
 have e2:c.sc.names.lookup y=some .local:=by
  split at h3
  ·assumption
  ·cases h3
 have e3:c.sc.kind= .function:=by
  unfold qG at h1;split at h1
  ·assumption
  ·cases h1
 have kx:env.kindOf x=some .local:=by show env.scope.names.lookup x=_;rw[hs];exact e1
 have ky:env.kindOf y=some .local:=by show env.scope.names.lookup y=_;rw[hs];exact e2
 have bk:env.blockKind= .function:=by unfold Env.blockKind;rw[hs,e3];rfl
 refine⟨?_,by rw[hs];exact e1,by rw[hs];exact e2,h4,h6,h7⟩;have f:∀ z:Expr,aG z=true->(match z with | .Starred ..=>true |_=>false)=false:=fun z hz=>by cases z <;> first |rfl |(cases hz)
 have fa:=f a h6;have fb:=f b h7;have nd:([x,y]:List Str).eraseDups=[x,y]:=by have:(y == x)=false:=zaQ.mpr fun z=>h4 z.symm;simp[List.eraseDups_cons,this]
 unfold swappedStores;simp only[bk,zaf,zbx,List.head?_cons,Option.map_some,Option.getD_some,Expr.pos,zbG,List.filterMap_nil,kx,ky,h5,h8,h9];simp;rw[zaj (fun z=>z.elim (fun q=>Bool.noConfusion (fa.symm.trans q)) (fun q=>Bool.noConfusion (fb.symm.trans q))),nd];rfl
def Jh(T:Tab)(c:Ck)(i j:Nat)(a b:E)(tg e:Expr):Bool:=match tg,e with
 | .Tuple [.Name x px,.Name y py] _ _,.Tuple [u,v] _ _=>decide (c.N[i]?=some x) && decide (c.N[j]?=some y) && Jg c x y px py u v && au T c a u && au T c b v
 |_,_=>false
def z7(c:Ck)(line:Nat)(ts:List Expr):List Str:=ts.filterMap fun
 | .Name id pos=>if c.sc.names.lookup id == some .local && pos.line == line then some id else none
 |_=>none
def RG(c:Ck)(ts vs:List Expr):Bool:=!(ts.length == 2 ||ts.length == 3) ||((vs.all aG) && decide ((z7 c ((ts.head?.map (·.pos.line)).getD 0) ts).length≠ts.length)) ||((vs.all aG) && vs.all (foldedForSure 8))
theorem wX{vs:List Expr}(h:vs.all aG=true):(vs.any fun | .Starred ..=>true |_=>false)=false:=by rw[List.any_eq_false];intro x hx;have:=zai.mp h x hx;cases x <;> first |(cases this;done) |simp
theorem RH{c:Ck}{ts vs:List Expr}{k k2:Nat}{p p2:Pos}{env:Env}(hs:env.scope=c.sc)(h:RG c ts vs=true):swappedStores [.Tuple ts k p] (.Tuple vs k2 p2) env=pure none:=by
 have hn:z7 c ((ts.head?.map (·.pos.line)).getD 0) ts=ts.filterMap fun
  | .Name id pos=>if env.kindOf id == some .local && pos.line == (ts.head?.map (·.pos.line)).getD 0 then some id else none
  |_=>none:=by
  unfold z7;congr 1
  funext x
  cases x <;> first |rfl |skip
  rename_i id pos;show (if c.sc.names.lookup id == some .local && _ then _ else _)=(if env.scope.names.lookup id == some .local && _ then _ else _);rw[hs]
 unfold RG at h;unfold swappedStores;simp only;by_cases h0:(!(ts.length == 2 ||ts.length == 3) ||vs.length != ts.length ||env.blockKind != .function)=true
 ·rw[zah h0]
 rw[zaj h0];have h1:(!(ts.length == 2 ||ts.length == 3))=false:=by
  cases e:(!(ts.length == 2 ||ts.length == 3))with
  |false=>rfl
  |true=>rw[e]at h0;simp at h0
 rw[h1,zb7,za3]at h;rw[hn]at h;rcases h with h |h
 ·rw[zaa,zab]at h;refine(zaj fun z=>absurd ((wX h.1).symm.trans z) zaP).trans ?_;exact zah ((za3 _ _).mpr (.inl (zbX.mpr h.2)))
 ·rw[zaa]at h;refine(zaj fun z=>absurd ((wX h.1).symm.trans z) zaP).trans ?_;split
  ·rfl
  ·exact zah h.2
def C9(c:Ck)(x y z:Str)(px py pz:Pos)(vs:List Expr):Bool:=qG c && (match c.sc.names.lookup x with |some .local=>true |_=>false) && (match c.sc.names.lookup y with |some .local=>true |_=>false) && (match c.sc.names.lookup z with |some .local=>true |_=>false) && decide (x≠y) && decide (x≠z) && decide (y≠z) && (py.line == px.line) && (pz.line == px.line) && vs.all aG && !(vs.all (foldedForSure 8)) && !(vs.all (constantsAlone 8))
theorem Ji{c:Ck}{x y z:Str}{px py pz pt pt2:Pos}{kt k2:Nat}{a b d:Expr}{env:Env}(hs:env.scope=c.sc)(h:C9 c x y z px py pz [a,b,d]=true):
 swappedStores [.Tuple [.Name x px,.Name y py,.Name z pz] kt pt] (.Tuple [a,b,d] k2 pt2) env=pure (some [x,y,z])/\env.scope.names.lookup x=some .local/\env.scope.names.lookup y=some .local/\env.scope.names.lookup z=some .local/\x≠y/\x≠z/\y≠z/\aG a=true/\aG b=true/\aG d=true:=by
 unfold C9 at h;simp only[zaa,zaK,zab]at h;obtain⟨⟨⟨⟨⟨⟨⟨⟨⟨⟨⟨h1,h2⟩,h3⟩,h3'⟩,h4⟩,h4'⟩,h4''⟩,h5⟩,h5'⟩,h6⟩,h8⟩,h9⟩:=h;have loc:∀ {x:Str},(match c.sc.names.lookup x with |some .local=>true |_=>false)=true->c.sc.names.lookup x=some .local:=fun {x} h=>by
  split at h
  ·assumption
  ·cases h
 have e1:=loc h2;have e2:=loc h3;have e4:=loc h3';have e3:c.sc.kind= .function:=by
  unfold qG at h1;split at h1
  ·assumption
  ·cases h1
 have kx:env.kindOf x=some .local:=by show env.scope.names.lookup x=_;rw[hs];exact e1
 have ky:env.kindOf y=some .local:=by show env.scope.names.lookup y=_;rw[hs];exact e2
 have kz:env.kindOf z=some .local:=by show env.scope.names.lookup z=_;rw[hs];exact e4
 have bk:env.blockKind= .function:=by unfold Env.blockKind;rw[hs,e3];rfl
 have st:=wX h6;simp only[zay,List.all_nil,zbE,zaa]at h6;obtain⟨h61,h62,h63⟩:=h6;refine⟨?_,by rw[hs];exact e1,by rw[hs];exact e2,by rw[hs];exact e4,h4,h4',h4'',h61,h62,h63⟩;have nd:([x,y,z]:List Str).eraseDups=[x,y,z]:=by have q1:(y == x)=false:=zaQ.mpr fun z=>h4 z.symm;have q2:(z == x)=false:=zaQ.mpr fun z=>h4' z.symm;have q3:(z == y)=false:=zaQ.mpr fun z=>h4'' z.symm;simp[List.eraseDups_cons,q1,q2,q3]
 unfold swappedStores;simp only[bk,zaf,zbx,List.head?_cons,Option.map_some,Option.getD_some,Expr.pos,zbG,List.filterMap_nil,kx,ky,kz,h5,h5',h8,h9];have f:∀ z:Expr,aG z=true->(match z with | .Starred ..=>true |_=>false)=false:=fun z hz=>by cases z <;> first |rfl |(cases hz)
 simp;rw[zaj (fun z=>z.elim (fun q=>Bool.noConfusion ((f a h61).symm.trans q)) fun z=>z.elim (fun q=>Bool.noConfusion ((f b h62).symm.trans q)) fun q=>Bool.noConfusion ((f d h63).symm.trans q)),nd];rfl
def Dc(T:Tab)(c:Ck)(i j l:Nat)(a b d:E)(tg e:Expr):Bool:=match tg,e with
 | .Tuple [.Name x px,.Name y py,.Name z pz] _ _,.Tuple [u,v,w] _ _=>decide (c.N[i]?=some x) && decide (c.N[j]?=some y) && decide (c.N[l]?=some z) && C9 c x y z px py pz [u,v,w] && au T c a u && au T c b v && au T c d w
 |_,_=>false
def Dd(T:Tab)(c:Ck)(ts:jL)(es:Es)(tg e:Expr):Bool:=match tg,e with
 | .Tuple xs _ _,.Tuple vs _ _=>RG c xs vs && qD T c ts xs && dF T c es vs
 |_,_=>false
def Su.RI:Su->Bool
 | .o9 _ _ _=>true
 |_=>false
def WB(T:Tab)(c:Ck)(n:Option Str)(su:Su)(b0:Stmt):Bool:=match su with
 | .o9 c2 fl2 xs=>n.isSome && Fx T.exc (fun x=>fO c x && okN x) c.N (wV c) n c2 fl2 xs b0
 |su=>zQ c.N (wV c) (eB c) n su b0
mutual
def wY(T:Tab)(c:Ck):S->Stmt->Bool
 | .expr a,.Expr e _=>zE e && au T c a e
 | .asg t a,.Assign [tg] e _=>match t,tg with
   | .name i,.Name x px=>qG c && decide (c.N[i]?=some x) && eB c x && (zE e ||C7 e) && au T c a e && (!(kP c x px e) ||FL a)
   |t,tg=>aG tg && nName tg && z6 tg e && fB T c t tg && au T c a e
 | .par i j a b,.Assign [tg] e _=>Jh T c i j a b tg e
 | .jP i j l a b d,.Assign [tg] e _=>Dc T c i j l a b d tg e
 | .lO ts es,.Assign [tg] e _=>Dd T c ts es tg e
 | .never,_=>true
 | .aug i .add a,.AugAssign (.Name x _) .Add e _=>decide (c.N[i]?=some x) && eB c x && au T c a e
 | .aug i .sub a,.AugAssign (.Name x _) .Sub e _=>decide (c.N[i]?=some x) && eB c x && au T c a e
 | .qk a f .add b,.AugAssign (.Attribute x g _) .Add e _=>decide (g=f) && au T c a x && au T c b e
 | .qk a f .sub b,.AugAssign (.Attribute x g _) .Sub e _=>decide (g=f) && au T c a x && au T c b e
 | .ret a,.Return (some e) _=>au T c a e
 | .y9,.Return none _=>true
 | .ite t a b,.If e x y _=>au T c t e && gT T c a x && gT T c b y
 | .gY t it b,.For tg iter body [] _=>aG iter && fz T c it tg iter && fB T c t tg && gT T c b body
 | .cX t b,.While e body [] _=>au T c t e && gT T c b body
 | .brk,.Break _=>true
 | .cont,.Continue _=>true
 | .pass,.Pass _=>true
 | .raise cn es,.Raise (some (.Call (.Name x _) vs [] _)) none _=>decide (x=cn) && fO c x && okN x && Q8 T cn vs && dF T c es vs
 | .nB body cs i su,.Try b [.ExceptHandler (some (.Name x _)) n [b0] _] [] [] _=>decide (cs=[x]) && T.cls.contains x && fO c x && okN x && Wy c i n && WB T c n su b0 && c.hot && gT T { c with hot:=!su.RI } body b
 |_,_=>false
def gT(T:Tab)(c:Ck):Ss->List Stmt->Bool
 | .nil,[]=>true
 | .cons s r,x::xs=>wY T c s x && gT T c r xs
 |_,_=>false
def FL:E->Bool
 | .comp ..=>true
 | .o7 ..=>true
 |_=>false
end
structure Lu (X:Cx):Prop where
 po:PassesOwn (model X.prog X.w) X.A X.env X.xe
 ex:X.ex=[]
 stk:X.stack=X.env::X.outer
 fr:X.env.frame=some X.env.locals
section
variable {Nv:bz} {T:Tab}
abbrev fY(T:Tab)(Nv:bz)(t:S):Prop:=∀ (X:Cx) (W:WX) (c:Ck) (s:Stmt),gm T Nv X W c->Lu X->wY T c t s=true->GS X W s (ex Nv t)
abbrev lH(T:Tab)(Nv:bz)(t:Ss):Prop:=∀ (X:Cx) (W:WX) (c:Ck) (s:List Stmt),gm T Nv X W c->Lu X->gT T c t s=true->GSs X W s (aF Nv t)
theorem RJ:lH T Nv .nil:=fun X W c s F hp h=>by
 have ee:aF Nv .nil=fun ρ st=>.ok (.next ρ) st:=by funext ρ st;rw[aF]
 cases s with
 |nil=>rw[ee];exact gss_nil
 |cons _ _=>cases h
theorem NU(a:S)(r:Ss)(ha:fY T Nv a)(hr:lH T Nv r):lH T Nv (.cons a r):=fun X W c s F hp h=>by
 have ee:aF Nv (.cons a r)=fun ρ st=>(ex Nv a ρ st).i9.bind fun fl st1=>match fl with
  | .next ρ1=>aF Nv r ρ1 st1
  |fl=>.ok fl st1:=by funext ρ st;first |(rw[aF];done) |(rw[aF];rfl)
 cases s with
 |nil=>cases h
 |cons x xs=>have h:(wY T c a x && gT T c r xs)=true:=h;rw[zaa]at h;rw[ee];exact gss_cons (ha X W c x F hp h.1) (hr X W c xs F hp h.2)
theorem RK(a:E):fY T Nv (.expr a):=fun X W c s F hp h=>by
 have ee:ex Nv (.expr a)=fun ρ st=>(ev Nv a ρ st).cat ρ fun _ st1=>.ok (.next ρ) st1:=by funext ρ st;rw[ex]
 rw[ee];cases s <;> first |(cases h;done) |skip
 rename_i e p;have h:(zE e && au T c a e)=true:=h;rw[zaa]at h;exact MS (sE a X W c e F h.2).1 (vg h.1 _ _ _)
theorem s_asg(t:Tg)(a:E):fY T Nv (.asg t a):=fun X W c s F hp h=>by
 have ee:ex Nv (.asg t a)=fun ρ st=>(ev Nv a ρ st).cat ρ fun v st1=>(asg Nv t v ρ st1).bP.bind fun ρ1 st2=>.ok (.next ρ1) st2:=by funext ρ st;rw[ex]
 cases s <;> first |(cases h;done) |skip
 rename_i tgs e p;cases tgs with
 |nil=>cases h
 |cons tg tgs=>
 cases tgs with
 |cons _ _=>cases h
 |nil=>
 have other:(aG tg && nName tg && z6 tg e && fB T c t tg && au T c a e)=true->GS X W (.Assign [tg] e p) (ex Nv (.asg t a)):=fun h=>by simp only[zaa]at h;obtain⟨⟨⟨⟨h1,h2⟩,h3⟩,h4⟩,h5⟩:=h;rw[ee];exact QI h1 h2 (sE a X W c e F h5).1 ((ow t).1 X W c tg F h4) (FJ h3 _)
 cases t with
 |tup ts=>exact other (by cases tg <;> exact h)
 |sub x y=>exact other (by cases tg <;> exact h)
 |star x y=>exact other (by cases tg <;> exact h)
 |fld x y=>exact other (by cases tg <;> exact h)
 |subT x y=>exact other (by cases tg <;> exact h)
 |name i=>
 cases tg with
 |Name x px=>
  have ea:asg Nv (.name i)=fun v ρ st=>if i<ρ.length then .ok (ρ.set i (some v)) st else .no:=by funext v ρ st;rw[asg]
  replace h:(qG c && decide (c.N[i]?=some x) && eB c x && (zE e ||C7 e) && au T c a e && (!(kP c x px e) ||FL a))=true:=h;rw[ee,ea];simp only[zaa,za3,zaK,zab]at h;obtain⟨⟨⟨⟨⟨h0,h1⟩,h2⟩,h3⟩,h4⟩,h5⟩:=h;obtain⟨q1,q2⟩:=F.st h2;have hN:X.N[i]?=some x:=by rw[F.n];exact h1
  rcases h3 with h3 |h3
  ·exact zF F.cA hN q1 q2 (sE a X W c e F h4).1 (vg h3 _ _ _)
  ·rcases h5 with h5 |h5
   ·exact zF F.cA hN q1 q2 (sE a X W c e F h4).1 (vA h3 F.sc h5)
   ·by_cases hsw:kP c x px e=false
    ·exact zF F.cA hN q1 q2 (sE a X W c e F h4).1 (vA h3 F.sc hsw)
    ·have hsw:kP c x px e=true:=by simpa using hsw
     cases a <;> first |(cases h5;done) |skip
     rotate_left
     ·rename_i mu elt tg it ifs tg1 it1 ifs1 own own1;have ec:ev Nv (.o7 mu elt tg it ifs tg1 it1 ifs1 own own1)=qC mu (cK Nv it) (asg Nv tg) (bR Nv ifs) (cK Nv it1) (asg Nv tg1) (bR Nv ifs1) (ev Nv elt) own own1:=by funext ρ st;rw[ev];rfl
      obtain⟨x1,gs,scope,p1,rfl⟩|⟨_,_,_,_,_,rfl⟩:=wW h3
      rotate_left
      ·cases h4
      match gs,h4,hsw with
      | [],h4,_=>cases h4
      | [_],h4,_=>cases h4
      |_::_::_::_,h4,_=>cases h4
      | [⟨tg',iter,ifs',n⟩,⟨tg1',iter1,ifs1',n1⟩],h4,hsw=>
      have h4:(decide (n=0) && decide (n1=0) && blkC c.N c.sc scope (l6 c own) && aG iter && aG iter1 && ((jU tg).all fun i=>own.contains i) && ((jU tg1).all fun i=>own1.contains i) && (own1.all fun i=>own.contains i) &&
       fz T c it tg' iter && fB T (c.blk scope) tg tg' && iR T (c.blk scope) ifs ifs' && fz T (c.blk scope) it1 tg1' iter1 && fB T (c.blk scope) tg1 tg1' && iR T (c.blk scope) ifs1 ifs1' && au T (c.blk scope) elt x1)=true:=h4
      simp only[zaa,zab]at h4;obtain⟨⟨⟨⟨⟨⟨⟨⟨⟨⟨⟨⟨⟨⟨rfl,rfl⟩,k1⟩,k2⟩,k2'⟩,k3⟩,k3'⟩,k3''⟩,k4⟩,k5⟩,k6⟩,k4'⟩,k5'⟩,k6'⟩,k7⟩:=h4;obtain⟨w1,w2⟩:=xU (l:=p.line) h0 F.sc hsw;have ok:=blkOk_by k1;rw[←F.n,←F.sc]at ok;have hx:=qF k1;have sub:∀ {l:List Nat} {o:List Nat},(l.all fun i=>o.contains i)=true->∀ i∈l,i∈o:=fun q i hi=>by have:=zai.mp q i hi;simpa using this
      have g:=FA (mu:=mu) (W:=W) (W':=fun _ _ _ _=>False) (pos:=p1) (spos:=p) (py:=px) F.cA hN w2 w1 k2 k2' (xT it X W c tg' iter F k4) ok (fun i hi=>by rw[hx];exact sub k3'' i hi) (fun s H C cl fp=>(ow tg).1 _ _ _ tg' (F.blk scope s H C cl fp) k5) (fun s H C cl fp=>z5 ifs _ _ _ ifs' (F.blk scope s H C cl fp) k6)
       (fun s H C cl fp=>xT it1 _ _ _ tg1' iter1 (F.blk scope s H C cl fp) k4') (fun s H C cl fp=>(ow tg1).1 _ _ _ tg1' (F.blk scope s H C cl fp) k5') (fun s H C cl fp=>z5 ifs1 _ _ _ ifs1' (F.blk scope s H C cl fp) k6') (fun s H C cl fp=>(sE elt _ _ _ x1 (F.blk scope s H C cl fp) k7).1)
       (fun i hi=>by rw[hx];exact sub k3 i hi) (fun i hi=>sub k3' i hi) (ow (T:=T) tg).2 (ow (T:=T) tg1).2
      rw[hx]at g;rw[ec];exact g
     rename_i mu elt tg it ifs own;have ec:ev Nv (.comp mu elt tg it ifs own)=u7 mu (cK Nv it) (asg Nv tg) (bR Nv ifs) (ev Nv elt) own:=by funext ρ st;rw[ev];rfl
     obtain⟨x1,gs,scope,p1,rfl⟩|⟨_,_,_,_,_,rfl⟩:=wW h3
     rotate_left
     ·cases h4
     cases gs with
     |nil=>cases h4
     |cons g gs=>
     cases gs with
     |cons _ _=>cases h4
     |nil=>
     obtain⟨tg',iter,ifs',n⟩:=g;have h4:(decide (n=0) && blkC c.N c.sc scope (l6 c own) && aG iter && ((jU tg).all fun i=>own.contains i) && fz T c it tg' iter && fB T (c.blk scope) tg tg' && iR T (c.blk scope) ifs ifs' && au T (c.blk scope) elt x1)=true:=h4;simp only[zaa,zab]at h4;obtain⟨⟨⟨⟨⟨⟨⟨rfl,k1⟩,k2⟩,k3⟩,k4⟩,k5⟩,k6⟩,k7⟩:=h4;obtain⟨w1,w2⟩:=xU (l:=p.line) h0 F.sc hsw;have ok:=blkOk_by k1;rw[←F.n,←F.sc]at ok;have hx:=qF k1;have g:=Iq (mu:=mu) (W:=W) (W':=fun _ _ _ _=>False) (pos:=p1) (spos:=p) (py:=px) F.cA hN w2 w1 k2 (xT it X W c tg' iter F k4) ok (fun s H C cl fp=>(ow tg).1 _ _ _ tg' (F.blk scope s H C cl fp) k5) (fun s H C cl fp=>z5 ifs _ _ _ ifs' (F.blk scope s H C cl fp) k6) (fun s H C cl fp=>(sE elt _ _ _ x1 (F.blk scope s H C cl fp) k7).1)
      (fun i hi=>by rw[hx];have:=zai.mp k3 i hi;simpa using this) (ow (T:=T) tg).2
     rw[hx]at g;rw[ec];exact g
 |_=>exact other h
theorem VA(i j:Nat)(a b:E):fY T Nv (.par i j a b):=fun X W c s F hp h=>by
 have ee:ex Nv (.par i j a b)=fun ρ st=>(ev Nv a ρ st).cat ρ fun v st1=>(ev Nv b ρ st1).cat ρ fun u st2=>if i<ρ.length/\j<ρ.length then .ok (.next ((ρ.set i (some v)).set j (some u))) st2 else .no:=by funext ρ st;rw[ex]
 rw[ee];cases s <;> first |(cases h;done) |skip
 rename_i tgs e p;cases tgs with
 |nil=>cases h
 |cons tg tgs=>
 cases tgs with
 |cons _ _=>cases h
 |nil=>
 replace h:Jh T c i j a b tg e=true:=h;unfold Jh at h;split at h
 ·simp only[zaa,zab]at h;obtain⟨⟨⟨⟨h1,h2⟩,h3⟩,h4⟩,h5⟩:=h;obtain⟨q1,q2,q3,q4,q5,q6⟩:=NS F.sc h3;refine QJ F.cA (by rw[F.n];exact h1) (by rw[F.n];exact h2) (fun z=>?_) q2 q3 q5 q6 (sE a X W c _ F h4).1 (sE b X W c _ F h5).1 q1;rw[z,h2]at h1;exact q4 (zam h1).symm
 ·cases h
theorem NV:fY T Nv .never:=fun X W c s F hp h=>by
 have ee:ex Nv .never=fun _ _=>.no:=by funext ρ st;rw[ex]
 rw[ee];exact IV
theorem RL(i j l:Nat)(a b d:E):fY T Nv (.jP i j l a b d):=fun X W c s F hp h=>by
 have ee:ex Nv (.jP i j l a b d)=fun ρ st=>(ev Nv a ρ st).cat ρ fun v st1=>(ev Nv b ρ st1).cat ρ fun u st2=>(ev Nv d ρ st2).cat ρ fun w st3=>if i<ρ.length/\j<ρ.length/\l<ρ.length then .ok (.next (((ρ.set i (some v)).set j (some u)).set l (some w))) st3 else .no:=by funext ρ st;rw[ex]
 rw[ee];cases s <;> first |(cases h;done) |skip
 rename_i tgs e p;match tgs,h with
 | [],h=>cases h
 |_::_::_,h=>cases h
 | [tg],h=>
 replace h:Dc T c i j l a b d tg e=true:=h;unfold Dc at h;split at h
 ·simp only[zaa,zab]at h;obtain⟨⟨⟨⟨⟨⟨h1,h2⟩,h2'⟩,h3⟩,h4⟩,h5⟩,h6⟩:=h;obtain⟨q1,q2,q3,q4,q5,q6,q7,q8,q9,q10⟩:=Ji F.sc h3;have ne:∀ {m n:Nat} {u v:Str},c.N[m]?=some u->c.N[n]?=some v->u≠v->m≠n:=fun e1 e2 n z=>n (by rw[z,e2]at e1;exact(zam e1).symm);exact Nm F.cA (by rw[F.n];exact h1) (by rw[F.n];exact h2) (by rw[F.n];exact h2') (ne h1 h2 q5) (ne h1 h2' q6) (ne h2 h2' q7) q2 q3 q4 q8 q9 q10 (sE a X W c _ F h4).1 (sE b X W c _ F h5).1 (sE d X W c _ F h6).1 q1
 ·cases h
theorem RM(ts:jL)(es:Es):fY T Nv (.lO ts es):=fun X W c s F hp h=>by
 have ee:ex Nv (.lO ts es)=fun ρ st=>(bj Nv es ρ st).cat ρ fun vs st1=>if vs.length<=sizeLine then(dg Nv ts vs ρ st1).bP.bind fun ρ1 st2=>.ok (.next ρ1) st2 else .no:=by funext ρ st;rw[ex]
 rw[ee];cases s <;> first |(cases h;done) |skip
 rename_i tgs e p;match tgs,h with
 | [],h=>cases h
 |_::_::_,h=>cases h
 | [tg],h=>
 replace h:Dd T c ts es tg e=true:=h;unfold Dd at h;split at h
 ·obtain⟨h1,h2,h3⟩:=ir h;obtain⟨q1,q2,q3⟩:=(Jf ts).1 X W c _ F h2;exact Nn F.cA q2 q1 (qb es X W c _ F h3).1 q3 (RH F.sc h1)
 ·cases h
theorem s_aug(i:Nat)(o:jK)(a:E):fY T Nv (.aug i o a):=fun X W c s F hp h=>by
 have ee:ex Nv (.aug i o a)=fun ρ st=>match ρ[i]? with
  |some (some v)=>(ev Nv a ρ st).cat ρ fun u st1=>match v,u with
   | .d (.int _),.d (.int _)=>(R.aS (gZ o v u st1)).cat ρ fun z st2=>.ok (.next (ρ.set i (some z))) st2
   |_,_=>.no
  |_=>.no:=by funext ρ st;first |(rw[ex];done) |(rw[ex];rfl)
 rw[ee];cases o <;> first |(cases h;done) |skip
 ·cases s <;> first |(cases h;done) |skip
  rename_i tg op e p;cases tg <;> first |(cases h;done) |skip
  rename_i x px;cases op <;> first |(cases h;done) |skip
  have h:(decide (c.N[i]?=some x) && eB c x && au T c a e)=true:=h;obtain⟨h1,h2,h3⟩:=ir h;obtain⟨q1,q2⟩:=F.st h2;exact Fo F.cA (by rw[F.n];exact zad h1) q1 q2 (sE a X W c e F h3).1 ip_add fun p q st=>rfl
 ·cases s <;> first |(cases h;done) |skip
  rename_i tg op e p;cases tg <;> first |(cases h;done) |skip
  rename_i x px;cases op <;> first |(cases h;done) |skip
  have h:(decide (c.N[i]?=some x) && eB c x && au T c a e)=true:=h;obtain⟨h1,h2,h3⟩:=ir h;obtain⟨q1,q2⟩:=F.st h2;exact Fo F.cA (by rw[F.n];exact zad h1) q1 q2 (sE a X W c e F h3).1 ip_sub fun p q st=>rfl
theorem RN(a:E)(f:Str)(o:jK)(b:E):fY T Nv (.qk a f o b):=fun X W c s F hp h=>by
 have ee:ex Nv (.qk a f o b)=fun ρ st=>(ev Nv a ρ st).cat ρ fun x st1=>(R.aS (cU [] T.obs f x st1)).cat ρ fun v st2=>(ev Nv b ρ st2).cat ρ fun u st3=>(R.aS (j6 o v u st3)).cat ρ fun z st4=>match bF T.obs f x z st4 with
  |some st5=>.ok (.next ρ) st5
  |none=>.no:=by funext ρ st;rw[←F.tL];first |(rw[ex];done) |(rw[ex];rfl)
 rw[ee];cases o <;> first |(cases h;done) |skip
 ·cases s <;> first |(cases h;done) |skip
  rename_i tg op e p;cases tg <;> first |(cases h;done) |skip
  rename_i x g px;cases op <;> first |(cases h;done) |skip
  have h:(decide (g=f) && au T c a x && au T c b e)=true:=h;obtain⟨h1,h2,h3⟩:=ir h;obtain rfl:=zad h1;exact BR (M4 X) F.ob (sE a X W c x F h2).1 (sE b X W c e F h3).1
 ·cases s <;> first |(cases h;done) |skip
  rename_i tg op e p;cases tg <;> first |(cases h;done) |skip
  rename_i x g px;cases op <;> first |(cases h;done) |skip
  have h:(decide (g=f) && au T c a x && au T c b e)=true:=h;obtain⟨h1,h2,h3⟩:=ir h;obtain rfl:=zad h1;exact BR (M5 X) F.ob (sE a X W c x F h2).1 (sE b X W c e F h3).1
theorem s_ret(a:E):fY T Nv (.ret a):=fun X W c s F hp h=>by
 have ee:ex Nv (.ret a)=fun ρ st=>(ev Nv a ρ st).cat ρ fun v st1=>.ok (.ret v) st1:=by funext ρ st;rw[ex]
 rw[ee];cases s <;> first |(cases h;done) |skip
 rename_i o p;cases o <;> first |(cases h;done) |skip
 exact QK (sE a X W c _ F h).1
theorem RO:fY T Nv .y9:=fun X W c s F hp h=>by
 have ee:ex Nv .y9=fun _ st=>.ok (.ret (.d .none)) st:=by funext ρ st;rw[ex]
 rw[ee];cases s <;> first |(cases h;done) |skip
 rename_i o p;cases o <;> first |(cases h;done) |skip
 exact MT
theorem VB:fY T Nv .brk:=fun X W c s F hp h=>by
 have ee:ex Nv .brk=fun ρ st=>.ok (.brk ρ) st:=by funext ρ st;rw[ex]
 rw[ee];cases s <;> first |(cases h;done) |skip
 exact QL
theorem RP:fY T Nv .cont:=fun X W c s F hp h=>by
 have ee:ex Nv .cont=fun ρ st=>.ok (.cont ρ) st:=by funext ρ st;rw[ex]
 rw[ee];cases s <;> first |(cases h;done) |skip
 exact MV
theorem RQ:fY T Nv .pass:=fun X W c s F hp h=>by
 have ee:ex Nv .pass=fun ρ st=>.ok (.next ρ) st:=by funext ρ st;rw[ex]
 rw[ee];cases s <;> first |(cases h;done) |skip
 exact MU
theorem VC(t:E)(a b:Ss)(ha:lH T Nv a)(hb:lH T Nv b):fY T Nv (.ite t a b):=fun X W c s F hp h=>by
 have ee:ex Nv (.ite t a b)=fun ρ st=>(bZ (ev Nv t) ρ st).cat ρ fun k st1=>if k then aF Nv a ρ st1 else aF Nv b ρ st1:=by funext ρ st;rw[ex];rfl
 rw[ee];cases s <;> first |(cases h;done) |skip
 rename_i e x y p;have h:(au T c t e && gT T c a x && gT T c b y)=true:=h;obtain⟨h1,h2,h3⟩:=ir h;exact Vp (sE t X W c e F h1).2 (ha X W c x F hp h2) (hb X W c y F hp h3)
theorem s_while(t:E)(b:Ss)(hb:lH T Nv b):fY T Nv (.cX t b):=fun X W c s F hp h=>by
 have ee:ex Nv (.cX t b)=fun ρ st=>qo (bZ (ev Nv t)) (aF Nv b) uR ρ st:=by funext ρ st;rw[ex];rfl
 rw[ee];cases s <;> first |(cases h;done) |skip
 rename_i e x y p;cases y with
 |cons _ _=>cases h
 |nil=>have h:(au T c t e && gT T c b x)=true:=h;rw[zaa]at h;exact gs_while hp.po (sE t X W c e F h.1).2 (hb X W c x F hp h.2)
theorem VD(t:Tg)(it:It)(b:Ss)(hb:lH T Nv b):fY T Nv (.gY t it b):=fun X W c s F hp h=>by
 have ee:ex Nv (.gY t it b)=fun ρ st=>(cK Nv it ρ st).cat ρ fun p st1=>forL (fun x ρ1 st2=>(asg Nv t x ρ1 st2).bP.bind fun ρ2 st3=>aF Nv b ρ2 st3) p.2 p.1 ρ st1:=by funext ρ st;rw[ex]
 rw[ee];cases s <;> first |(cases h;done) |skip
 rename_i tg iter body orelse p;cases orelse with
 |cons _ _=>cases h
 |nil=>have h:(aG iter && fz T c it tg iter && fB T c t tg && gT T c b body)=true:=h;simp only[zaa]at h;obtain⟨⟨⟨h1,h2⟩,h3⟩,h4⟩:=h;exact QM F.cA hp.po h1 (xT it X W c tg iter F h2) ((ow t).1 X W c tg F h3) (hb X W c body F hp h4)
theorem NW(cn:Str)(es:Es):fY T Nv (.raise cn es):=fun X W c s F hp h=>by
 have ee:ex Nv (.raise cn es)=fun ρ st=>(bj Nv es ρ st).cat ρ fun vs st1=>gz T.exc cn vs ρ st1:=by funext ρ st;rw[ex,F.xS]
 rw[ee];cases s <;> first |(cases h;done) |skip
 rename_i o o2 p;cases o <;> first |(cases h;done) |skip
 rename_i e;cases e <;> first |(cases h;done) |skip
 rename_i fe vs ks pc;cases fe <;> first |(cases h;done) |skip
 rename_i x px;cases ks <;> first |(cases h;done) |skip
 cases o2 <;> first |(cases h;done) |skip
 have h:(decide (x=cn) && fO c x && okN x && Q8 T cn vs && dF T c es vs)=true:=h;simp only[zaa]at h;obtain⟨⟨⟨⟨h1,h2⟩,h3⟩,h4⟩,h5⟩:=h;obtain rfl:=zad h1;obtain⟨q1,q2,q3,q4⟩:=qb es X W c vs F h5;unfold Q8 at h4;split at h4
 ·rename_i k hk;refine IK F.cA F.tk.n F.rm F.cls hk (F.gl h2) (dR h3).1 q2 q1 ?_;cases vs with
  |nil=>exact .inl ⟨rfl,q4 rfl,by simpa using h4⟩
  |cons v vs=>exact .inr ⟨v,vs,rfl,by simpa using h4⟩
 ·cases h4
theorem gm.tr{b:Bool}{X:Cx}{W W':WX}{c:Ck}{pn:List (Addr×Obj)}{xe:Value->Shared->Prop}(F:gm T Nv X W c)(tk:pX b (X.tr pn xe) W'):gm T Nv (X.tr pn xe) W' { c with hot:=b } where
 n:=F.n
 sc:=F.sc
 fn:=F.fn
 cA:=⟨F.cA.calm,F.cA.nd,F.cA.un,F.cA.gd,F.cA.sm⟩
 call:=F.call
 glob:=F.glob
 bi:=F.bi
 tk:=tk
 xS:=F.xS
 cls:=⟨F.cls.nm,fun k hk=>by obtain⟨C,h1,h2,h3⟩:=F.cls.at_ k hk;refine⟨C,h1,h2,⟨h3.ex,h3.xf,h3.no,?_,h3.sub⟩⟩;have:=h3.zJ;cases hi:k.ini <;> (rw[hi]at this;exact this)⟩
 rm:=F.rm
 tL:=F.tL
 kJ:=fun c1 c2 h=>⟨(F.kJ c1 c2 h).at_,(F.kJ c1 c2 h).get⟩
 ob:=⟨fun o ho=>let⟨C,h1,h2,h3⟩:=F.ob.at_ o ho;⟨C,h1,h2,⟨h3.cls,h3.no⟩⟩⟩
 me:=F.me
 lam:=F.lam
theorem NX{T:Tab}{c:Ck}{body:Ss}{cs:List Str}{i:Option Nat}{su:Su}{s:Stmt}(h:wY T c (.nB body cs i su) s=true):∃ b x px n b0 p2 p,s= .Try b [.ExceptHandler (some (.Name x px)) n [b0] p2] [] [] p:=by
 cases s <;> first |(cases h;done) |skip
 rename_i b hds oe fb p;cases hds <;> first |(cases h;done) |skip
 rename_i hd r;cases hd;rename_i ty n bs p2;cases ty <;> first |(cases h;done) |skip
 rename_i ty;cases ty <;> first |(cases h;done) |skip
 cases bs <;> first |(cases h;done) |skip
 rename_i b0 r2;cases r2 <;> first |(cases h;done) |skip
 cases r <;> first |(cases h;done) |skip
 cases oe <;> first |(cases h;done) |skip
 cases fb <;> first |(cases h;done) |skip
 exact⟨_,_,_,_,_,_,_,rfl⟩
theorem VE(body:Ss)(cs:List Str)(i:Option Nat)(su:Su)(hb:lH T Nv body):fY T Nv (.nB body cs i su):=fun X W c s F hp h=>by
 have ee:ex Nv (.nB body cs i su)=fun ρ st=>(aF Nv body ρ st).i9.bind fun fl st1=>gI T.exc cs i su fl st1:=by funext ρ st;rw[ex,F.xS]
 rw[ee];obtain⟨b,x,px,n,b0,p2,p,rfl⟩:=NX h;have h:(decide (cs=[x]) && T.cls.contains x && fO c x && okN x && Wy c i n && WB T c n su b0 && c.hot && gT T { c with hot:=!su.RI } body b)=true:=h;simp only[zaa]at h;obtain⟨⟨⟨⟨⟨⟨⟨h1,h2⟩,h3⟩,h4⟩,h5⟩,h6⟩,h8⟩,h7⟩:=h;have h1:=zad h1;subst h1;have tk:Takes X W:=by have:=F.tk;rw[h8]at this;exact this
 have hV:mU X (wV c):=⟨fun y hy=>by unfold wV at hy;rw[zaa]at hy;obtain⟨d1,d2,_⟩:=dR hy.2;exact⟨F.bV hy.1,d1,d2⟩⟩;have hS:yC X (eB c):=⟨fun y hy=>F.st hy⟩;have nmi:∀ n' i',n=some n'->i=some i'->X.N[i']?=some n'/\X.env.kindOf n'=some .local:=fun n' i' e1 e2=>by
  subst e1 e2;have h5:(decide (c.N[i']?=some n') && (match c.sc.names.lookup n' with |some .local=>true |_=>false))=true:=h5
  rw[zaa]at h5;refine⟨by rw[F.n];exact zad h5.1,?_⟩;show X.env.scope.names.lookup n'=_;rw[F.sc];have h5:=h5.2;split at h5
  ·assumption
  ·cases h5
 cases hr:su.RI with
 |true=>
  rw[hr]at h7;obtain⟨c2,fl2,xs,rfl⟩:∃ c2 fl2 xs,su= .o9 c2 fl2 xs:=by cases su <;> first |(cases hr;done) |exact⟨_,_,_,rfl⟩
  have h6:(n.isSome && Fx T.exc (fun x=>fO c x && okN x) c.N (wV c) n c2 fl2 xs b0)=true:=h6;rw[zaa]at h6;have hbd:∀ (W':WX) (pn:List (Addr×Obj)) (xe:Value->Shared->Prop),L2N.Takes (X.tr pn xe) W'->PassesOwn (model X.prog X.w) X.A X.env xe->GSs (X.tr pn xe) W' b (aF Nv body):=fun W' pn xe tk po=>hb (X.tr pn xe) W' _ b (F.tr (b:=false) tk) ⟨po,hp.ex,hp.stk,hp.fr⟩ h7;cases n with
  |none=>cases h6.1
  |some n=>
   cases i with
   |none=>cases h5
   |some i=>obtain⟨g1,g2⟩:=nmi n i rfl rfl;exact Nd hp.ex hp.stk hp.fr F.cA g1 g2 tk F.rm F.cls (by simpa using h2) (F.gl h3) (dR h4).1 hV (fun y hy=>by rw[zaa]at hy;exact⟨F.gl hy.1,(dR hy.2).1⟩) (by rw[F.n];exact h6.2) hbd
 |false=>
  rw[hr]at h7;have h6:zQ c.N (wV c) (eB c) n su b0=true:=by cases su <;> first |(cases hr;done) |exact h6
  have hbd:∀ (W':WX) (pn:List (Addr×Obj)) (xe:Value->Shared->Prop),Takes (X.tr pn xe) W'->PassesOwn (model X.prog X.w) X.A X.env xe->GSs (X.tr pn xe) W' b (aF Nv body):=fun W' pn xe tk po=>hb (X.tr pn xe) W' _ b (F.tr (b:=true) tk) ⟨po,hp.ex,hp.stk,hp.fr⟩ h7;cases n with
  |none=>
   cases i with
   |some i=>cases h5
   |none=>exact Na hp.stk hp.fr F.cA tk F.cls (by simpa using h2) (F.gl h3) (dR h4).1 hV hS (by rw[F.n];exact h6) hbd
  |some n=>
   cases i with
   |none=>cases h5
   |some i=>obtain⟨g1,g2⟩:=nmi n i rfl rfl;exact M9 hp.ex hp.stk hp.fr F.cA g1 g2 tk F.cls (by simpa using h2) (F.gl h3) (dR h4).1 hV hS (by rw[F.n];exact h6) hbd
mutual
theorem sS:∀ t:S,fY T Nv t
 | .expr a=>RK a
 | .asg t a=>s_asg t a
 | .par i j a b=>VA i j a b
 | .jP i j l a b d=>RL i j l a b d
 | .lO ts es=>RM ts es
 | .never=>NV
 | .aug i o a=>s_aug i o a
 | .qk a f o b=>RN a f o b
 | .ret a=>s_ret a
 | .y9=>RO
 | .ite t a b=>VC t a b (xV a) (xV b)
 | .gY t it b=>VD t it b (xV b)
 | .cX t b=>s_while t b (xV b)
 | .brk=>VB
 | .cont=>RP
 | .pass=>RQ
 | .raise cn es=>NW cn es
 | .nB body cs i su=>VE body cs i su (xV body)
theorem xV:∀ t:Ss,lH T Nv t
 | .nil=>RJ
 | .cons a r=>NU a r (sS a) (xV r)
end
def yD(T:Tab)(c:Ck):S->Stmt->Bool
 | .asg (.name i) (.me .replace a (.cons (.cst (.str y)) (.cons (.cst (.str z)) .nil))),.Assign [.Name x _] (.Call (.Attribute o nm apos) [.Constant (.str y1) _ _,.Constant (.str z1) _ _] [] cpos) _=>decide (c.N[i]?=some x) && eB c x && decide (nm="replace") && decide (y1=y) && decide (z1=z) && !(y == z) && eK o && (apos.endLine == cpos.line) && au T c a o
 |_,_=>false
def yE(T:Tab)(c:Ck):Ss->List Stmt->Bool
 | .nil,[]=>true
 | .cons s r,x::xs=>(wY T c s x ||yD T c s x) && yE T c r xs
 |_,_=>false
theorem VF{X:Cx}{s:List Stmt}{t t':TS}(h:PSsT X s t)(w:∀ D σ H,t' D σ H->t D σ H):PSsT X s t':=fun pins s σ H D h0 I q=>h pins s σ H D h0 I (w D σ H q)
theorem Jj{X:Cx}{W:WX}{s:Stmt}{rest:List Stmt}{fs ft:ae->aa->R Fl}(h1:PST X s (DS (gx X) W fs))(h2:PSsT X rest (DS (gx X) W ft)):PSsT X (s::rest) (DS (gx X) W fun ρ st=>(fs ρ st).i9.bind fun fl st1=>match fl with
 | .next ρ1=>ft ρ1 st1
 |fl=>.ok fl st1):=VF (psst_cons h1 h2) fun D σ H q=>by
 obtain⟨m,ρ,st,r,o⟩:=q;refine⟨m,ρ,st,r,(jR o).imp fun fl st1 m1 H1 e1 s1 o1=>?_⟩;cases fl with
 |next ρ1=>exact fun σ' r'=>⟨m1,ρ1,st1,r',o1⟩
 |ret v=>exact ao.here o1 s1
 |brk ρ1=>exact ao.here o1 s1
 |cont ρ1=>exact ao.here o1 s1
 |exc e ρ1=>exact ao.here o1 s1
theorem NY{X:Cx}{W:WX}{i:Nat}{x y z:Str}{px apos cpos c0 c1 p:Pos}{j0 j1:Nat}{o:Expr}{fa:ae->aa->R Val}(C:bQ X)(hi:X.N[i]?=some x)(hx:Loc X.env.scope x)(hf:X.fn x=true\/X.env.scope.names.lookup x=some .local)(ho:GE X W o fa)(hyz:(y == z)=false)(hb:eK o=true)
 (hl:(apos.endLine == cpos.line)=true) :
 PST X (.Assign [.Name x px] (.Call (.Attribute o "replace" apos) [.Constant (.str y) j0 c0,.Constant (.str z) j1 c1] [] cpos) p) (DS (gx X) W fun ρ st=>((fa ρ st).bind fun v st1=>if recv .replace st1 v=true then R.aS (bO .replace v [.d (.str y),.d (.str z)] st1)else .no).cat ρ fun v st1=>(if i<ρ.length then R.ok (ρ.set i (some v)) st1 else .no).bP.bind fun ρ1 st2=>.ok (.next ρ1) st2):=by
 intro pins s σ H D h0 I q;obtain⟨m,ρ,st,r,o⟩:=q;refine wpAny_Assign_Name (thn (CwR.pet_replC ho hyz (by rfl) (lM hb _ _) hl pins s σ H (fun v H1=>D.nx (σ.set i (some v)) H1) h0 I ?_) fun v s1 ⟨v',H1,I1,r1,q1⟩=>store_ok I1 C.nd hi hx r1 (fun s2 I2=>⟨_,H1,I2,q1⟩) hf) (by rfl);refine⟨m,ρ,st,r,(Out.bind (cz r o)).imp fun v st1 m1 H1 e1 s1 o1 u rx=>?_⟩;split at o1
 ·rename_i hr;cases v with
  |d d=>
   cases d with
   |str t=>
    have eu:u= .str t:=by
     cases rx with
     |d h=>cases h;rfl
    subst eu;have o1:Out (gx X) W m1 H1 σ (R.aS (guard' (t.length+(t.length+1) * z.length<=16777216) (dat st1 (.str (Txt.replace t y z))))) _:=o1;unfold guard' at o1;split at o1
    ·rename_i hc;refine⟨t,rfl,hc,?_⟩;have o2:=Out.here o1 s1;split at o2
     ·exact ao.here o2 s1 _ ((r.ext e1 s1).set (.d (.str _)))
     ·exact o2.elim
    ·exact o1.elim
   |_=>cases hr
  |_=>cases hr
 ·exact o1.elim
theorem VG{t:S}:∀ (X:Cx) (W:WX) (c:Ck) (s:Stmt),gm T Nv X W c->yD T c t s=true->PST X s (DS (gx X) W (ex Nv t)):=fun X W c s F h=>by
 unfold yD at h;split at h
 ·rename_i i a y z x px o nm apos y1 j0 c0 z1 j1 c1 cpos p;simp only[zaa,zab,zaK]at h;obtain⟨⟨⟨⟨⟨⟨⟨⟨h1,h2⟩,rfl⟩,rfl⟩,rfl⟩,h6⟩,h7⟩,h8⟩,h9⟩:=h;obtain⟨q1,q2⟩:=F.st h2;have ee:ex Nv (.asg (.name i) (.me .replace a (.cons (.cst (.str y1)) (.cons (.cst (.str z1)) .nil))))=fun ρ st=>((ev Nv a ρ st).bind fun v st1=>if recv .replace st1 v=true then R.aS (bO .replace v [.d (.str y1),.d (.str z1)] st1)else .no).cat ρ fun v st1=>
   (if i<ρ.length then R.ok (ρ.set i (some v)) st1 else .no).bP.bind fun ρ1 st2=>.ok (.next ρ1) st2:=by
   funext ρ st
   rw[ex,ev];have e2:∀ st1,bj Nv (.cons (.cst (.str y1)) (.cons (.cst (.str z1)) .nil)) ρ st1= .ok [.d (.str y1),.d (.str z1)] st1:=fun st1=>by simp only[bj,ev];rfl
   simp only[e2,asg];rfl
  rw[ee];exact NY F.cA (by rw[F.n];exact h1) q1 q2 (sE a X W c o F h9).1 h6 h7 h8
 ·cases h
theorem WC:∀ (t:Ss) (X:Cx) (W:WX) (c:Ck) (s:List Stmt),gm T Nv X W c->Lu X->yE T c t s=true->PSsT X s (DS (gx X) W (aF Nv t))
 | .nil,X,W,c,s,F,hp,h=>by
   cases s with
   |nil=>exact PSsT.of (xV .nil X W c [] F hp rfl)
   |cons _ _=>cases h
 | .cons a r,X,W,c,s,F,hp,h=>by
   have ee:aF Nv (.cons a r)=fun ρ st=>(ex Nv a ρ st).i9.bind fun fl st1=>match fl with
    | .next ρ1=>aF Nv r ρ1 st1
    |fl=>.ok fl st1:=by funext ρ st;first |(rw[aF];done) |(rw[aF];rfl)
   cases s with
   |nil=>cases h
   |cons x xs=>
    have h:((wY T c a x ||yD T c a x) && yE T c r xs)=true:=h;rw[zaa,za3]at h;rw[ee];refine Jj ?_ (WC r X W c xs F hp h.2);rcases h.1 with h1 |h1
    ·exact PST.of (sS a X W c x F hp h1)
    ·exact VG X W c x F h1
end
structure aP where
 name:Str
 aE:Stmt
 N:List Str
 fn:Fn
 qual:Str
 /-- the class whose method it is -/
 own:Option Str
 /-- whether its exceptions may have a context -/
 hot:Bool:=false
def aP.ps(d:aP):List Str:=d.N.take d.fn.np
def Lv(N P:List Str)(sc:Scope):Bool:=(match sc.kind with | .function=>true |_=>false) && !sc.isCoroutine && !sc.isGenerator && decide N.Nodup && (P.all fun x=>match sc.names.lookup x with |some .local=>true |some .cell=>true |_=>false) && (sc.names.all fun y=>match y.2 with | .free=>false |_=>true)
theorem vB{N:List Str}{n:Nat}{sc:Scope}(h:Lv N (N.take n) sc=true):FnScope N (N.take n) sc:=by
 unfold Lv at h;simp only[zaa,zai,zab,zaK]at h;obtain⟨⟨⟨⟨⟨h1,h2⟩,h3⟩,h4⟩,h5⟩,h6⟩:=h;refine⟨?_,h2,h3,h4,?_,fun x hx=>?_,fun y hy e=>?_⟩
 ·split at h1
  ·assumption
  ·cases h1
 ·rw[za7];by_cases hn:n<=N.length
  ·rw[zcc hn]
  ·rw[Nat.min_eq_right (by omega),za6,zaN (by omega)]
 ·have:=h5 x hx;split at this
  ·exact .inl ‹_›
  ·exact .inr ‹_›
  ·cases this
 ·have:=h6 y hy;rw[e]at this;cases this
def z8(ps:List Str)(a:Arguments):Bool:=a.posonlyargs.isEmpty && decide (a.args.map (·.arg)=ps) && a.vararg.isNone && a.kwonlyargs.isEmpty && a.kw_defaults.isEmpty && a.kwarg.isNone && a.defaults.isEmpty
def FO(T:Tab)(d:aP):Ck:=⟨d.N,defScope d.aE,fun _=>true,if T.lam.contains d.name && d.own.isNone then some d.name else none,true,d.hot⟩
def bB(T:Tab)(d:aP):Bool:=decide (d.own≠none\/d.qual=d.name) && decide (d.fn.np<=d.N.length) && decide (d.fn.ns=d.N.length) && Lv d.N d.ps (defScope d.aE) && (gT T (FO T d) d.fn.body (defBody d.aE) ||(yE T (FO T d) d.fn.body (defBody d.aE) && (defScope d.aE).names.all (fun y=>match y.2 with | .cell=>false |_=>true) && decide (1<=d.ps.length)))
def z9(mg:Str->Option Value)(y:Str)(v:V):Prop:=(∃ C,mg y=some (.ref C)/\v= .ref C)\/(∃ T,mg y=none/\bootBuiltins y=some (.type T)/\y≠"__name__"/\v= .ty T)
def Lw(K:PySem.W.Frag)(mg:Str->Option Value)(c:Cl)(C:Addr):Bool->Prop
 |true=>∃ (fI:Addr) (fd:FuncData) (aE:Stmt) (x qual b:Str) (C0:Addr) (mc:Value),Fun K x qual aE fI fd/\FnScope (bx::c.az) (bx::c.az) (defScope aE)/\OexC K C/\PySem.W.findIn K (.ref C) "__init__" = some (some (.ref fI))/\PySem.W.typeIn K (.ref fI)=some (.type "function")/\
  mg b=some (.ref C0)/\PySem.W.readsIn K C0 mc=true/\PySem.W.specialIn K (.ref C0) "__getattribute__" = some (some (.builtin "type.__getattribute__"))/\PySem.W.findCls K (.ref C0) mc "__init__" = some (.val (.builtin "ValueError.__init__"))/\oW b c.az (defScope aE) (defBody aE)=true/\
  Binds K fd (bx::c.az) []/\c.az≠[]/\c.az.length<=800
 |false=>∃ (bmB:List Value) (B n i:String),ExcBaseFacts B n i bmB/\PySem.W.excIn K C bmB n=true/\c.az=[]/\PySem.W.keepIn K (.ref C)=true/\PySem.W.subIn K (.ref C) (.type "BaseException")=some true/\PySem.W.typeIn K (.ref C)=some (.type "type")
structure yF (K:PySem.W.Frag) (mg:Str->Option Value) (ns:List Str) (c:Cl) (C:Addr):Prop where
 nm:mg c.name=some (.ref C)
 at_:PySem.W.nsIn K mainGlobals c.name=some (some (.ref C))
 ex:ExcC K C
 xf:XfC K C
 no:∀ f∈c.az,PySem.W.findIn K (.ref C) f=some none
 zJ:Lw K mg c C c.ini
 sub:∀ y∈ns,∀ v,z9 mg y v->PySem.W.kitOne K (.ref C) (oq v)=some (c.fV.contains y)/\PySem.W.exmOne K (.ref C) (oq v)=some (c.fV.contains y)
structure qH (K:PySem.W.Frag) (mg:Str->Option Value) (ns:List Str) (cl:List Cl):Prop where
 nm:∀ y∈ns,∃ v,z9 mg y v
 at_:∀ c∈cl,∃ C,yF K mg ns c C
theorem qH.ok{K:PySem.W.Frag}{mg:Str->Option Value}{ns:List Str}{cl:List Cl}(F:qH K mg ns cl){X:Cx}(hK:X.K=K)(hm:X.mg=mg):iP X ns cl:=by
 subst hK;subst hm;refine⟨F.nm,fun c hc=>?_⟩;obtain⟨C,f⟩:=F.at_ c hc;refine⟨C,f.nm,f.at_,f.ex,f.xf,f.no,?_,f.sub⟩;have mk:=f.zJ;cases hi:c.ini with
 |true=>rw[hi]at mk;obtain⟨fI,fd,aE,x,qual,b,C0,mc,F1,S,T,iC,tI,mb,rd,ga,vV,ib,bd,hne,h8⟩:=mk;exact⟨fI,fd,T,iC,tI,Mf F1 S T f.no hne mb rd ga vV ib,Hq F1 S T f.no hne mb rd ga vV ib,bd,hne,h8⟩
 |false=>rw[hi]at mk;obtain⟨bmB,B,n,i,E,q,hf,kp,sb,ty⟩:=mk;exact⟨bmB,B,n,i,E,q,hf,kp,raises_own sb ty⟩
def DAt(K:PySem.W.Frag)(mg:Str->Option Value)(T:Tab)(d:aP)(i:Nat)(fa:Addr)(fd:FuncData):Prop:=match d.own with
 |none=>mg d.name=some (.ref fa)/\Binds K fd d.ps []
 |some c=>(∀ C,PySem.W.nsIn K mainGlobals c=some (some (.ref C))->Meth K C d.name fa/\(d.name="__init__"->Mk K C fa))/\yz K fd d.ps (pJ T i)
def Jk(T:Tab)(defs:List aP):Bool:=T.obs.all fun o=>o.meths.all fun q=>match defs[q.2]? with
 |some d=>decide (d.own=some o.name) && decide (d.name=q.1)
 |none=>false
def De(T:Tab)(defs:List aP):Bool:=(List.range defs.length).all fun i=>match defs[i]? with
 |some d=>(d.own.isNone ||T.meth.contains i) && (d.hot == T.hot.contains i)
 |none=>false
theorem BW{T:Tab}{defs:List aP}(hM:De T defs=true){i:Nat}{d:aP}(h:defs[i]?=some d):d.hot=T.hot.contains i:=by have h5:=zai.mp hM i (List.mem_range.mpr (zak.mp h).1);rw[h]at h5;have h5:((d.own.isNone ||T.meth.contains i) && (d.hot == T.hot.contains i))=true:=h5;rw[zaa]at h5;exact zbA.mp h5.2
structure Facts (w:World) (K:PySem.W.Frag) (mg:Str->Option Value) (T:Tab) (Pr:bU) (defs:List aP):Prop where
 fns:∀ (i:Nat) (d:aP),defs[i]?=some d->∃ fa fd,Fun K d.name d.qual d.aE fa fd/\DAt K mg T d i fa fd
 glob:∀ (X:Cx),X.K=K->X.mg=mg->X.w=w->∀ (n:Nat) (x:Str) (b:Bool),T.iQ[n]?=some (x,b)->zW X Pr.glob[n]? x b
 bi:∀ x,T.mV.contains x=true->mg x=none
 cls:qH K mg T.cls T.exc
 obs:∀ o∈T.obs,∃ C,mg o.name=some (.ref C)/\PySem.W.nsIn K mainGlobals o.name=some (some (.ref C))/\Cls K C/\∀ f∈o.attrs,NoAttr K C f
 kJ:∀ c1 c2,T.kJ.contains (c1,c2)=true->IS K mg c1 c2
theorem BX{Pr:bU}{f:Nat}{fn:Fn}(h:Pr.fns[f]?=some fn)(k:Nat)(vs:List Val)(st:aa):aD Pr k f vs st= .no\/vs.length=fn.np:=by
 cases k with
 |zero=>exact .inl rfl
 |succ k=>
  unfold aD;rw[h];dsimp only;unfold j7;by_cases hl:vs.length=fn.np
  ·exact .inr hl
  ·rw[zaj hl];exact .inl rfl
section
variable {P:Program} {w:World} {K:PySem.W.Frag} {mg:Str->Option Value} {base:Heap} {T:Tab} {Pr:bU} {defs:List aP}
theorem RS(A:Facts w K mg T Pr defs){X:Cx}(hK:X.K=K)(hm:X.mg=mg):kg X T.obs:=by subst hK;subst hm;refine⟨fun o ho=>?_⟩;obtain⟨C,h1,h2,h3,h4⟩:=A.obs o ho;exact⟨C,h1,h2,h3,h4⟩
theorem RW(A:Facts w K mg T Pr defs){X:Cx}(hK:X.K=K)(hm:X.mg=mg):∀ c1 c2,T.kJ.contains (c1,c2)=true->Ls X c1 c2:=by subst hK;subst hm;exact A.kJ
theorem Jl(hb:Jk T defs=true){cn m:Str}{i:Nat}(h:cD T.obs cn m=some i):∃ d,defs[i]?=some d/\d.own=some cn/\d.name=m:=by
 unfold cD at h;obtain⟨o,h1,h2⟩:=zax.mp h;obtain⟨hm,hn⟩:=rY h1;have h3:=zai.mp (zai.mp hb o hm) (m,i) (by
  clear h hm hn h1;generalize o.meths=l at h2;induction l with
  |nil=>cases h2
  |cons p l ih=>
   obtain⟨a,b⟩:=p;by_cases hf:m=a
   ·subst hf;simp only[za8,zbv]at h2;cases h2;exact zac
   ·have e3:(m == a)=false:=by simpa using hf
    simp only[za8,e3]at h2;exact zae _ (ih h2))
 dsimp only at h3;cases hd:defs[i]? with
 |none=>rw[hd]at h3;cases h3
 |some d=>rw[hd]at h3;have h3:(decide (d.own=some o.name) && decide (d.name=m))=true:=h3;rw[zaa,zab,zab]at h3;rw[hn]at h3;exact⟨d,rfl,h3.1,h3.2⟩
theorem Jm(A:Facts w K mg T Pr defs)(kb:K.In base)(gb:base.Ns mainGlobals mg)(tb:∀ x∈T.lam,∃ ca P,PySem.W.tabIn K x=some (ca,P)/\LamX.TabB base mg ca P)(sm:∃ o,base.get? sysModules=some o)(hT:T.fns=defs.map (·.name))(hP:Pr.fns=defs.map (·.fn))(hC:Pr.cls=T.exc)(hO:Pr.obs=T.obs)(hB:Jk T defs=true)(hM:De T defs=true)(hc:defs.all (bB T)=true)(k:Nat):
 ∀ (i:Nat) (d:aP),defs[i]?=some d->∀ fa fd,Fun K d.name d.qual d.aE fa fd->(d.own=none->mg d.name=some (.ref fa))->GFn (gj d.hot P w) P w K mg base (2 * k+4) fa fd d.ps (kO ⟨K,mg⟩ d.ps.length (aD Pr k i)):=by
 induction k with
 |zero=>intro i d hd fa fd F hmg;refine⟨fun _ _ _ _ h=>h.1,fun A outer s H args us vs Q E hr hg e0 hb r h=>?_⟩;obtain⟨_,m,st,xs,_,_,o⟩:=h;exact o.elim
 |succ k ih=>
  intro i d hd fa fd F hmg;have hck:=zai.mp hc d (zag hd);unfold bB at hck;simp only[zaa,zab]at hck;obtain⟨⟨⟨⟨h0,h1⟩,h2⟩,h3⟩,h4⟩:=hck;have hps:d.ps.length=d.fn.np:=by unfold aP.ps;rw[za7];omega
  have fit:∀ X W,Body d.hot P w K mg base d.N (defScope d.aE) (2 * k+5) fd X W->gm T (Pr.env k) X W (FO T d):=fun X W B=>by
   have hu:X.A.units+200<cLine:=by have:=B.room.un;omega
   refine⟨B.N,B.sc,fun x _=>B.fn x,⟨B.calm,by rw[B.N];exact(vB h3).nd,hu,B.gd,by rw[B.base];exact sm⟩,fun _ f x hf hme=>?_,A.glob X B.K B.mg B.w,fun x hx=>by rw[B.mg];exact A.bi x hx,B.tk,hC,A.cls.ok B.K B.mg,B.room.mono (by omega),hO,RS A B.K B.mg,fun _ cn m j hj C hC0=>?_,RW A B.K B.mg,fun x hx=>?_⟩
   rotate_left
   rotate_left
   ·have hx:(if(T.lam.contains d.name && d.own.isNone)=true then some d.name else none)=some x:=hx;split at hx
    ·rename_i hin;rw[zaa]at hin;obtain⟨hin,hno⟩:=hin;have hno:d.own=none:=by simpa using hno
     have hmg:=hmg hno;have hqn:d.qual=d.name:=h0.resolve_left fun z=>z hno;obtain rfl:d.name=x:=zam hx;obtain⟨oc,od,kV,doc,pm,an,cdv,ct,osl,hfd,lk,hcd⟩:=F.ex;obtain⟨ca,Pa,t1,t2⟩:=tb d.name (List.contains_iff_mem.mp hin);refine⟨by rw[B.qual,hfd];show d.qual++_=_;rw[hqn],B.room.mono (by omega),ca,Pa,by rw[B.K];exact t1,?_,by rw[B.base,B.mg];exact t2⟩;rw[B.code];exact PySem.W.law_code kb gb t1 hmg (kb _ _ lk) rfl
    ·cases hx
   rw[hT,zat]at hf;cases hd':defs[f]? with
   |none=>rw[hd']at hf;cases hf
   |some d'=>
    rw[hd']at hf;cases hf;obtain⟨fa',fd',F',jx⟩:=A.fns f d' hd';have hno:d'.own=none:=by have h5:=zai.mp hM f (List.mem_range.mpr (zak.mp hd').1);rw[hd']at h5;have h5:((d'.own.isNone ||T.meth.contains f) && (d'.hot == T.hot.contains f))=true:=h5;rw[zaa,hme,zbD]at h5;simpa using h5.1
    unfold DAt at jx;rw[hno]at jx;obtain⟨m1,m2⟩:=jx;have hck':=zai.mp hc d' (zag hd');unfold bB at hck';simp only[zaa,zab]at hck';have hps':d'.ps.length=d'.fn.np:=by unfold aP.ps;rw[za7];omega
    have hg:=ih f d' hd' fa' fd' F' fun _=>m1;rw[BW hM hd']at hg;refine⟨fa',fd',d'.ps,2 * k+4,by rw[B.mg];exact m1,by rw[B.K];exact F'.kp,by rw[B.K];exact m2,?_,B.room.mono (by omega),fun vs st=>?_⟩
    ·have ex:gx X=⟨K,mg⟩:=by unfold gx;rw[B.K,B.mg]
     rw[ex,B.prog,B.w,B.K,B.mg,B.base];exact hg
    ·rw[hps'];exact BX (by rw[hP,zat,hd'];rfl) k vs st
   ·obtain⟨d',hd',ho',hn'⟩:=Jl hB hj;obtain⟨fa',fd',F',jx⟩:=A.fns j d' hd';unfold DAt at jx;rw[ho']at jx;obtain⟨m1,m2⟩:=jx;obtain⟨m3,m4⟩:=m1 C (by rw[←B.K];exact hC0);have hck':=zai.mp hc d' (zag hd');unfold bB at hck';simp only[zaa,zab]at hck';have hps':d'.ps.length=d'.fn.np:=by unfold aP.ps;rw[za7];omega
    have hg:=ih j d' hd' fa' fd' F' fun z=>by rw[ho']at z;cases z
    rw[BW hM hd']at hg;rw[hn']at m3 m4;refine⟨fa',fd',d'.ps,2 * k+4,by rw[B.K];exact m3,by rw[B.K];exact m2,?_,B.room,fun vs st=>?_,fun z=>by rw[B.K];exact m4 z⟩
    ·have ex:gx X=⟨K,mg⟩:=by unfold gx;rw[B.K,B.mg]
     rw[ex,B.prog,B.w,B.K,B.mg,B.base];exact hg
    ·rw[hps'];exact BX (by rw[hP,zat,hd'];rfl) k vs st
  have frm:∀ X W,Body d.hot P w K mg base d.N (defScope d.aE) (2 * k+5) fd X W->Lu X:=fun X W B=>⟨B.po,B.ex,B.stk,B.fr⟩;rw[za3]at h4;have g:GFn (gj d.hot P w) P w K mg base (2 * k+5+1) fa fd d.ps (kO ⟨K,mg⟩ d.ps.length (j7 (Pr.env k) d.fn)):=by
   rcases h4 with h4 |h4
   ·exact gfn_of (b:=d.hot) (P:=P) (w:=w) (mg:=mg) (base:=base) (k:=2 * k+5) (Nv:=Pr.env k) (fn:=d.fn) F (vB h3) hps.symm h2 fun X W B=>xV d.fn.body X W (FO T d) (defBody d.aE) (fit X W B) (frm X W B) h4
   ·simp only[zaa,zab]at h4;obtain⟨⟨h4,h5⟩,h6⟩:=h4;exact MW (b:=d.hot) (P:=P) (w:=w) (mg:=mg) (base:=base) (k:=2 * k+5) (Nv:=Pr.env k) (fn:=d.fn) F (vB h3) hps.symm h2 (fun y hy e=>by have:=zai.mp h5 y hy;rw[e]at this;cases this) h6 fun X W B=>WC d.fn.body X W (FO T d) (defBody d.aE) (fit X W B) (frm X W B) h4
  have e:(fun vs st=>aD Pr (k+1) i vs st)=j7 (Pr.env k) d.fn:=by
   funext vs st
   show (match Pr.fns[i]? with |some fn=>j7 _ fn vs st |none=>.no)=_
   rw[hP,zat,hd];rfl
  show GFn (gj d.hot P w) P w K mg base (2 * k+5+1) fa fd d.ps (kO ⟨K,mg⟩ d.ps.length (fun vs st=>aD Pr (k+1) i vs st));rw[e];exact g
end
mutual
def nJ(K:PySem.W.Frag):PyData->Value->Bool
 | .none,.none=>true
 | .bool b,.bool c=>b == c
 | .int i,.int j _=>i == j
 | .str x,.str y _=>decide (x=y)
 | .tuple ds,.ref a=>match K.lookup a with
   |some ⟨.type c,none,.seq its _,_⟩=>decide (c="tuple") && decide (its.size<=sizeLine) && jy K ds its.toList
   |_=>false
 |_,_=>false
def jy(K:PySem.W.Frag):List PyData->List Value->Bool
 | [],[]=>true
 |d::ds,u::us=>nJ K d u && jy K ds us
 |_,_=>false
end
mutual
theorem wZ{K:PySem.W.Frag}:∀ (d:PyData) (u:Value),nJ K d u=true->∃ v,RelV v u/\∀ H m,bG K H m v d
 | .none,u,h=>by cases u <;> first |(cases h;done) |exact⟨.non,rfl,fun _ _=>.non⟩
 | .bool b,u,h=>by
   cases u <;> first |(cases h;done) |skip
   rename_i c;have h:(b == c)=true:=h;obtain rfl:=eq_of_beq h;exact⟨.bl b,rfl,fun _ _=>.bl b⟩
 | .int b,u,h=>by
   cases u <;> first |(cases h;done) |skip
   rename_i c t;have h:(b == c)=true:=h;obtain rfl:=eq_of_beq h;exact⟨.int b,⟨t,rfl⟩,fun _ _=>.int b⟩
 | .str b,u,h=>by
   cases u <;> first |(cases h;done) |skip
   rename_i c t;have h:decide (b=c)=true:=h;obtain rfl:=zad h;exact⟨.str b,⟨t,rfl⟩,fun _ _=>.str b⟩
 | .tuple ds,u,h=>by
   cases u <;> first |(cases h;done) |skip
   rename_i a;unfold nJ at h;split at h
   ·rename_i c its n sl hl;simp only[zaa,zab]at h;obtain⟨⟨rfl,h2⟩,h3⟩:=h;obtain⟨vs,r1,r2⟩:=Aa ds _ h3;exact⟨.ref a,rfl,fun H m=>.tup (.inr ⟨_,its,n,hl,rfl,rfl,h2,r1,rfl⟩) (r2 H m)⟩
   ·cases h
 | .list _,u,h=>by cases u <;> cases h
 | .dict _,u,h=>by cases u <;> cases h
theorem Aa{K:PySem.W.Frag}:∀ (ds:List PyData) (us:List Value),jy K ds us=true->∃ vs,Vals vs us/\∀ H m,aY K H m vs ds
 | [],[],h=>⟨[],.nil,fun _ _=>.nil⟩
 | [],_::_,h=>by cases h
 |_::_,[],h=>by cases h
 |d::ds,u::us,h=>by have h:(nJ K d u && jy K ds us)=true:=h;rw[zaa]at h;obtain⟨v,r1,r2⟩:=wZ d u h.1;obtain⟨vs,r3,r4⟩:=Aa ds us h.2;exact⟨v::vs,.cons r1 r3,fun H m=>.cons (r2 H m) (r4 H m)⟩
end
theorem Jo{X:Cx}{x:Str}{u:Value}{d:PyData}{o:Option PyData}(ho:o=some d)(hm:X.mg x=some u)(h:nJ X.K d u=true):zW X o x false:=by obtain⟨v,r1,r2⟩:=wZ d u h;exact⟨d,u,v,ho,hm,r1,r2⟩
def keysOf:List (PyData×PyData)->List Str
 | []=>[]
 |(.str x,_)::r=>x::keysOf r
 |_::r=>keysOf r
def strKeys:List (PyData×PyData)->Bool
 | []=>true
 |(.str _,_)::r=>strKeys r
 |_=>false
def pK(K:PySem.W.Frag)(a:Addr):List Value:=match K.lookup a with
 |some ⟨_,_,.dict es _,_⟩=>es.toList.map (·.val)
 |_=>[]
theorem BY{K:PySem.W.Frag}{P:Params}:∀ {kvs:List (PyData×PyData)} {l:List DictEntry},strKeys kvs=true->l.map He.keyOf=He.keysIn P (keysOf kvs)->jy K (kvs.map (·.2)) (l.map (·.val))=true->
 (l.any (·.refKey)=false)/\∀ z:Str,(gp kvs z=none/\l.find? (·.key.isStr z)=none)\/∃ d e v,gp kvs z=some d/\l.find? (·.key.isStr z)=some e/\RelV v e.val/\∀ H m,bG K H m v d
 | [],[],_,_,_=>⟨rfl,fun _=>.inl ⟨rfl,rfl⟩⟩
 | [],_::_,_,h,_=>by cases h
 |(.str x,d)::kvs,[],_,h,_=>by cases h
 |(.str x,d)::kvs,e::l,hs,h,hv=>by
  have h1:He.keyOf e::l.map He.keyOf=some (x,PyData.keyHash P x)::He.keysIn P (keysOf kvs):=h;injection h1 with h2 h3;have hv2:(nJ K d e.val && jy K (kvs.map (·.2)) (l.map (·.val)))=true:=hv;rw[zaa]at hv2;obtain⟨hv3,hv4⟩:=hv2;obtain⟨i1,i2⟩:=BY (K:=K) (P:=P) (kvs:=kvs) (l:=l) hs h3 hv4;unfold He.keyOf at h2;split at h2
  ·rename_i y t hk;obtain⟨rfl,_⟩:=Prod.mk.inj (zam h2);refine⟨?_,fun z=>?_⟩
   ·rw[zbn,i1,zbD];simp[DictEntry.refKey,hk]
   ·rw[zbZ,PySem.W.isStr_of,hk];unfold gp;by_cases hz:y=z
    ·subst hz;have e1:Value.isStrOf y (.str y t)=true:=by simp[Value.isStrOf]
     rw[e1,zah rfl];obtain⟨v,r1,r2⟩:=wZ d e.val hv3;exact .inr ⟨d,e,v,rfl,rfl,r1,r2⟩
    ·have e1:Value.isStrOf z (.str y t)=false:=by simp[Value.isStrOf,hz]
     rw[e1,zaj (by simp[hz])];exact i2 z
  ·cases h2
 |(.none,_)::_,_,h,_,_=>by cases h
 |(.bool _,_)::_,_,h,_,_=>by cases h
 |(.int _,_)::_,_,h,_,_=>by cases h
 |(.list _,_)::_,_,h,_,_=>by cases h
 |(.tuple _,_)::_,_,h,_,_=>by cases h
 |(.dict _,_)::_,_,h,_,_=>by cases h
theorem NZ{X:Cx}{x:Str}{a:Addr}{kvs:List (PyData×PyData)}{o:Option PyData}(ho:o=some (.dict kvs))(hm:X.mg x=some (.ref a))(hs:strKeys kvs=true)(hk:He.dicW X.K a=some (He.keysIn X.w.params (keysOf kvs)))(hv:jy X.K (kvs.map (·.2)) (pK X.K a)=true):zW X o x true:=by
 obtain⟨es,n,D⟩:=He.dicW_ok hk;refine⟨kvs,ho,a,es,n,hm,D,?_⟩;have hw:pK X.K a=es.toList.map (·.val):=by unfold pK;rw[D.at_]
 rw[hw]at hv;have hk':es.toList.map He.keyOf=He.keysIn X.w.params (keysOf kvs):=by
  unfold He.dicW at hk;rw[D.at_]at hk;dsimp only at hk;split at hk
  ·exact zam hk
  ·cases hk
 obtain⟨i1,i2⟩:=BY (K:=X.K) hs hk' hv;intro z;rcases i2 z with⟨h1,h2⟩|⟨d,e,v,h1,h2,h3,h4⟩
 ·refine .inl ⟨h1,?_⟩;unfold PySem.W.nsIn;rw[D.at_];dsimp only;rw[h2];dsimp only;rw[zaj (by rw[i1];exact zaP)]
 ·refine .inr ⟨d,e.val,v,h1,?_,h3,h4⟩;unfold PySem.W.nsIn;rw[D.at_];dsimp only;rw[h2]
structure se (K:PySem.W.Frag) (h:Heap) (ts:List Str) (L:List (Addr×Addr)):Prop where
 at_:ts.map (PySem.W.tabIn K)=L.map some
 nd:(L.map (·.2)).Nodup
 noK:∀ q∈L,K.lookup q.2=none
 code:∀ q∈L,PySem.W.CodeHd h q.1 q.2
 get:∀ q∈L,h.get? q.2=some { cls:=.none,data:=.fields #[] }
theorem se.mem{K:PySem.W.Frag}{h:Heap}{ts:List Str}{L:List (Addr×Addr)}(T:se K h ts L){x:Str}(hx:x∈ts):∃ ca P,PySem.W.tabIn K x=some (ca,P)/\(ca,P)∈L:=by
 have h1:PySem.W.tabIn K x∈L.map some:=by rw[←T.at_];exact zaz.mpr ⟨x,hx,rfl⟩
 obtain⟨q,h2,h3⟩:=zaz.mp h1;exact⟨q.1,q.2,h3.symm,h2⟩
theorem Jp{K:PySem.W.Frag}{h:Heap}{ts:List Str}{L:List (Addr×Addr)}{H:Hp}(T:se K h ts L)(hH:∀ q∈L,H q.2=some (.tbl #[])):ak K H ⟨L.map fun q=>some q.2,fun _=>False⟩ (ts.map Cell.tab) where
 len:=by have:=zbj List.length T.at_;simp only[zaw]at this⊢;exact this.symm
 inj:=fun i j a h1 h2=>by
  have nd:=T.nd;have e1:(L.map (·.2))[i]?=some a:=by
   rw[zat]at h1⊢;cases hq:L[i]? with
   |none=>rw[hq]at h1;cases h1
   |some q=>rw[hq]at h1;exact zbj some (zam (zam h1))
  have e2:(L.map (·.2))[j]?=some a:=by
   rw[zat]at h2⊢;cases hq:L[j]? with
   |none=>rw[hq]at h2;cases h2
   |some q=>rw[hq]at h2;exact zbj some (zam (zam h2))
  exact(List.getElem?_inj (zak.mp e1).1 nd).mp (e1.trans e2.symm)
 dead:=fun n h=>by
  rw[zat]at h;cases hq:L[n]? with
  |none=>rw[hq]at h;cases h
  |some q=>rw[hq]at h;cases h
 np:=fun a _ z=>z
 live:=fun a h=>by obtain⟨q,h1,h2⟩:=zaz.mp h;cases h2;rw[hH q h1];exact fun z=>nomatch z
 trk:=fun a z=>z.elim
 cell:=fun n a c h1 h2=>by
  rw[zat]at h1 h2;cases hq:L[n]? with
  |none=>rw[hq]at h1;cases h1
  |some q=>
   rw[hq]at h1;cases h1;cases hx:ts[n]? with
   |none=>rw[hx]at h2;cases h2
   |some x=>
    rw[hx]at h2;cases h2;have e:(ts.map (PySem.W.tabIn K))[n]?=(L.map some)[n]?:=by rw[T.at_]
    rw[zat,zat,hx,hq]at e;have e:PySem.W.tabIn K x=some q:=zam e;exact⟨q.1,e,#[],hH q (zag hq),True.intro,fun pos cv hc=>by have z:codeAmong pos []=some cv:=hc;simp[codeAmong]at z⟩
theorem FP{hb:Bool}{P:Program}{w:World}{K:PySem.W.Frag}{mg mb:Str->Option Value}{k:Nat}{fa a:Addr}{fd:FuncData}{x:Str}{F:List Val->aa->R Val}{s₁:Shared}{vs:List Value}{ns:List Int}{mm:Str->Option Value}{ts:List Str}{L:List (Addr×Addr)}
 (KX:K.In s₁.heap) (hns:s₁.heap.Ns mainGlobals mg) (hbn:s₁.heap.Ns builtinsNs mb) (hbb:∀ x:Str,x≠"__name__"->mb x=bootBuiltins x) (hlim:s₁.heap.NoLimit) (hsm:s₁.heap.Ns sysModules mm) (hgen:s₁.gens = #[])
 (hbm:∃ (bm:Addr) (ob:Obj),mg "__builtins__" = some (.ref bm)/\bm≠builtinsNs/\s₁.heap.get? bm=some ob/\ob.cls= .type "module"/\ob.dict=some builtinsNs/\ob.data= .plain) (tb:se K s₁.heap ts L)
 (ha:s₁.heap.get? a=some { cls:=.type "list",data:=.seq vs.toArray }) (hi:IntsAre vs ns) (hl:ns.length<=sizeLine) (hr:Room k callerA)
 (hF:∀ base:Heap,K.In base->base.Ns mainGlobals mg->(∀ x∈ts,∃ ca P,PySem.W.tabIn K x=some (ca,P)/\LamX.TabB base mg ca P)->(∃ o,base.get? sysModules=some o)->GFn (gj hb P w) P w K mg base k fa fd [x] (kO ⟨K,mg⟩ 1 F)) (hbd:Binds K fd [x] [])
 (law:∃ st,F [.bW ns] (ts.map Cell.tab)= .ok (.d (.bool true)) st) :
 codeAny (model P w) callerA (.call (.ref fa) ⟨[.ref a],[]⟩) (fun r s'=>r= .ok (.ret (.bool true))/\OldK s₁.heap s'.heap/\s'.os=s₁.os/\AllBare s'.gens) s₁:=by
 have rv:=vals_ints hi;have hlen:=hi.length;have isT:∀ b:Addr,b∈L.map (·.2)->s₁.heap.get? b=some { cls:=.none,data:=.fields #[] }:=fun b hb=>by obtain⟨p,hp,e⟩:=zaz.mp hb;rw[←e];exact tb.get p hp
 have memT:∀ p∈L,p.2∈L.map (·.2):=fun p hp=>zaz.mpr ⟨p,hp,rfl⟩;have aT:a∉L.map (·.2):=fun z=>by have q:=isT a z;rw[ha]at q;have z':Data.seq vs.toArray _=Data.fields #[]:=zbj Obj.data (zam q);cases z'
 have main:∀ H:Hp,(∀ q∈L,H q.2=some (.tbl #[]))->(∀ b,H b=none\/b∈L.map (·.2)\/∃ o xs,H b=some (.frz o (.lst xs)))->(SqL K H a (ns.map V.int)/\((∃ o,H a=some (.frz o (.lst (ns.map V.int))))\/KL K a (ns.map V.int)))->HOk P w H s₁.heap->(∀ b,H b≠none->b=a\/b∈L.map (·.2))->(H a≠none->K.lookup a=none)->
  codeAny (model P w) callerA (.call (.ref fa) ⟨[.ref a],[]⟩) (fun r s'=>r= .ok (.ret (.bool true))/\OldK s₁.heap s'.heap/\s'.os=s₁.os/\AllBare s'.gens) s₁:=by
  intro H hH hO hS hok hA hK;have noD:∀ {b:Addr} {o:Obj},s₁.heap.get? b=some o->(∀ vs n,o.data≠.seq vs n)->o.data≠.fields #[]->H b=none:=fun {b o} e h1 h2=>by
   by_cases q:H b=none
   ·exact q
   ·rcases hA b q with e' |e'
    ·rw[e',ha]at e;cases e;exact(h1 _ _ rfl).elim
    ·rw[isT b e']at e;cases e;exact(h2 rfl).elim
  have plain:∀ {b:Addr} {o:Obj} {es:Array DictEntry} {ep:Nat},s₁.heap.get? b=some o->o.data= .dict es ep->H b=none:=fun {b o es ep} e d=>noD e (fun vs n z=>by rw[d]at z;cases z) fun z=>by rw[d]at z;cases z
  have hidden:∀ {b:Addr} {o:Obj},s₁.heap.get? b=some o->H b=none->(hidT s₁.heap H).get? b=some o:=fun e n=>hidT_get e n;have dicts:∀ {b:Addr} {m:Str->Option Value},s₁.heap.Ns b m->(hidT s₁.heap H).Ns b m:=fun {b m} ⟨o,es,ep,e,d,r⟩=>⟨o,es,ep,hidden e (plain e d),d,r⟩;have kb:K.In (hidT s₁.heap H):=fun b o e=>hidden (KX b o e) (by
   by_cases q:H b=none
   ·exact q
   ·rcases hA b q with e' |e'
    ·rw[e']at q e;rw[hK q]at e;cases e
    ·obtain⟨p,hp,ep⟩:=zaz.mp e';rw[←ep,tb.noK p hp]at e;cases e)
  have hmod:Mod K mg (hidT s₁.heap H):=⟨kb,dicts hns,⟨mb,dicts hbn,hbb⟩,let⟨mc,h1,h2⟩:=hlim;⟨mc,dicts h1,h2⟩⟩;have env0:Env0 P w K mg (hidT s₁.heap H) callerA [] s₁ H:=⟨rfl,hmod,fun b o e=>of_hidT e,Nat.le_of_eq (hidT_size _ _),trivial,fun b hb=>absurd (show b∈([]:List Addr)from hb) (by simp),hok,.of_eq hgen⟩;have sm:∃ o,(hidT s₁.heap H).get? sysModules=some o:=let⟨o,_,_,e,_⟩:=dicts hsm;⟨o,e⟩
  have TB:∀ p∈L,LamX.TabB (hidT s₁.heap H) mg p.1 p.2:=fun p hp=>by
   have hTp:=tb.get p hp;refine⟨?_,?_,fun z=>?_⟩
   ·obtain⟨o,us,file,tf,flags,tg,inF,text,tt,e1,r1,r2,r3,r4,r5,r6,r7,r8,hne⟩:=tb.code p hp;refine⟨o,us,file,tf,flags,tg,inF,text,tt,hidden e1 (noD e1 (fun vs n z=>?_) fun z=>?_),r1,r2,r3,r4,r5,r6,r7,r8,hne⟩
    ·rw[r2]at z;cases z
    ·rw[r2]at z;cases z;simp at r3
   ·obtain⟨bm,ob,b1,b2,b3,b4,b5,b6⟩:=hbm;have nG:bm≠mainGlobals:=fun q=>by
     obtain⟨o,es,ep,e,hd,_⟩:=hns;rw[q,e]at b3;cases b3;rw[hd]at b6;cases b6
    have nP:bm≠p.2:=fun q=>by rw[q,hTp]at b3;cases b3;cases b6
    refine⟨bm,ob,b1,b2,nG,nP,hidden b3 (noD b3 (fun vs n z=>?_) fun z=>?_),b4,b5,b6⟩
    ·rw[b6]at z;cases z
    ·rw[b6]at z;cases z
   ·obtain⟨o,es,ep,e,hd,_⟩:=hns;rw[z,hTp]at e;cases e;cases hd
  have TBx:∀ x∈ts,∃ ca P,PySem.W.tabIn K x=some (ca,P)/\LamX.TabB (hidT s₁.heap H) mg ca P:=fun x hx=>by obtain⟨ca,Pa,h1,h2⟩:=tb.mem hx;exact⟨ca,Pa,h1,TB _ h2⟩
  have bind:=hbd s₁ [.ref a] KX rfl;rw[zau]at bind;have hsp:kO ⟨K,mg⟩ 1 F [.ref a] H (fun v _=>v= .bl true) fun _ _ _=>False:=by
   obtain⟨st,hst⟩:=law;refine⟨rfl,⟨L.map fun q=>some q.2,fun _=>False⟩,ts.map Cell.tab,[.bW ns],Jp tb hH,.cons (.bW ?_) .nil,?_⟩
   ·rcases hS.2 with⟨o,z⟩|z
    ·refine .inl ⟨o,z,fun y=>?_,fun y=>y⟩;obtain⟨q,h1,h2⟩:=zaz.mp y;have h2:q.2=a:=zam h2;exact aT (by rw[←h2];exact memT q h1)
    ·exact .inr z
   ·rw[hst];exact fun m' H' _ _ x rx=>g8 rx
  refine codeAny_mono ((hF _ kb (dicts hns) TBx sm).run callerA [] s₁ H ⟨[.ref a],[]⟩ [.ref a] [.ref a] _ _ hr rfl env0 bind (.cons rfl .nil) hsp) fun r s' h=>?_;cases r with
  |error e=>exact(gj.no h).elim
  |ok fl=>
   cases fl with
   |next=>exact h.elim
   |brk=>exact h.elim
   |cont=>exact h.elim
   |ret u=>
    obtain⟨v,H',os,bare,un,hok',r',q⟩:=h;obtain rfl:v= .bl true:=q;obtain rfl:u=Value.bool true:=r';have key:∀ b o,b∉L.map (·.2)->s₁.heap.get? b=some o->s'.heap.get? b=some o:=fun b o nb e=>by
     rcases hO b with z |z |⟨ob,xs,z⟩
     ·exact un.keep b o e z (by intro z;exact absurd (show b∈([]:List Addr)from z) (by simp)) (by simp)
     ·exact absurd z nb
     ·obtain⟨e1,_⟩:=hok b _ z;obtain⟨e2,_⟩:=hok' b _ (un.frzs b ob _ z);rw[e]at e1;rw[zam e1];exact e2
    have grown:∀ p∈L,∃ more:Array Value,s'.heap.get? p.2=some { cls:=.none,data:=.fields more }:=fun p hp=>by obtain⟨more,z⟩:=un.tbls p.2 #[] (hH p hp);exact⟨_,hok' p.2 _ z⟩
    refine⟨rfl,⟨fun b o e=>?_,fun b o e=>?_⟩,os,bare⟩
    ·by_cases hb:b∈L.map (·.2)
     ·obtain⟨p,hp,ep⟩:=zaz.mp hb;obtain⟨more,hm⟩:=grown p hp;rw[←ep]at e⊢;rw[tb.get p hp]at e;cases e;exact .inr (.inl ⟨((tb.code p hp).tab (tb.get p hp)).isCodeTable,rfl,#[],more,rfl,by rw[Array.empty_append];exact hm⟩)
     ·exact .inl (key b o hb e)
    ·by_cases hb:b∈L.map (·.2)
     ·obtain⟨p,hp,ep⟩:=zaz.mp hb;obtain⟨more,hm⟩:=grown p hp;rw[←ep];exact⟨_,hm⟩
     ·exact⟨o,key b o hb e⟩
 cases hk:K.lookup a with
 |some o=>
  have e:=KX a o hk;rw[ha]at e;obtain rfl:=zam e;have hKL:KL K a (ns.map V.int):=⟨_,vs.toArray,_,hk,rfl,rfl,rfl,by rw[zba,hlen];exact hl,by simpa using rv⟩;refine main (fun b=>if b∈L.map (·.2)then some (.tbl #[])else none) (fun p hp=>zah (memT p hp)) (fun b=>?_) ⟨.inr hKL,.inr hKL⟩ (fun b u z=>?_) (fun b z=>?_) fun z=>absurd (show (if a∈L.map (·.2)then some (HO.tbl #[])else none)=none from zaj aT) z
  ·by_cases hb:b∈L.map (·.2)
   ·exact .inr (.inl hb)
   ·exact .inl (zaj hb)
  ·by_cases hb:b∈L.map (·.2)
   ·have z':=(zah hb).symm.trans z;cases z';exact isT b hb
   ·have z':=(zaj hb).symm.trans z;cases z'
  ·by_cases hb:b∈L.map (·.2)
   ·exact .inr hb
   ·exact absurd (zaj hb) z
 |none=>
  have eA:(fun b=>if b=a then some (HO.frz { cls:=.type "list",data:=.seq vs.toArray } (.lst (ns.map V.int)))else if b∈L.map (·.2)then some (.tbl #[])else none) a=some (HO.frz { cls:=.type "list",data:=.seq vs.toArray } (.lst (ns.map V.int))):=zah rfl;refine main (fun b=>if b=a then some (.frz { cls:=.type "list",data:=.seq vs.toArray } (.lst (ns.map V.int)))else if b∈L.map (·.2)then some (.tbl #[])else none) (fun p hp=>(zaj (show ¬ p.2=a from fun z=>aT (by rw[←z];exact memT p hp))).trans (zah (memT p hp))) (fun b=>?_)
   ⟨.inl (.inr ⟨_,eA⟩),.inl ⟨_,eA⟩⟩ (fun b u z=>?_) (fun b z=>?_) fun _=>hk
  ·by_cases hb:b=a
   ·exact .inr (.inr ⟨_,_,zah hb⟩)
   ·by_cases hb2:b∈L.map (·.2)
    ·exact .inr (.inl hb2)
    ·exact .inl ((zaj hb).trans (zaj hb2))
  ·by_cases hb:b=a
   ·have z':=(zah hb).symm.trans z;cases z';rw[hb];exact⟨ha,by rw[zaw];exact hl,vs,_,rv,ha⟩
   ·have z1:=(zaj hb).symm.trans z;by_cases hb2:b∈L.map (·.2)
    ·have z':=(zah hb2).symm.trans z1;cases z';exact isT b hb2
    ·have z':=(zaj hb2).symm.trans z1;cases z'
  ·by_cases hb:b=a
   ·exact .inl hb
   ·by_cases hb2:b∈L.map (·.2)
    ·exact .inr hb2
    ·exact absurd ((zaj hb).trans (zaj hb2)) z
def Yz(K:PySem.W.Frag)(ts:List Str):Prop:=∃ L:List (Addr×Addr),ts.map (PySem.W.tabIn K)=L.map some/\(L.map (·.2)).Nodup/\∀ q∈L,K.lookup q.2=none
theorem RX{q:Program}{ts:List Str}(h:(ts.all fun x=>((recsOf q).find? fun e=>e.name == x).isSome)=true):∀ x∈ts,((recsOf q).find? fun e=>e.name == x).isSome=true:=zai.mp h
def Lx(K:PySem.W.Frag)(mg:Str->Option Value)(T:Tab)(d:aP)(i:Nat):Prop:=∃ fa fd,Fun K d.name d.qual d.aE fa fd/\DAt K mg T d i fa fd
inductive pL (K:PySem.W.Frag) (mg:Str->Option Value) (T:Tab):Nat->List aP->Prop
 |nil {n:Nat}:pL K mg T n []
 |cons {n:Nat} {d:aP} {r:List aP}:Lx K mg T d n->pL K mg T (n+1) r->pL K mg T n (d::r)
theorem pL.at_{K:PySem.W.Frag}{mg:Str->Option Value}{T:Tab}:∀ {n:Nat} {l:List aP},pL K mg T n l->∀ (i:Nat) (d:aP),l[i]?=some d->Lx K mg T d (n+i)
 |_,_,.nil,i,d,h=>by simp at h
 |_,_,.cons f r,0,d,h=>by rw[zbe]at h;cases h;exact f
 |n,_,.cons f r,i+1,d,h=>by
  have:=r.at_ i d (by rw[zaI]at h;exact h)
  rwa [show n+1+i=n+(i+1)by omega]at this
theorem pL.RY{K:PySem.W.Frag}{mg:Str->Option Value}{T:Tab}{l:List aP}(h:pL K mg T 0 l)(i:Nat)(d:aP)(hd:l[i]?=some d):Lx K mg T d i:=by
 have:=h.at_ i d hd
 rwa [zb4]at this
def Jq(K:PySem.W.Frag)(o:Ob)(C:Addr):Bool:=PySem.W.plainGet K C Str.empty && PySem.W.hasDictIn K C && PySem.W.plainOver K C && decide (PySem.W.findIn K (.ref C) "__setattr__" = some (some (.builtin "object.__setattr__"))) && (o.attrs.all fun f=>decide (PySem.W.findIn K (.ref C) f=some none))
inductive ua (K:PySem.W.Frag) (mg:Str->Option Value):List Ob->Prop
 |nil:ua K mg []
 |cons {o:Ob} {C:Addr} {r:List Ob}:mg o.name=some (.ref C)->PySem.W.nsIn K mainGlobals o.name=some (some (.ref C))->Jq K o C=true->ua K mg r->ua K mg (o::r)
theorem ua.at_{K:PySem.W.Frag}{mg:Str->Option Value}:∀ {l:List Ob},ua K mg l->∀ o∈l,∃ C,mg o.name=some (.ref C)/\PySem.W.nsIn K mainGlobals o.name=some (some (.ref C))/\Cls K C/\∀ f∈o.attrs,NoAttr K C f
 |_,.nil,o,h=>by cases h
 |_,.cons (C:=C) h1 h2 h3 r,o,h=>by
  rcases zas.mp h with rfl |h
  ·unfold Jq at h3;simp only[zaa,zab,zai]at h3;obtain⟨⟨⟨⟨q1,q2⟩,q3⟩,q4⟩,q5⟩:=h3;exact⟨C,h1,h2,⟨q1,q2,q3,q4⟩,q5⟩
  ·exact r.at_ o h
inductive GF (w:World) (K:PySem.W.Frag) (mg:Str->Option Value) (x:Str):Bool->PyData->Prop
 |plain {d:PyData} {u:Value}:mg x=some u->nJ K d u=true->GF w K mg x false d
 |dict {kvs:List (PyData×PyData)} {a:Addr}:mg x=some (.ref a)->strKeys kvs=true->He.dicW K a=some (He.keysIn w.params (keysOf kvs))->jy K (kvs.map (·.2)) (pK K a)=true->GF w K mg x true (.dict kvs)
inductive uc (w:World) (K:PySem.W.Frag) (mg:Str->Option Value):List (Str×Bool)->List PyData->Prop
 |nil:uc w K mg [] []
 |cons {x:Str} {b:Bool} {d:PyData} {r:List (Str×Bool)} {ds:List PyData}:GF w K mg x b d->uc w K mg r ds->uc w K mg ((x,b)::r) (d::ds)
theorem uc.at_{X:Cx}{w:World}{K:PySem.W.Frag}{mg:Str->Option Value}(hK:X.K=K)(hm:X.mg=mg)(hw:X.w=w):∀ {l:List (Str×Bool)} {ds:List PyData},uc w K mg l ds->∀ (n:Nat) (x:Str) (b:Bool),l[n]?=some (x,b)->zW X ds[n]? x b
 |_,_,.nil,n,x,b,h=>by simp at h
 |_,_,.cons f r,0,x,b,h=>by
  rw[zbe]at h;cases h;cases f with
  |plain h1 h2=>exact Jo rfl (by rw[hm];exact h1) (by rw[hK];exact h2)
  |dict h1 h2 h3 h4=>exact NZ rfl (by rw[hm];exact h1) h2 (by rw[hK,hw];exact h3) (by rw[hK];exact h4)
 |_,_,.cons f r,n+1,x,b,h=>by rw[zaI]at h⊢;exact r.at_ hK hm hw n x b h
theorem Jr{w:World}{K:PySem.W.Frag}{h:Heap}{mg:Str->Option Value}(X:K.In h)(G:h.Ns mainGlobals mg){x:Str}{d:PyData}{u:Value}(a:PySem.W.nsIn K mainGlobals x=some (some u))(r:nJ K d u=true):GF w K mg x false d:=.plain (zbH X G a) r
theorem N1{w:World}{K:PySem.W.Frag}{h:Heap}{mg:Str->Option Value}(X:K.In h)(G:h.Ns mainGlobals mg){x:Str}{kvs:List (PyData×PyData)}{u:Addr}(a:PySem.W.nsIn K mainGlobals x=some (some (.ref u)))(s:strKeys kvs=true)(k:He.dicW K u=some (He.keysIn w.params (keysOf kvs)))(r:jy K (kvs.map (·.2)) (pK K u)=true):
 GF w K mg x true (.dict kvs):=.dict (zbH X G a) s k r
inductive AllB (mg:Str->Option Value):List Str->Prop
 |nil:AllB mg []
 |cons {x:Str} {r:List Str}:mg x=none->AllB mg r->AllB mg (x::r)
theorem AllB.at_{mg:Str->Option Value}:∀ {l:List Str},AllB mg l->∀ x,l.contains x=true->mg x=none
 |_,.nil,x,h=>by simp at h
 |_,.cons (x:=y) f r,x,h=>by
  rw[List.contains_cons,za3]at h;rcases h with h |h
  ·rw[eq_of_beq h];exact f
  ·exact r.at_ x h
def Df(K:PySem.W.Frag)(C1 C2:Addr)(b:Bool):Bool:=decide (PySem.W.findIn K (.ref C1) "__class__" = some (some (.builtin "object.__class__"))) && decide (PySem.W.mroIn K C1 (.type "object")=some true) && decide (PySem.W.kitOne K (.ref C1) (.ref C2)=some b) &&
 decide (PySem.W.specialIn K (.builtin "object.__class__") "__get__" = some (some (.builtin "getset_descriptor.__get__"))) && decide (PySem.W.takesIn K (.builtin "object.__class__")=some true)
inductive ud (K:PySem.W.Frag) (mg:Str->Option Value):List (Str×Str)->Prop
 |nil:ud K mg []
 |cons {c1 c2:Str} {C1 C2:Addr} {r:List (Str×Str)}:PySem.W.nsIn K mainGlobals c1=some (some (.ref C1))->mg c2=some (.ref C2)->Df K C1 C2 (decide (c1=c2))=true->ud K mg r->ud K mg ((c1,c2)::r)
theorem ud.at_{K:PySem.W.Frag}{mg:Str->Option Value}:∀ {l:List (Str×Str)},ud K mg l->∀ c1 c2,l.contains (c1,c2)=true->IS K mg c1 c2
 |_,.nil,c1,c2,h=>by simp at h
 |_,.cons (c1:=x) (c2:=y) (C1:=C1) (C2:=C2) h1 h2 h3 r,c1,c2,h=>by
  rw[List.contains_cons,za3]at h;rcases h with h |h
  ·obtain⟨rfl,rfl⟩:=Prod.mk.inj (eq_of_beq h);unfold Df at h3;simp only[zaa,zab]at h3;obtain⟨⟨⟨⟨q1,q2⟩,q3⟩,q4⟩,q5⟩:=h3;refine⟨fun C' e=>?_,q4,q5⟩;rw[h1]at e;obtain rfl:=pH e;refine⟨q1,q2,fun C e=>?_⟩;rw[h2]at e;obtain rfl:=zbF (zam e);exact q3
  ·exact r.at_ c1 c2 h
theorem Js{w:World}{K:PySem.W.Frag}{mg:Str->Option Value}{T:Tab}{Pr:bU}{defs:List aP}(f:pL K mg T 0 defs)(g:uc w K mg T.iQ Pr.glob)(b:AllB mg T.mV)(cf:qH K mg T.cls T.exc)(ob:ua K mg T.obs)(ic:ud K mg T.kJ):Facts w K mg T Pr defs:=⟨f.RY,fun X hK hm hw=>g.at_ hK hm hw,b.at_,cf,ob.at_,ic.at_⟩
inductive l7 (mg:Str->Option Value):List Str->List V->Prop
 |nil:l7 mg [] []
 |own {x:Str} {C:Addr} {r:List Str} {vs:List V}:mg x=some (.ref C)->l7 mg r vs->l7 mg (x::r) (.ref C::vs)
 |blt {x:Str} {T:String} {r:List Str} {vs:List V}:mg x=none->bootBuiltins x=some (.type T)->x≠"__name__"->l7 mg r vs->l7 mg (x::r) (.ty T::vs)
theorem z9.one{mg:Str->Option Value}{y:Str}{u v:V}(h1:z9 mg y u)(h2:z9 mg y v):u=v:=by
 rcases h1 with⟨C,e,rfl⟩|⟨T,e,b,_,rfl⟩
 ·rcases h2 with⟨D,f,rfl⟩|⟨T,f,_,_,rfl⟩
  ·rw[e]at f;cases f;rfl
  ·rw[e]at f;cases f
 ·rcases h2 with⟨D,f,rfl⟩|⟨T',f,b',_,rfl⟩
  ·rw[e]at f;cases f
  ·rw[b]at b';cases b';rfl
theorem l7.at_{mg:Str->Option Value}:∀ {ns:List Str} {vs:List V},l7 mg ns vs->∀ y∈ns,∃ v,z9 mg y v/\(y,v)∈ns.zip vs
 |_,_,.nil,y,h=>by cases h
 |_,_,.own (C:=C) e r,y,h=>by
  rcases zas.mp h with rfl |h
  ·exact⟨.ref C,.inl ⟨C,e,rfl⟩,by simp⟩
  ·obtain⟨v,h1,h2⟩:=r.at_ y h;exact⟨v,h1,zae _ h2⟩
 |_,_,.blt (T:=T) e b n r,y,h=>by
  rcases zas.mp h with rfl |h
  ·exact⟨.ty T,.inr ⟨T,e,b,n,rfl⟩,by simp⟩
  ·obtain⟨v,h1,h2⟩:=r.at_ y h;exact⟨v,h1,zae _ h2⟩
def R1(K:PySem.W.Frag)(ns:List Str)(vs:List V)(c:Cl)(C:Addr):Bool:=
 decide (PySem.W.findIn K (.ref C) "__getattribute__" = some (some (.builtin "BaseException.__getattribute__"))) && decide (PySem.W.findIn K (.ref C) "__getattr__" = some none) && decide (PySem.W.subIn K (.ref C) (.type "BaseException")=some true) && PySem.W.hasDictIn K C &&
 decide (PySem.W.findIn K (.ref C) "__class__" = some (some (.builtin "object.__class__"))) && decide (PySem.W.specialIn K (.builtin "object.__class__") "__get__" = some (some (.builtin "getset_descriptor.__get__"))) && decide (PySem.W.takesIn K (.builtin "object.__class__")=some true) && decide (PySem.W.mroIn K C (.type "object")=some true) &&
 (c.az.all fun f=>decide (PySem.W.findIn K (.ref C) f=some none)) &&
 ((ns.zip vs).all fun p=>decide (PySem.W.kitOne K (.ref C) (oq p.2)=some (c.fV.contains p.1)) && decide (PySem.W.exmOne K (.ref C) (oq p.2)=some (c.fV.contains p.1)))
theorem Jt{K:PySem.W.Frag}{h:Heap}{mg:Str->Option Value}{ns:List Str}{vs:List V}{c:Cl}{C:Addr}(X:K.In h)(G:h.Ns mainGlobals mg)(V:l7 mg ns vs)(a:PySem.W.nsIn K mainGlobals c.name=some (some (.ref C)))(b:R1 K ns vs c C=true)(m:Lw K mg c C c.ini):yF K mg ns c C:=by unfold R1 at b;simp only[zaa,zab,zai]at b;obtain⟨⟨⟨⟨⟨⟨⟨⟨⟨b1,b2⟩,b3⟩,b4⟩,b5⟩,b6⟩,b7⟩,b8⟩,b9⟩,R3⟩:=b;refine⟨zbH X G a,a,⟨b1,b2,b3,b4,b5,b6,b7,b8⟩,⟨b1,b2,b3,b4⟩,b9,m,fun y hy v hv=>?_⟩;obtain⟨u,h1,h2⟩:=V.at_ y hy;obtain rfl:=z9.one h1 hv;exact R3 _ h2
theorem VH{K:PySem.W.Frag}{mg:Str->Option Value}{c:Cl}{C:Addr}(q:PySem.W.excIn K C [.type "ValueError",.type "Exception",.type "BaseException",.type "object"] "ValueError.__new__" = true)(f:c.az=[])(k:PySem.W.keepIn K (.ref C)=true)(s:PySem.W.subIn K (.ref C) (.type "BaseException")=some true)(t:PySem.W.typeIn K (.ref C)=some (.type "type")):Lw K mg c C false:=⟨_,_,_,_,F.excBase_ValueError,q,f,k,s,t⟩
inductive ue (K:PySem.W.Frag) (mg:Str->Option Value) (ns:List Str):List Cl->Prop
 |nil:ue K mg ns []
 |cons {c:Cl} {C:Addr} {r:List Cl}:yF K mg ns c C->ue K mg ns r->ue K mg ns (c::r)
theorem ue.at_{K:PySem.W.Frag}{mg:Str->Option Value}{ns:List Str}:∀ {cl:List Cl},ue K mg ns cl->∀ c∈cl,∃ C,yF K mg ns c C
 |_,.nil,c,h=>by cases h
 |_,.cons (C:=C) f r,c,h=>by
  rcases zas.mp h with rfl |h
  ·exact⟨C,f⟩
  ·exact r.at_ c h
theorem FQ{K:PySem.W.Frag}{mg:Str->Option Value}{ns:List Str}{vs:List V}{cl:List Cl}(V:l7 mg ns vs)(A:ue K mg ns cl):qH K mg ns cl:=⟨fun y hy=>(V.at_ y hy).imp fun _ z=>z.1,A.at_⟩
theorem Ab:∀ {ps:List Str} {us:List Value} {n:Str},n∈ps->us.length=ps.length->∃ v,(ps.zip us).lookup n=some v
 | [],_,n,h,_=>by cases h
 |p::ps,[],n,_,h=>by cases h
 |p::ps,u::us,n,h,hl=>by
  rw[List.zip_cons_cons,za8];by_cases e:n=p
  ·subst e;exact⟨u,by rw[zbv]⟩
  ·have e2:(n == p)=false:=by simpa using e
   rw[e2];rcases zas.mp h with z |z
   ·exact absurd z e
   ·exact Ab z (by simpa using hl)
theorem FT{ps:List Str}{us:List Value}(hl:us.length=ps.length):ps.filter (fun n=>((ps.zip us).lookup n).isNone)=[]:=by rw[List.filter_eq_nil_iff];intro n hn;obtain⟨v,e⟩:=Ab hn hl;simp[e]
theorem R4{ps qs:List Str}{A B:List (Str×Value)}(h:∀ n∈ps,A.lookup n=B.lookup n):ps.filterMap (fun n=>(A.lookup n).map fun v=>(n,v))=ps.filterMap (fun n=>(B.lookup n).map fun v=>(n,v)):=by
 induction ps with
 |nil=>rfl
 |cons p ps ih=>rw[zbG,zbG,h p zac,ih fun n hn=>h n (zae _ hn)]
theorem Ac:∀ {ps:List Str} {us:List Value},ps.Nodup->us.length=ps.length->ps.filterMap (fun n=>((ps.zip us).lookup n).map fun v=>(n,v))=ps.zip us
 | [],[],_,_=>rfl
 | [],_::_,_,h=>by cases h
 |p::ps,[],_,h=>by cases h
 |p::ps,u::us,nd,hl=>by
  obtain⟨n1,n2⟩:=zby.mp nd;have e:((p,u)::ps.zip us).lookup p=some u:=by simp
  rw[List.zip_cons_cons,zbG,e];show (p,u)::ps.filterMap (fun n=>(((p,u)::ps.zip us).lookup n).map fun v=>(n,v))=_;rw[R4 (qs:=[]) (B:=ps.zip us) fun n hn=>?_,Ac n2 (by simpa using hl)];rw[za8];have e2:(n == p)=false:=by simp only[zaQ,ne_eq];rintro rfl;exact n1 hn
  rw[e2]
theorem uf{ps:List Str}{a:Arguments}(h:z8 ps a=true)(nd:ps.Nodup){x q:Str}{b:List Stmt}{sc:Scope}{kV doc pm cdv ct:Value}{an:Option Addr}{us:List Value}(hl:us.length=ps.length):
 bindArgs (PySem.W.fnOf x q a b sc .none kV doc pm an cdv ct) ⟨us,[]⟩=pure (ps.zip us):=by
 obtain⟨po,ar,va,ko,kd,kw,df⟩:=a;unfold z8 at h;simp only[zaa,zab,List.isEmpty_iff,zbS]at h;obtain⟨⟨⟨⟨⟨⟨rfl,rfl⟩,rfl⟩,rfl⟩,rfl⟩,rfl⟩,rfl⟩:=h;have e1:=FT hl;have e2:=Ac nd hl;unfold bindArgs;dsimp only[PySem.W.fnOf,List.map_nil,List.nil_append];generalize ar.map (·.arg)=ps at hl e1 e2⊢;have hl2 : ¬ ps.length<us.length:=by omega
 simp[seqItems?,hl2,e1,e2];first |done |rfl
def VI(o:Obj):List Addr:=match o.data with
 | .seq its _=>its.toList.flatMap He.refV
 | .dict es _=>es.toList.flatMap fun e=>He.refV e.val
 | .func fd=>He.refV fd.code
 | .cls cd=>cd.ns::cd.mro.flatMap He.refV
 |_=>[]
def Ju(seen:List Addr):List Addr->List Addr->List Addr
 | [],acc=>acc
 |a::r,acc=>match acc.elem a ||seen.elem a with
  |true=>Ju seen r acc
  |false=>Ju seen r (a::acc)
def WD(g:Addr->Option Obj):Nat->List Addr->List Addr->List Addr
 | 0,seen,_=>seen
 |n+1,seen,fr=>match Ju seen (fr.flatMap fun a=>match g a with
   |some o=>VI o
   |none=>[]) []with
  | []=>seen
  |a::r=>WD g n (seen++(a::r)) (a::r)
def WG(n:Nat)(g:Addr->Option Obj):PySem.W.Frag:=He.frT g (WD g n [mainGlobals,cStatics] [mainGlobals])
def ug(d:aP):Str×Option Str:=match d.own with
 |none=>(d.name,none)
 |some c=>(c,some d.name)
def dD(d:aP):He.DefD:=⟨ug d,d.name,d.qual,defArgs d.aE,defBody d.aE,defScope d.aE,[],[]⟩
structure Xi where
 cls:Str
 aE:Stmt
 base:Str
 qual:Str
def xD(x:Xi):He.DefD:=⟨(x.cls,some "__init__"),"__init__",x.qual,defArgs x.aE,defBody x.aE,defScope x.aE,[],[]⟩
def Dg(ps:List Str)(kw:Str)(a:Arguments):Bool:=a.posonlyargs.isEmpty && decide (a.args.map (·.arg)++[kw]=ps) && a.vararg.isNone && decide (a.kwonlyargs.map (·.arg)=[kw]) && a.kwarg.isNone && decide (2<=ps.length)
def Ly(T:Tab)(K:PySem.W.Frag)(i:Nat)(d:aP):Bool:=match d.own with
 |none=>He.eqO (PySem.W.nsIn K mainGlobals d.name) (some (some (.ref (He.ga K d.name)))) && (z8 d.ps (defArgs d.aE) && decide d.ps.Nodup)
 |some cn=>He.eqO (PySem.W.nsIn K mainGlobals cn) (some (some (.ref (He.ga K cn)))) && (He.eqO (PySem.W.findIn K (.ref (He.ga K cn)) d.name) (some (some (.ref (He.ma K (He.ga K cn) d.name)))) && (PySem.W.isFn K (.ref (He.ma K (He.ga K cn) d.name)) &&
  ((match decide (d.name="__init__")with
    |true=>PySem.W.makesIn K (He.ga K cn) && PySem.W.keepIn K (.ref (He.ga K cn))
    |false=>true) &&
  (match pJ T i with
   | []=>z8 d.ps (defArgs d.aE) && decide d.ps.Nodup
   | [kw]=>Dg d.ps kw (defArgs d.aE) && decide d.ps.Nodup
   |_=>false))))
def Dh(T:Tab)(K:PySem.W.Frag):Nat->List aP->Bool
 |_,[]=>true
 |i,d::r=>Ly T K i d && Dh T K (i+1) r
def Jv(K:PySem.W.Frag):Str×Bool->PyData->Bool
 |(x,false),d=>(match PySem.W.nsIn K mainGlobals x with
  |some (some u)=>nJ K d u
  |_=>false)
 |(x,true),.dict kvs=>He.eqO (PySem.W.nsIn K mainGlobals x) (some (some (.ref (He.ga K x)))) && (strKeys kvs && jy K (kvs.map (·.2)) (pK K (He.ga K x)))
 |_,_=>false
def Ad(K:PySem.W.Frag):List (Str×Bool)->List PyData->Bool
 | [],[]=>true
 |x::r,d::ds=>Jv K x d && Ad K r ds
 |_,_=>false
def Ae(K:PySem.W.Frag):List (Str×Bool)->List PyData->List (Option (List (Option (Str×Int))))
 |(x,true)::r,.dict _::ds=>He.dicW K (He.ga K x)::Ae K r ds
 |_::r,_::ds=>Ae K r ds
 |_,_=>[]
def Af(P:Params):List (Str×Bool)->List PyData->List (Option (List (Option (Str×Int))))
 |(_,true)::r,.dict kvs::ds=>some (He.keysIn P (keysOf kvs))::Af P r ds
 |_::r,_::ds=>Af P r ds
 |_,_=>[]
def R5(K:PySem.W.Frag)(o:Ob):Bool:=He.eqO (PySem.W.nsIn K mainGlobals o.name) (some (some (.ref (He.ga K o.name)))) && Jq K o (He.ga K o.name)
def R6(K:PySem.W.Frag)(q:Str×Str):Bool:=He.eqO (PySem.W.nsIn K mainGlobals q.1) (some (some (.ref (He.ga K q.1)))) && (He.eqO (PySem.W.nsIn K mainGlobals q.2) (some (some (.ref (He.ga K q.2)))) && Df K (He.ga K q.1) (He.ga K q.2) (decide (q.1=q.2)))
def Ag(K:PySem.W.Frag)(y:Str):V:=match PySem.W.nsIn K mainGlobals y with
 |some (some (.ref C))=>.ref C
 |some none=>(match bootBuiltins y with
  |some (.type T)=>.ty T
  |_=>.non)
 |_=>.non
def Jw(K:PySem.W.Frag)(y:Str):Bool:=match PySem.W.nsIn K mainGlobals y with
 |some (some (.ref _))=>true
 |some none=>(match bootBuiltins y with
  |some (.type _)=>!decide (y="__name__")
  |_=>false)
 |_=>false
def R7(K:PySem.W.Frag)(C:Addr):Bool:=(match K.lookup C with
 |some ⟨.type t,_,.cls cd,sl⟩=>decide (t="type") && (match cd.mro,sl.toList with
  | .ref C'::bm,[_,_,_,_,some (.builtin n),_]=>decide (C'=C) && (decide (n="ValueError.__new__") && (!cd.hasDel && (cd.hasDict && PySem.HandSPX.refsVE bm)))
  |_,_=>false)
 |_=>false) && (decide (PySem.W.findIn K (.ref C) "__setattr__" = some (some (.builtin "object.__setattr__"))) && (decide (PySem.W.subIn K (.ref C) (.type "BaseException")=some true) && (decide (PySem.W.typeIn K (.ref C)=some (.type "type")) && PySem.W.keepIn K (.ref C))))
def Di(r:Option PySem.W.CFound)(n:String):Bool:=match r with
 |some (.val (.builtin m))=>decide (m=n)
 |_=>false
def Jx(K:PySem.W.Frag)(xi:List Xi)(c:Cl):Bool:=match c.ini with
 |false=>PySem.W.excIn K (He.ga K c.name) [.type "ValueError",.type "Exception",.type "BaseException",.type "object"] "ValueError.__new__" && (c.az.isEmpty && (PySem.W.keepIn K (.ref (He.ga K c.name)) && (decide (PySem.W.subIn K (.ref (He.ga K c.name)) (.type "BaseException")=some true) && decide (PySem.W.typeIn K (.ref (He.ga K c.name))=some (.type "type")))))
 |true=>xi.any fun x=>decide (x.cls=c.name) && (He.eqO (PySem.W.nsIn K mainGlobals x.base) (some (some (.ref (He.ga K x.base)))) && (He.eqO (PySem.W.findIn K (.ref (He.ga K c.name)) "__init__") (some (some (.ref (He.ma K (He.ga K c.name) "__init__")))) &&
  (decide (PySem.W.typeIn K (.ref (He.ma K (He.ga K c.name) "__init__"))=some (.type "function")) && (z8 (bx::c.az) (defArgs x.aE) && (Lv (bx::c.az) (bx::c.az) (defScope x.aE) && (R7 K (He.ga K c.name) &&
  (PySem.W.readsIn K (He.ga K x.base) (.type "type") && (decide (PySem.W.specialIn K (.ref (He.ga K x.base)) "__getattribute__" = some (some (.builtin "type.__getattribute__"))) && (Di (PySem.W.findCls K (.ref (He.ga K x.base)) (.type "type") "__init__") "ValueError.__init__" &&
  (oW x.base c.az (defScope x.aE) (defBody x.aE) && (!c.az.isEmpty && decide (c.az.length<=800))))))))))))
def R8(K:PySem.W.Frag)(xi:List Xi)(ns:List Str)(c:Cl):Bool:=He.eqO (PySem.W.nsIn K mainGlobals c.name) (some (some (.ref (He.ga K c.name)))) && (R1 K ns (ns.map (Ag K)) c (He.ga K c.name) && Jx K xi c)
def xW(K:PySem.W.Frag):List Str->List (Addr×Addr)
 | []=>[]
 |x::r=>(match PySem.W.tabIn K x with
  |some q=>q
  |none=>(0,0))::xW K r
def tbB(K:PySem.W.Frag)(ts:List Str):Bool:=(ts.all fun x=>match PySem.W.tabIn K x with
 |some q=>(K.lookup q.2).isNone
 |none=>false) && decide ((xW K ts).map (·.2)).Nodup
def Lz(T:Tab)(Pr:bU)(defs:List aP)(xi:List Xi)(K:PySem.W.Frag):Bool:=Dh T K 0 defs && (Ad K T.iQ Pr.glob && ((T.mV.all fun x=>He.eqO (PySem.W.nsIn K mainGlobals x) (some none)) && ((T.cls.all (Jw K)) && ((T.exc.all (R8 K xi T.cls)) && ((T.obs.all (R5 K)) && ((T.kJ.all (R6 K)) && tbB K T.lam))))))
def Ah(defs:List aP)(xi:List Xi):List He.DefD:=defs.map dD++xi.map xD
abbrev Ai:Type:=Bool×List He.FnW×List (Option (List (Option (Str×Int))))
def Dj(T:Tab)(Pr:bU)(defs:List aP)(xi:List Xi)(K:PySem.W.Frag):Ai:=(((Ah defs xi).all fun d=>d.ok K) && Lz T Pr defs xi K,(Ah defs xi).map fun d=>He.fnW K d.at_,Ae K T.iQ Pr.glob)
def Jy(T:Tab)(Pr:bU)(defs:List aP)(xi:List Xi)(w:World):Ai:=(true,(Ah defs xi).map He.DefD.val,Af w.params T.iQ Pr.glob)
section
variable {α:Type}
def FU(l:List Nat)(k:List Nat->α):α:=match l with
 | []=>k []
 |n::r=>HandSHeadRun.frNat n fun n=>FU r fun r=>k (n::r)
theorem FW:∀ (l:List Nat) (k:List Nat->α),FU l k=k l
 | [],k=>rfl
 |n::r,k=>by show HandSHeadRun.frNat n (fun n=>FU r fun r=>k (n::r))=_;rw[zbO,FW r]
def Dk(x:Str)(k:Str->α):α:=match x with
 |⟨⟨l⟩⟩=>FU l fun l=>k ⟨⟨l⟩⟩
theorem Jz(x:Str)(k:Str->α):Dk x k=k x:=by obtain⟨⟨l⟩⟩:=x;show FU l (fun l=>k ⟨⟨l⟩⟩)=_;rw[FW]
def qI(v:Value)(k:Value->α):α:=match v with
 | .ref a=>HandSHeadRun.frNat a fun a=>k (.ref a)
 | .str x t=>Dk x fun x=>k (.str x t)
 |v=>k v
theorem qJ(v:Value)(k:Value->α):qI v k=k v:=by
 cases v with
 |ref a=>show HandSHeadRun.frNat a (fun a=>k (.ref a))=_;rw[zbO]
 |str x t=>show Dk x (fun x=>k (.str x t))=_;rw[Jz]
 |_=>rfl
def pM(l:List Value)(k:List Value->α):α:=match l with
 | []=>k []
 |n::r=>qI n fun n=>pM r fun r=>k (n::r)
theorem sj:∀ (l:List Value) (k:List Value->α),pM l k=k l
 | [],k=>rfl
 |n::r,k=>by show qI n (fun n=>pM r fun r=>k (n::r))=_;rw[qJ,sj r]
def R9(e:DictEntry)(k:DictEntry->α):α:=match e with
 |⟨h,x,v⟩=>qI x fun x=>qI v fun v=>k ⟨h,x,v⟩
theorem Sa(e:DictEntry)(k:DictEntry->α):R9 e k=k e:=by obtain⟨h,x,v⟩:=e;show qI x (fun x=>qI v fun v=>k ⟨h,x,v⟩)=_;rw[qJ,qJ]
def Aj(l:List DictEntry)(k:List DictEntry->α):α:=match l with
 | []=>k []
 |n::r=>R9 n fun n=>Aj r fun r=>k (n::r)
theorem BZ:∀ (l:List DictEntry) (k:List DictEntry->α),Aj l k=k l
 | [],k=>rfl
 |n::r,k=>by show R9 n (fun n=>Aj r fun r=>k (n::r))=_;rw[Sa,BZ r]
def JA(d:Data)(k:Data->α):α:=match d with
 | .seq ⟨l⟩ n=>pM l fun l=>k (.seq ⟨l⟩ n)
 | .dict ⟨l⟩ n=>Aj l fun l=>k (.dict ⟨l⟩ n)
 | .fields ⟨l⟩=>pM l fun l=>k (.fields ⟨l⟩)
 | .func ⟨a,b,c,d,e,f,g,h,i,j,l,m,n,o,p⟩=>qI n fun n=>k (.func ⟨a,b,c,d,e,f,g,h,i,j,l,m,n,o,p⟩)
 | .cls ⟨a,b,c,d,e,f,g,h,i,j,l⟩=>pM c fun c=>HandSHeadRun.frNat d fun d=>k (.cls ⟨a,b,c,d,e,f,g,h,i,j,l⟩)
 |d=>k d
theorem N2(d:Data)(k:Data->α):JA d k=k d:=by
 cases d with
 |seq a n=>obtain⟨l⟩:=a;show pM l (fun l=>k (.seq ⟨l⟩ n))=_;rw[sj]
 |dict a n=>obtain⟨l⟩:=a;show Aj l (fun l=>k (.dict ⟨l⟩ n))=_;rw[BZ]
 |fields a=>obtain⟨l⟩:=a;show pM l (fun l=>k (.fields ⟨l⟩))=_;rw[sj]
 |func fd=>obtain⟨a,b,c,d,e,f,g,h,i,j,l,m,n,o,p⟩:=fd;show qI n (fun n=>k (.func ⟨a,b,c,d,e,f,g,h,i,j,l,m,n,o,p⟩))=_;rw[qJ]
 |cls cd=>obtain⟨a,b,c,d,e,f,g,h,i,j,l⟩:=cd;show pM c (fun c=>HandSHeadRun.frNat d fun d=>k (.cls ⟨a,b,c,d,e,f,g,h,i,j,l⟩))=_;rw[sj,zbO]
 |_=>rfl
def Sb(o:Obj)(k:Obj->α):α:=match o with
 |⟨c,d,dt,sl⟩=>qI c fun c=>JA dt fun dt=>k ⟨c,d,dt,sl⟩
theorem Sd(o:Obj)(k:Obj->α):Sb o k=k o:=by obtain⟨c,d,dt,sl⟩:=o;show qI c (fun c=>JA dt fun dt=>k ⟨c,d,dt,sl⟩)=_;rw[qJ,N2]
def Dm(l:PySem.W.Frag)(k:PySem.W.Frag->α):α:=match l with
 | []=>k []
 |(a,o)::r=>HandSHeadRun.frNat a fun a=>Sb o fun o=>Dm r fun r=>k ((a,o)::r)
theorem B4:∀ (l:PySem.W.Frag) (k:PySem.W.Frag->α),Dm l k=k l
 | [],k=>rfl
 |(a,o)::r,k=>by show HandSHeadRun.frNat a (fun a=>Sb o fun o=>Dm r fun r=>k ((a,o)::r))=_;rw[zbO,Sd,B4 r]
def B5(t:PySem.W.BT)(k:PySem.W.BT->α):α:=match t with
 | .nil=>k .nil
 | .node v l r=>B5 l fun l=>B5 r fun r=>k (.node v l r)
theorem Ak:∀ (t:PySem.W.BT) (k:PySem.W.BT->α),B5 t k=k t
 | .nil,k=>rfl
 | .node v l r,k=>by show B5 l (fun l=>B5 r fun r=>k (.node v l r))=_;rw[Ak l,Ak r]
end
def pN(n:Nat)(T:Tab)(Pr:bU)(defs:List aP)(xi:List Xi):PySem.W.Hook where
 α:=Ai
 obs:=fun s=>Dj T Pr defs xi (WG n s.heap.get?)
 val:=fun w=>Jy T Pr defs xi w
 says:=fun w h=>∃ K:PySem.W.Frag,K.In h/\Dj T Pr defs xi K=Jy T Pr defs xi w
 of:=fun _ _ e=>⟨_,He.frT_in,e⟩
 keeps:=fun _ _ _ ⟨K,hK,c⟩ k=>⟨K,PySem.W.Frag.In.keeps hK k,c⟩
def Am(n:Nat)(T:Tab)(Pr:bU)(defs:List aP)(xi:List Xi)(s:PySem.W.SharedT):Ai:=match s with
 |⟨t,m,life,gens,drawn,toks,os⟩=>B5 t fun t=>Dm (WG n (HandSHeadRun.getT ⟨t,m,life,gens,drawn,toks,os⟩)) (Dj T Pr defs xi)
theorem Se(n:Nat)(T:Tab)(Pr:bU)(defs:List aP)(xi:List Xi)(s:PySem.W.SharedT):Am n T Pr defs xi s=(pN n T Pr defs xi).obs s.abs:=by have e:HandSHeadRun.getT s=s.abs.heap.get?:=funext (HandSHeadRun.getT_eq s);obtain⟨t,m,life,gens,drawn,toks,os⟩:=s;unfold Am;dsimp only;rw[Ak,B4,e] <;> rfl
theorem bK{a b:Bool}(h:(a && b)=true):a=true/\b=true:=Bool.and_eq_true_iff.mp h
theorem Sf{ps:List Str}{kw:Str}{a:Arguments}(h:Dg ps kw a=true)(nd:ps.Nodup){n:Nat}(hn:n+1+1=ps.length){x q:Str}{b:List Stmt}{sc:Scope}{kV doc pm cdv ct:Value}{an:Option Addr}{us ws:List Value}(hl:us.length=n+1)(h2:ws.length=1):
 bindArgs (PySem.W.fnOf x q a b sc .none kV doc pm an cdv ct) ⟨us,[kw].zip ws⟩=pure (ps.zip (us++ws)):=by
 obtain⟨po,ar,va,ko,kd,kwa,df⟩:=a;unfold Dg at h;simp only[zaa,zab,List.isEmpty_iff,zbS]at h;obtain⟨⟨⟨⟨⟨rfl,h1⟩,rfl⟩,h3⟩,rfl⟩,_⟩:=h;obtain⟨z,rfl⟩:∃ z,ws=[z]:=by
  match ws,h2 with
  | [z],_=>exact⟨z,rfl⟩
 subst h1;unfold bindArgs;dsimp only[PySem.W.fnOf,List.map_nil,List.nil_append];rw[h3];generalize ar.map (·.arg)=ps at nd hn⊢;have hl2:us.length=ps.length:=by rw[hl];rw[zav]at hn;simp at hn⊢;omega
 have nk:kw∉ps:=fun z=>by have:=List.nodup_append.mp nd;exact this.2.2 _ z _ (zaB.mpr rfl) rfl
 have nd1:ps.Nodup:=(List.nodup_append.mp nd).1;have z1:(ps.zip us).lookup kw=none:=by rw[List.lookup_eq_none_iff];intro p hp;have:=List.of_mem_zip hp;simp only[zbX,ne_eq];rintro rfl;exact nk this.1
 have e1:=FT hl2;have ez:(ps++[kw]).zip (us++[z])=ps.zip us++[(kw,z)]:=by rw[List.zip_append hl2.symm];rfl
 have e2:=Ac (us:=us++[z]) nd (by simp[hl2]);rw[ez]at e2;have e3:ps.filter (fun n=>((ps.zip us++[(kw,z)]).lookup n).isNone)=[]:=by rw[List.filter_eq_nil_iff];intro n hn;obtain⟨v,e⟩:=Ab hn hl2;rw[List.lookup_append,e];simp
 have e4:(ps.zip us++[(kw,z)]).lookup kw=some z:=by rw[List.lookup_append,z1];simp
 rw[ez];have hll : ¬ ps.length<us.length:=by omega
 have ec:([kw]:List Str).contains kw=true:=by simp
 simp[seqItems?,hll,z1,nk,-List.filterMap_append,-List.lookup_append];rw[e3];simp[e4,-List.filterMap_append,-List.lookup_append];rw[e2];have e5:(!(List.filter (fun n=>(List.lookup n (ps.zip us++[(kw,z)])).isNone) (List.take ((List.map (fun x:Arg=>x.arg) []++ps).length-(List.drop ((#[]:Array Value).size-(List.map (fun x:Arg=>x.arg) []++ps).length) ([]:List Value)).length) (List.map (fun x:Arg=>x.arg) []++ps))).isEmpty)=false:=by simp[e3]
 rw[zaj (by rw[e5];exact zaP)];rfl
theorem JB{K:PySem.W.Frag}{d:aP}{f:Addr}{fd:FuncData}(F:FunD K d.name d.qual (defArgs d.aE) (defBody d.aE) (defScope d.aE) [] [] f fd):Fun K d.name d.qual d.aE f fd:=by
 obtain⟨⟨oc,od,dV,kV,doc,pm,an,cdv,ct,osl,e,lk,hcd,hD,_⟩,kp⟩:=F;rcases hD with⟨_,rfl⟩|⟨z,_⟩
 ·exact⟨⟨oc,od,kV,doc,pm,an,cdv,ct,osl,e,lk,hcd⟩,kp⟩
 ·exact absurd rfl z
theorem JC{K:PySem.W.Frag}{x:Xi}{f:Addr}{fd:FuncData}(F:FunD K "__init__" x.qual (defArgs x.aE) (defBody x.aE) (defScope x.aE) [] [] f fd):Fun K "__init__" x.qual x.aE f fd:=by
 obtain⟨⟨oc,od,dV,kV,doc,pm,an,cdv,ct,osl,e,lk,hcd,hD,_⟩,kp⟩:=F;rcases hD with⟨_,rfl⟩|⟨z,_⟩
 ·exact⟨⟨oc,od,kV,doc,pm,an,cdv,ct,osl,e,lk,hcd⟩,kp⟩
 ·exact absurd rfl z
section
variable {w:World} {K:PySem.W.Frag} {h:Heap} {mg:Str->Option Value} {T:Tab} {Pr:bU} {defs:List aP} {xi:List Xi}
theorem YA(X:K.In h)(G:h.Ns mainGlobals mg){d:aP}{i:Nat}(c:Ly T K i d=true){fd:FuncData}(F:FunD K d.name d.qual (defArgs d.aE) (defBody d.aE) (defScope d.aE) [] [] (He.fAd K (ug d)) fd):Lx K mg T d i:=by
 have F1:=JB F;refine⟨_,fd,F1,?_⟩;unfold DAt;unfold Ly at c;cases ho:d.own with
 |none=>
  rw[ho]at c;obtain⟨c1,c2⟩:=bK c;obtain⟨c3,c4⟩:=bK c2;refine⟨?_,F1.binds fun kV doc pm an cdv ct us hl=>uf c3 (zad c4) hl⟩;have e:He.fAd K (ug d)=He.ga K d.name:=by unfold ug;rw[ho] <;> rfl
  rw[e];exact zbH X G (zbP c1)
 |some cn=>
  rw[ho]at c;obtain⟨c1,c⟩:=bK c;obtain⟨c2,c⟩:=bK c;obtain⟨c3,c⟩:=bK c;obtain⟨c4,c5⟩:=bK c;have e:He.fAd K (ug d)=He.ma K (He.ga K cn) d.name:=by unfold ug;rw[ho] <;> rfl
  have kp:=F1.kp;rw[e]at F1 kp⊢;have f2:=zbP c2;refine⟨fun C hC=>?_,?_⟩
  ·rw[zbP c1]at hC;obtain rfl:=pH hC;refine⟨⟨f2,c3,kp⟩,fun hn=>?_⟩;rw[zbo hn]at c4;obtain⟨m1,m2⟩:=bK c4;exact⟨m1,by rw[←hn];exact f2,c3,m2⟩
  ·unfold yz;split at c5
   ·rename_i hk;obtain⟨c6,c7⟩:=bK c5;exact .inl ⟨hk,F1.binds fun kV doc pm an cdv ct us hl=>uf c6 (zad c7) hl⟩
   ·rename_i kw hk;obtain⟨c6,c7⟩:=bK c5;have c8:=c6;unfold Dg at c8;simp only[zaa,zab]at c8;rw[hk];refine .inr ⟨List.cons_ne_nil _ _,d.ps.length-2,by simp;omega,?_⟩;obtain⟨oc,od,kV,doc,pm,an,cdv,ct,osl,rfl,lk,hcd⟩:=F1.ex;exact⟨fun s us ws _ l1 l2=>.of_eq (Sf c6 (zad c7) (n:=d.ps.length-2) (by omega) l1 l2),fun r1 r2=>r1.append r2⟩
   ·cases c5
theorem LA(X:K.In h)(G:h.Ns mainGlobals mg):∀ (i:Nat) (l:List aP),Dh T K i l=true->(∀ d∈l,∃ fd,FunD K d.name d.qual (defArgs d.aE) (defBody d.aE) (defScope d.aE) [] [] (He.fAd K (ug d)) fd)->pL K mg T i l
 |_,[],_,_=>.nil
 |i,d::r,c,F=>by obtain⟨c1,c2⟩:=bK (show (Ly T K i d && Dh T K (i+1) r)=true from c);obtain⟨fd,f⟩:=F d zac;exact .cons (YA X G c1 f) (LA X G (i+1) r c2 fun d hd=>F d (zae _ hd))
theorem Dq(X:K.In h)(G:h.Ns mainGlobals mg):∀ {l:List (Str×Bool)} {ds:List PyData},Ad K l ds=true->Ae K l ds=Af w.params l ds->uc w K mg l ds
 | [],[],_,_=>.nil
 | [],_::_,c,_=>by cases c
 |_::_,[],c,_=>by cases c
 |(x,false)::r,d::ds,c,e=>by
  obtain⟨c1,c2⟩:=bK (show (Jv K (x,false) d && Ad K r ds)=true from c);have e:Ae K r ds=Af w.params r ds:=e;refine .cons ?_ (Dq X G c2 e);have c1:(match PySem.W.nsIn K mainGlobals x with
   |some (some u)=>nJ K d u
   |_=>false)=true:=c1
  split at c1
  ·rename_i u hu;exact Jr X G hu c1
  ·cases c1
 |(x,true)::r,d::ds,c,e=>by
  obtain⟨c1,c2⟩:=bK (show (Jv K (x,true) d && Ad K r ds)=true from c);cases d with
  |dict kvs=>obtain⟨e1,e2⟩:=List.cons.inj (show He.dicW K (He.ga K x)::Ae K r ds=some (He.keysIn w.params (keysOf kvs))::Af w.params r ds from e);obtain⟨c3,c4⟩:=bK (show (He.eqO (PySem.W.nsIn K mainGlobals x) (some (some (.ref (He.ga K x)))) && (strKeys kvs && jy K (kvs.map (·.2)) (pK K (He.ga K x))))=true from c1);obtain⟨c5,c6⟩:=bK c4;exact .cons (N1 X G (zbP c3) c5 e1 c6) (Dq X G c2 e2)
  |_=>cases c1
theorem LB(X:K.In h)(G:h.Ns mainGlobals mg):∀ {l:List Str},(l.all fun x=>He.eqO (PySem.W.nsIn K mainGlobals x) (some none))=true->AllB mg l
 | [],_=>.nil
 |x::r,c=>by rw[zay]at c;obtain⟨c1,c2⟩:=bK c;exact .cons (PySem.W.mg_none_of X G (zbP c1)) (LB X G c2)
theorem LC(X:K.In h)(G:h.Ns mainGlobals mg):∀ {l:List Str},l.all (Jw K)=true->l7 mg l (l.map (Ag K))
 | [],_=>.nil
 |x::r,c=>by
  rw[zay]at c;obtain⟨c1,c2⟩:=bK c;have i:=LC X G c2;rw[zaR];unfold Jw at c1;cases hC:PySem.W.nsIn K mainGlobals x with
  |none=>rw[hC]at c1;cases c1
  |some o=>
   rw[hC]at c1;cases o with
   |some u=>
    cases u with
    |ref C=>
     have e:Ag K x=V.ref C:=by unfold Ag;rw[hC]
     rw[e];exact .own (zbH X G hC) i
    |_=>cases c1
   |none=>
    dsimp only at c1;cases ht:bootBuiltins x with
    |none=>rw[ht]at c1;cases c1
    |some u=>
     rw[ht]at c1;cases u with
     |type t=>
      have e:Ag K x=V.ty t:=by unfold Ag;rw[hC];dsimp only;rw[ht]
      rw[e];exact .blt (PySem.W.mg_none_of X G hC) ht (by simpa using c1) i
     |_=>cases c1
theorem LD(X:K.In h)(G:h.Ns mainGlobals mg):∀ {l:List Ob},l.all (R5 K)=true->ua K mg l
 | [],_=>.nil
 |x::r,c=>by rw[zay]at c;obtain⟨c1,c2⟩:=bK c;obtain⟨c3,c4⟩:=bK c1;exact .cons (zbH X G (zbP c3)) (zbP c3) c4 (LD X G c2)
theorem LF(X:K.In h)(G:h.Ns mainGlobals mg):∀ {l:List (Str×Str)},l.all (R6 K)=true->ud K mg l
 | [],_=>.nil
 |(x,y)::r,c=>by rw[zay]at c;obtain⟨c1,c2⟩:=bK c;obtain⟨c3,c4⟩:=bK c1;obtain⟨c5,c6⟩:=bK c4;exact .cons (zbP c3) (zbH X G (zbP c5)) c6 (LF X G c2)
theorem VJ{C:Addr}(c:R7 K C=true):OexC K C:=by
 obtain⟨c1,c⟩:=bK c;obtain⟨c2,c⟩:=bK c;obtain⟨c3,c⟩:=bK c;obtain⟨c4,c5⟩:=bK c;refine⟨?_,zad c2,zad c3,zad c4,c5⟩;split at c1
 ·rename_i t dd cd sl hl;obtain⟨q1,d1⟩:=bK c1;clear c1;obtain rfl:=zad q1;obtain⟨nm,bs,mro,ns,qn,hd,sn,sub,ab,col,del⟩:=cd;obtain⟨sl⟩:=sl;split at d1
  ·rename_i C' bm k0 k1 k2 k3 n k5 hm hs;obtain⟨q2,d2⟩:=bK d1;obtain⟨q3,d3⟩:=bK d2;obtain⟨q4,d4⟩:=bK d3;obtain⟨q5,q6⟩:=bK d4;obtain rfl:=zad q2;obtain rfl:=zad q3;dsimp only at hm q4 q5;have hs:sl=[k0,k1,k2,k3,some (.builtin "ValueError.__new__"),k5]:=hs;subst hm hs;have q4:del=false:=by simpa using q4
   subst q4 q5;exact⟨_,_,_,_,_,_,_,_,_,_,_,_,_,_,_,hl,q6⟩
  ·cases d1
 ·cases c1
theorem VL{r:Option PySem.W.CFound}{n:String}(c:Di r n=true):r=some (.val (.builtin n)):=by
 unfold Di at c;split at c
 ·rw[zad c]
 ·cases c
theorem YB(X:K.In h)(G:h.Ns mainGlobals mg){c:Cl}(FX:∀ x∈xi,∃ fd,FunD K "__init__" x.qual (defArgs x.aE) (defBody x.aE) (defScope x.aE) [] [] (He.fAd K (x.cls,some "__init__")) fd)(m:Jx K xi c=true):Lw K mg c (He.ga K c.name) c.ini:=by
 unfold Jx at m;cases hi:c.ini with
 |false=>rw[hi]at m;obtain⟨m1,m⟩:=bK m;obtain⟨m2,m⟩:=bK m;obtain⟨m3,m⟩:=bK m;obtain⟨m4,m5⟩:=bK m;exact VH m1 (List.isEmpty_iff.mp m2) m3 (zad m4) (zad m5)
 |true=>
  rw[hi]at m;obtain⟨x,hx,m⟩:=List.any_eq_true.mp m;obtain⟨m1,m⟩:=bK m;obtain⟨m2,m⟩:=bK m;obtain⟨m3,m⟩:=bK m;obtain⟨m4,m⟩:=bK m;obtain⟨m5,m⟩:=bK m;obtain⟨m6,m⟩:=bK m;obtain⟨m7,m⟩:=bK m;obtain⟨m8,m⟩:=bK m;obtain⟨m9,m⟩:=bK m;obtain⟨FY,m⟩:=bK m;obtain⟨mX,m⟩:=bK m;obtain⟨jx,FZ⟩:=bK m;obtain⟨fd,F⟩:=FX x hx;have F1:=JC F;have e1:x.cls=c.name:=zad m1;have e:He.fAd K (x.cls,some "__init__")=He.ma K (He.ga K c.name) "__init__":=by rw[e1];rfl
  rw[e]at F1;have sc:=vB (n:=(bx::c.az).length) (N:=bx::c.az) (by rw[za6];exact m6);rw[za6]at sc;refine⟨_,fd,x.aE,"__init__",x.qual,x.base,He.ga K x.base,.type "type",F1,sc,VJ m7,zbP m3,zad m4,zbH X G (zbP m2),m8,zad m9,VL FY,mX,F1.binds fun kV doc pm an cdv ct us hl=>uf m5 sc.nd hl,?_,zad FZ⟩;intro z;rw[z]at jx;cases jx
theorem LG(X:K.In h)(G:h.Ns mainGlobals mg){ns:List Str}(V:l7 mg ns (ns.map (Ag K)))(FX:∀ x∈xi,∃ fd,FunD K "__init__" x.qual (defArgs x.aE) (defBody x.aE) (defScope x.aE) [] [] (He.fAd K (x.cls,some "__init__")) fd):
 ∀ {l:List Cl},l.all (R8 K xi ns)=true->ue K mg ns l
 | [],_=>.nil
 |c::r,m=>by rw[zay]at m;obtain⟨m1,m2⟩:=bK m;obtain⟨m3,m4⟩:=bK m1;obtain⟨m5,m6⟩:=bK m4;exact .cons (Jt X G V (zbP m3) m5 (YB X G FX m6)) (LG X G V FX m2)
theorem LH:∀ {ts:List Str},(ts.all fun x=>match PySem.W.tabIn K x with
 |some q=>(K.lookup q.2).isNone
 |none=>false)=true->ts.map (PySem.W.tabIn K)=(xW K ts).map some/\∀ q∈xW K ts,K.lookup q.2=none
 | [],_=>⟨rfl,fun q z=>by cases z⟩
 |x::r,c=>by
  rw[zay]at c;obtain⟨c1,c2⟩:=bK c;obtain⟨i1,i2⟩:=LH c2;cases hq:PySem.W.tabIn K x with
  |some q=>
   rw[hq]at c1;have e:xW K (x::r)=q::xW K r:=by
    show (match PySem.W.tabIn K x with
     |some q=>q
     |none=>(0,0))::xW K r=_
    rw[hq]
   rw[e,zaR,zaR,hq,i1];refine⟨rfl,fun p hp=>?_⟩;rcases zas.mp hp with rfl |z
   ·exact zbS.mp c1
   ·exact i2 p z
  |none=>rw[hq]at c1;cases c1
theorem N3(X:K.In h)(G:h.Ns mainGlobals mg)(e:Dj T Pr defs xi K=Jy T Pr defs xi w):Facts w K mg T Pr defs/\Yz K T.lam:=by have e1:(((Ah defs xi).all fun d=>d.ok K) && Lz T Pr defs xi K)=true:=zbj (fun z:Ai=>z.1) e;have e2:(Ah defs xi).map (fun d=>He.fnW K d.at_)=(Ah defs xi).map He.DefD.val:=zbj (fun z:Ai=>z.2.1) e;have e3:Ae K T.iQ Pr.glob=Af w.params T.iQ Pr.glob:=zbj (fun z:Ai=>z.2.2) e;obtain⟨a1,a⟩:=bK e1;have FD:∀ d∈Ah defs xi,∃ fd,FunD K d.name d.qual d.params d.body d.scope (d.dvs K) (d.kws K) (He.fAd K d.at_) fd:=fun d hd=>He.DefD.funD (zaO.mp e2 d hd) (zai.mp a1 d hd);obtain⟨b1,a⟩:=bK a;obtain⟨b2,a⟩:=bK a;obtain⟨b3,a⟩:=bK a;obtain⟨b4,a⟩:=bK a;obtain⟨b5,a⟩:=bK a;obtain⟨b6,a⟩:=bK a;obtain⟨b7,b8⟩:=bK a;obtain⟨t1,t2⟩:=bK b8;have V:=LC X G b4;obtain⟨t3,t4⟩:=LH t1;refine⟨Js (LA X G 0 defs b1 fun d hd=>FD (dD d) (za0 _ (zaz.mpr ⟨d,hd,rfl⟩))) (Dq X G b2 e3) (LB X G b3) (FQ V (LG X G V (fun x hx=>FD (xD x) (zbQ _ (zaz.mpr ⟨x,hx,rfl⟩))) b5)) (LD X G b6) (LF X G b7),xW K T.lam,t3,zad t2,t4⟩
end
theorem Sh{l:PySem.W.OpenLaw}{n k i m:Nat}{q:Program}{loose:List Str}{XP:(Str->Option Value)->Heap->Prop}{d:DefRec}{T:Tab}{Pr:bU}{defs:List aP}{xi:List Xi}{dd:aP}{x:Str}
 (hn:l.most=some n) (hn2:n<=sizeLine) (hdf:d.params.defaults=[]) (hr:Room (2 * k+4) callerA) (hq:importsNone q=true)
 (hT:T.fns=defs.map (·.name)) (hP:Pr.fns=defs.map (·.fn)) (hC:Pr.cls=T.exc) (hO:Pr.obs=T.obs) (hB:Jk T defs=true) (hM:De T defs=true) (hc:defs.all (bB T)=true) (hd:defs[i]?=some dd) (hps:dd.ps=[x]) (hnm:dd.name=d.name) (hown:dd.own=none)
 (hrec:∀ x∈T.lam,((recsOf q).find? fun e=>e.name == x).isSome=true)
 (law:∀ ns:List Int,ns.length<=n->(∀ z∈ns,Builtin.Int.intBits z<=1048576)->∃ st,aD Pr k i [.bW ns] (T.lam.map Cell.tab)= .ok (.d (.bool true)) st) :
 PySem.W.WalkO q loose XP (pN m T Pr defs xi).says l.row.toRowW d [] (fun f vs=>PySem.call f vs):=by
 refine Att.attach_callB hn hdf fun w s₀ s₁ mg mb fa o pm cd doc a vs ns G Y ho hdd hcd hmg hobj hints hlen hbits hg=>?_;obtain⟨K,KX,says⟩:=Y;obtain⟨F,L,t1,t2,t3⟩:=N3 KX G.T.g says;obtain⟨fa',fd,hf,hm12⟩:=F.fns i dd hd;unfold DAt at hm12;rw[hown]at hm12;obtain⟨hm,hb⟩:=hm12;have hm0:=hm;rw[hnm,hmg]at hm;obtain rfl:fa=fa':=zbF (zam hm);obtain⟨mm,hmm,_⟩:=(G.T.seer hq).mods;have each:∀ p∈L,PySem.W.CodeHd s₁.heap p.1 p.2/\s₁.heap.get? p.2=some { cls:=.none,data:=.fields #[] }:=fun p hp=>by
  have h1:some p∈T.lam.map (PySem.W.tabIn K):=by rw[t1];exact zaz.mpr ⟨p,hp,rfl⟩
  obtain⟨x,h2,h3⟩:=zaz.mp h1;obtain⟨dr,h4⟩:=zbz.mp (hrec x h2);exact PySem.W.tab_of G.T KX h4 (show PySem.W.tabIn K x=some (p.1,p.2)from h3)
 rw[hps]at hb;refine FP (hb:=dd.hot) KX G.T.g G.T.b G.T.builtins G.T.nolimit hmm hg G.T.bmain ⟨t1,t2,t3,fun p hp=>(each p hp).1,fun p hp=>(each p hp).2⟩ hobj hints (zbw hlen hn2) hr (fun base kb gb tb sm=>?_) hb (law ns hlen hbits);have g:=Jm (P:=l.prog) (base:=base) F kb gb tb sm hT hP hC hO hB hM hc k i dd hd fa fd hf fun _=>hm0;rw[hps]at g;exact g
end G
namespace G
open PySem PySem.W PySem.Calls PyProof.Rows HandSHeadRun
end G
namespace G
open PySem PySem.Spec PyProof.Rows
def Dr(F g:Nat->Nat):Ss:=(.cons (.ret (.cmp .isin (.var 1) (.ix (.var 0) (.cst (.int 2))))) .nil)
def Ds(F g:Nat->Nat):Ss:=(.cons (.ret (.o8 true (.ix (.var 1) (.cst (.int 0))) (.ix (.var 1) (.cst (.int 1))) (.name 1) (.e (.ix (.var 0) (.cst (.int 3)))) .nil [1])) .nil)
def Dt(F g:Nat->Nat):Ss:=(.cons (.ret (.ix (.var 0) (.cst (.int 4)))) .nil)
def Du(F g:Nat->Nat):Ss:=(.cons (.ret (.ix (.var 0) (.cst (.int 5)))) .nil)
def Dy(F g:Nat->Nat):Ss:=(.cons (.ret (.ix (.var 0) (.cst (.int 6)))) .nil)
def Dz(F g:Nat->Nat):Ss:=(.cons (.ret (.ix (.var 0) (.cst (.int 7)))) .nil)
def DB(F g:Nat->Nat):Ss:=(.cons (.ret (.ix (.var 0) (.cst (.int 8)))) .nil)
def DC(F g:Nat->Nat):Ss:=(.cons (.asg (.name 1) (.dct true (.cons (.call (F 2) (.cons (.var 0) .nil)) (.cst (.str "part")) .nil))) (.cons (.gY (.tup (.cons (.name 2) (.cons (.name 3) .nil))) (.items (.call (F 1) (.cons (.var 0) .nil))) (.cons (.lO (.cons (.sub (.var 1) (.var 2)) (.cons (.sub (.var 1) (.var 3)) .nil)) (.cons (.cst (.str "open")) (.cons (.cst (.str "shut")) .nil))) .nil)) (.cons (.ite (.cmp .oY (.call (F 3) (.cons (.var 0) .nil)) (.cst .none)) (.cons (.asg (.sub (.var 1) (.call (F 3) (.cons (.var 0) .nil))) (.cst (.str "end"))) .nil) .nil) (.cons (.ite (.cmp .oY (.call (F 4) (.cons (.var 0) .nil)) (.cst .none)) (.cons (.lO (.cons (.sub (.var 1) (.ix (.call (F 4) (.cons (.var 0) .nil)) (.cst (.int 0)))) (.cons (.sub (.var 1) (.ix (.call (F 4) (.cons (.var 0) .nil)) (.cst (.int 1)))) .nil)) (.cons (.cst (.str "begin")) (.cons (.cst (.str "finish")) .nil))) .nil) .nil) (.cons (.ret (.frz (.var 1))) .nil)))))
def DF(F g:Nat->Nat):Ss:=(.cons (.asg (.name 2) (.me .find3 (.var 0) (.cons (.glob (g 0)) (.cons (.var 1) .nil)))) (.cons (.ret (.ite (.cmp .lt (.var 2) (.cst (.int 0))) (.bi .len (.cons (.var 0) .nil)) (.var 2))) .nil))
def DH(F g:Nat->Nat):Ss:=(.cons (.asg (.name 2) (.var 1)) (.cons (.cX (.and (.cons (.cmp .lt (.var 2) (.bi .len (.cons (.var 0) .nil))) (.cons (.cmp .isin (.ix (.var 0) (.var 2)) (.glob (g 1))) .nil))) (.cons (.aug 2 .add (.cst (.int 1))) .nil)) (.cons (.ret (.tup (.cons (.cst (.str "word")) (.cons (.slice (.var 0) (.e (.var 1)) (.e (.var 2))) (.cons (.var 2) .nil))))) .nil)))
def yG(F g:Nat->Nat):Ss:=(.cons (.asg (.name 2) (.me .mO (.var 0) (.cons (.ix (.var 0) (.var 1)) (.cons (.bin .add (.var 1) (.cst (.int 1))) (.cons (.call (F 8) (.cons (.var 0) (.cons (.var 1) .nil))) .nil))))) (.cons (.ite (.cmp .lt (.var 2) (.cst (.int 0))) (.cons (.raise "NoRead" (.cons (.var 1) .nil)) .nil) .nil) (.cons (.ret (.tup (.cons (.cst (.str "quote")) (.cons (.slice (.var 0) (.e (.var 1)) (.e (.bin .add (.var 2) (.cst (.int 1))))) (.cons (.bin .add (.var 2) (.cst (.int 1))) .nil))))) .nil)))
def yH(F g:Nat->Nat):Ss:=(.cons (.gY (.name 3) (.rng (.cons (.glob (g 2)) (.cons (.cst (.int 0)) (.cons (.neg (.cst (.int 1))) .nil)))) (.cons (.ite (.call (F 0) (.cons (.var 0) (.cons (.slice (.var 1) (.e (.var 2)) (.e (.bin .add (.var 2) (.var 3)))) .nil))) (.cons (.ret (.tup (.cons (.cst (.str "sign")) (.cons (.slice (.var 1) (.e (.var 2)) (.e (.bin .add (.var 2) (.var 3)))) (.cons (.bin .add (.var 2) (.bi .len (.cons (.slice (.var 1) (.e (.var 2)) (.e (.bin .add (.var 2) (.var 3)))) .nil))) .nil))))) .nil) .nil) .nil)) (.cons (.raise "NoRead" (.cons (.var 2) .nil)) .nil))
def yI(F g:Nat->Nat):Ss:=(.cons (.asg (.name 4) (.ix (.var 2) (.var 3))) (.cons (.ite (.cmp .isin (.var 4) (.glob (g 1))) (.cons (.ret (.call (F 9) (.cons (.var 2) (.cons (.var 3) .nil)))) .nil) .nil) (.cons (.ite (.cmp .eq (.var 4) (.call (F 5) (.cons (.var 0) .nil))) (.cons (.asg (.name 5) (.call (F 8) (.cons (.var 2) (.cons (.var 3) .nil)))) (.cons (.ret (.tup (.cons (.cst (.str "remark")) (.cons (.me .i8 (.slice (.var 2) (.e (.var 3)) (.e (.var 5))) (.cons (.cst (.str " ")) .nil)) (.cons (.var 5) .nil))))) .nil)) .nil) (.cons (.ite (.cmp .eq (.var 4) (.call (F 6) (.cons (.var 0) .nil))) (.cons (.ret (.call (F 10) (.cons (.var 2) (.cons (.var 3) .nil)))) .nil) .nil) (.cons (.ite (.cmp .isin (.var 4) (.var 1)) (.cons (.ret (.tup (.cons (.ix (.var 1) (.var 4)) (.cons (.var 4) (.cons (.bin .add (.var 3) (.cst (.int 1))) .nil))))) .nil) .nil) (.cons (.ret (.call (F 11) (.cons (.var 0) (.cons (.var 2) (.cons (.var 3) .nil))))) .nil))))))
def yJ(F g:Nat->Nat):Ss:=(.cons (.asg (.name 2) (.call (F 7) (.cons (.var 0) .nil))) (.cons (.asg (.name 3) (.lst true .nil)) (.cons (.asg (.name 4) (.cst (.int 0))) (.cons (.cX (.cmp .lt (.var 4) (.bi .len (.cons (.var 1) .nil))) (.cons (.ite (.cmp .isin (.ix (.var 1) (.var 4)) (.glob (g 3))) (.cons (.aug 4 .add (.cst (.int 1))) (.cons (.cont) .nil)) .nil) (.cons (.nB (.cons (.asg (.tup (.cons (.name 5) (.cons (.name 6) (.cons (.name 7) .nil)))) (.call (F 12) (.cons (.var 0) (.cons (.var 2) (.cons (.var 1) (.cons (.var 4) .nil)))))) .nil) ["NoRead"] (some 8) (.ret true [.frz 3,.fld "place"])) (.cons (.expr (.me .append (.var 3) (.cons (.tup (.cons (.var 5) (.cons (.var 6) (.cons (.var 4) .nil)))) .nil))) (.cons (.asg (.name 4) (.var 7)) .nil))))) (.cons (.ret (.tup (.cons (.frz (.var 3)) (.cons (.cst .none) .nil)))) .nil)))))
def DJ(F g:Nat->Nat):Ss:=(.cons (.asg (.fld (.var 0) "spot_sort") (.var 1)) (.cons (.asg (.fld (.var 0) "spot_text") (.var 2)) (.cons (.asg (.fld (.var 0) "spot_place") (.var 3)) (.cons (.asg (.fld (.var 0) "spot_line") (.var 4)) (.cons (.asg (.fld (.var 0) "begins") (.var 5)) .nil)))))
def DK(F g:Nat->Nat):Ss:=(.cons (.jP 2 3 4 (.lst true .nil) (.cst (.int 0)) (.cst (.int 0))) (.cons (.gY (.tup (.cons (.name 5) (.cons (.name 6) (.cons (.name 7) .nil)))) (.e (.var 1)) (.cons (.asg (.name 8) (.me .count (.slice (.var 0) (.e (.var 4)) (.e (.var 7))) (.cons (.cst (.str "\n")) .nil))) (.cons (.expr (.me .append (.var 2) (.cons (.new "Spot" (.cons (.var 5) (.cons (.var 6) (.cons (.var 7) (.cons (.bin .add (.var 3) (.var 8)) (.cons (.or (.cons (.cmp .gt (.var 8) (.cst (.int 0))) (.cons (.cmp .eq (.bi .len (.cons (.var 2) .nil)) (.cst (.int 0))) .nil))) .nil))))) .nil) .nil))) (.cons (.par 3 4 (.bin .add (.var 3) (.var 8)) (.var 7)) .nil)))) (.cons (.ret (.var 2)) .nil)))
def DL(F g:Nat->Nat):Ss:=(.cons (.asg (.fld (.var 0) "read_from") (.var 2)) (.cons (.asg (.fld (.var 0) "by_lines") (.cmp .eq (.call (F 18) (.cons (.var 1) .nil)) (.cst (.str "lines")))) (.cons (.asg (.fld (.var 0) "leaving") (.bin .add (.bi .str (.cons (.call (F 19) (.cons (.var 1) .nil)) .nil)) (.glob (g 0)))) (.cons (.asg (.tup (.cons (.name 3) (.cons (.name 4) .nil))) (.call (F 20) (.cons (.var 1) (.cons (.var 2) .nil)))) (.cons (.asg (.fld (.var 0) "bad_place") (.ite (.cmp .is (.var 4) (.cst .none)) (.bi .len (.cons (.var 2) .nil)) (.var 4))) (.cons (.asg (.fld (.var 0) "spots") (.call (F 1) (.cons (.var 2) (.cons (.var 3) .nil)))) (.cons (.asg (.fld (.var 0) "at_spot") (.cst (.int 0))) (.cons (.asg (.fld (.var 0) "last_line") (.neg (.cst (.int 1)))) .nil))))))))
def DM(F g:Nat->Nat):Ss:=(.cons (.ret (.ite (.cmp .lt (.fld (.var 0) "at_spot") (.bi .len (.cons (.fld (.var 0) "spots") .nil))) (.fld (.ix (.fld (.var 0) "spots") (.fld (.var 0) "at_spot")) "spot_sort") (.cst (.str "")))) .nil)
def DN(F g:Nat->Nat):Ss:=(.cons (.ret (.ite (.cmp .lt (.fld (.var 0) "at_spot") (.bi .len (.cons (.fld (.var 0) "spots") .nil))) (.fld (.ix (.fld (.var 0) "spots") (.fld (.var 0) "at_spot")) "spot_line") (.bin .add (.fld (.var 0) "last_line") (.cst (.int 1))))) .nil)
def DQ(F g:Nat->Nat):Ss:=(.cons (.raise "NoRead" (.cons (.ite (.cmp .lt (.fld (.var 0) "at_spot") (.bi .len (.cons (.fld (.var 0) "spots") .nil))) (.fld (.ix (.fld (.var 0) "spots") (.fld (.var 0) "at_spot")) "spot_place") (.fld (.var 0) "bad_place")) .nil)) .nil)
def DR(F g:Nat->Nat):Ss:=(.cons (.asg (.name 1) (.ix (.fld (.var 0) "spots") (.fld (.var 0) "at_spot"))) (.cons (.qk (.var 0) "at_spot" .add (.cst (.int 1))) (.cons (.asg (.fld (.var 0) "last_line") (.fld (.var 1) "spot_line")) (.cons (.ret (.fld (.var 1) "spot_text")) .nil))))
def DV(F g:Nat->Nat):Ss:=(.cons (.ret (.and (.cons (.cmp .eq (.av "Reader" "next_sort" (.var 0) .nil) (.cst (.str "remark"))) (.cons (.cmp .eq (.fld (.ix (.fld (.var 0) "spots") (.fld (.var 0) "at_spot")) "begins") (.var 1)) .nil)))) .nil)
def DW(F g:Nat->Nat):Ss:=(.cons (.ret (.ite (.av "Reader" "is_remark" (.var 0) (.cons (.cst (.bool false)) .nil)) (.av "Reader" "take_spot" (.var 0) .nil) (.cst .none))) .nil)
def DY(F g:Nat->Nat):Ss:=(.cons (.asg (.name 1) (.lst true .nil)) (.cons (.cX (.av "Reader" "is_remark" (.var 0) (.cons (.cst (.bool true)) .nil)) (.cons (.expr (.me .append (.var 1) (.cons (.av "Reader" "take_spot" (.var 0) .nil) .nil))) .nil)) (.cons (.ret (.bi .tuple (.cons (.var 1) .nil))) .nil)))
def yK(F g:Nat->Nat):Ss:=(.cons (.asg (.name 1) (.av "Reader" "take_spot" (.var 0) .nil)) (.cons (.jP 2 3 4 (.av "Reader" "remark_behind" (.var 0) .nil) (.lst true .nil) (.cst (.bool true))) (.cons (.asg (.name 5) (.av "Reader" "remarks_ahead" (.var 0) .nil)) (.cons (.cX (.and (.cons (.var 4) (.cons (.cmp .ne (.av "Reader" "next_sort" (.var 0) .nil) (.cst (.str "shut"))) .nil))) (.cons (.asg (.name 6) (.lst true (.cons (.av "Reader" "read_thing" (.var 0) .nil) .nil))) (.cons (.cX (.cmp .isin (.av "Reader" "next_sort" (.var 0) .nil) (.glob (g 1))) (.cons (.expr (.me .append (.var 6) (.cons (.av "Reader" "read_thing" (.var 0) .nil) .nil))) .nil)) (.cons (.asg (.name 4) (.cmp .eq (.av "Reader" "next_sort" (.var 0) .nil) (.cst (.str "part")))) (.cons (.ite (.var 4) (.cons (.expr (.av "Reader" "take_spot" (.var 0) .nil)) .nil) .nil) (.cons (.expr (.me .append (.var 3) (.cons (.tup (.cons (.var 5) (.cons (.bi .tuple (.cons (.var 6) .nil)) (.cons (.var 4) (.cons (.av "Reader" "remark_behind" (.var 0) .nil) .nil))))) .nil))) (.cons (.asg (.name 5) (.av "Reader" "remarks_ahead" (.var 0) .nil)) .nil))))))) (.cons (.ite (.or (.cons (.cmp .ne (.av "Reader" "next_sort" (.var 0) .nil) (.cst (.str "shut"))) (.cons (.cmp .ne (.fld (.ix (.fld (.var 0) "spots") (.fld (.var 0) "at_spot")) "spot_text") (.xA (g 2) (.var 1))) .nil))) (.cons (.expr (.av "Reader" "refuse" (.var 0) .nil)) .nil) .nil) (.cons (.expr (.av "Reader" "take_spot" (.var 0) .nil)) (.cons (.ret (.tup (.cons (.cst (.str "group")) (.cons (.var 1) (.cons (.var 2) (.cons (.bi .tuple (.cons (.var 3) .nil)) (.cons (.var 5) .nil))))))) .nil)))))))
def yL(F g:Nat->Nat):Ss:=(.cons (.asg (.name 1) (.av "Reader" "next_sort" (.var 0) .nil)) (.cons (.ite (.cmp .oZ (.var 1) (.glob (g 1))) (.cons (.expr (.av "Reader" "refuse" (.var 0) .nil)) .nil) .nil) (.cons (.ret (.ite (.cmp .eq (.var 1) (.cst (.str "open"))) (.av "Reader" "read_group" (.var 0) .nil) (.tup (.cons (.var 1) (.cons (.av "Reader" "take_spot" (.var 0) .nil) .nil))))) .nil)))
def yM(F g:Nat->Nat):Ss:=(.cons (.ret (.or (.cons (.not (.fld (.var 0) "by_lines")) (.cons (.cmp .eq (.av "Reader" "next_line" (.var 0) .nil) (.fld (.var 0) "last_line")) .nil)))) .nil)
def yN(F g:Nat->Nat):Ss:=(.cons (.asg (.name 1) (.fld (.var 0) "at_spot")) (.cons (.asg (.name 2) (.lst true (.cons (.av "Reader" "read_thing" (.var 0) .nil) .nil))) (.cons (.cX (.and (.cons (.cmp .isin (.av "Reader" "next_sort" (.var 0) .nil) (.glob (g 1))) (.cons (.av "Reader" "is_on_line" (.var 0) .nil) .nil))) (.cons (.expr (.me .append (.var 2) (.cons (.av "Reader" "read_thing" (.var 0) .nil) .nil))) .nil)) (.cons (.asg (.name 3) (.ix (.fld (.var 0) "spots") (.bin .sub (.fld (.var 0) "at_spot") (.cst (.int 1))))) (.cons (.asg (.name 4) (.slice (.fld (.var 0) "read_from") (.e (.fld (.ix (.fld (.var 0) "spots") (.var 1)) "spot_place")) (.e (.bin .add (.fld (.var 3) "spot_place") (.bi .len (.cons (.fld (.var 3) "spot_text") .nil)))))) (.cons (.ret (.tup (.cons (.bi .tuple (.cons (.var 2) .nil)) (.cons (.var 4) .nil)))) .nil))))))
def yO(F g:Nat->Nat):Ss:=(.cons (.expr (.av "Reader" "take_spot" (.var 0) .nil)) (.cons (.asg (.name 1) (.av "Reader" "remark_behind" (.var 0) .nil)) (.cons (.asg (.tup (.cons (.name 2) (.cons (.name 3) .nil))) (.av "Reader" "read_rows" (.var 0) (.cons (.cst (.bool true)) .nil))) (.cons (.ite (.cmp .ne (.av "Reader" "next_sort" (.var 0) .nil) (.cst (.str "finish"))) (.cons (.expr (.av "Reader" "refuse" (.var 0) .nil)) .nil) .nil) (.cons (.expr (.av "Reader" "take_spot" (.var 0) .nil)) (.cons (.ret (.tup (.cons (.cst (.str "block")) (.cons (.var 1) (.cons (.var 2) (.cons (.var 3) .nil)))))) .nil))))))
def yP(F g:Nat->Nat):Ss:=(.cons (.ite (.and (.cons (.cmp .eq (.av "Reader" "next_sort" (.var 0) .nil) (.cst (.str "begin"))) (.cons (.av "Reader" "is_on_line" (.var 0) .nil) .nil))) (.cons (.ret (.av "Reader" "read_block" (.var 0) .nil)) .nil) .nil) (.cons (.ite (.not (.fld (.var 0) "by_lines")) (.cons (.ite (.cmp .ne (.av "Reader" "next_sort" (.var 0) .nil) (.cst (.str "end"))) (.cons (.expr (.av "Reader" "refuse" (.var 0) .nil)) .nil) .nil) (.cons (.expr (.av "Reader" "take_spot" (.var 0) .nil)) (.cons (.ret (.tup (.cons (.cst (.str "end")) .nil))) .nil))) .nil) (.cons (.asg (.name 2) (.and (.cons (.var 1) (.cons (.cmp .eq (.av "Reader" "next_sort" (.var 0) .nil) (.cst (.str "finish"))) .nil)))) (.cons (.ite (.and (.cons (.cmp .eq (.av "Reader" "next_line" (.var 0) .nil) (.fld (.var 0) "last_line")) (.cons (.not (.av "Reader" "is_remark" (.var 0) (.cons (.cst (.bool false)) .nil))) (.cons (.not (.var 2)) .nil)))) (.cons (.expr (.av "Reader" "refuse" (.var 0) .nil)) .nil) .nil) (.cons (.ret (.tup (.cons (.cst (.str "line")) .nil))) .nil)))))
def yQ(F g:Nat->Nat):Ss:=(.cons (.jP 2 3 4 (.lst true .nil) (.fld (.var 0) "last_line") (.av "Reader" "next_line" (.var 0) .nil)) (.cons (.asg (.name 5) (.av "Reader" "remarks_ahead" (.var 0) .nil)) (.cons (.cX (.cmp .oZ (.av "Reader" "next_sort" (.var 0) .nil) (.tup (.cons (.cst (.str "")) (.cons (.cst (.str "finish")) .nil)))) (.cons (.ite (.and (.cons (.fld (.var 0) "by_lines") (.cons (.cmp .gt (.bi .len (.cons (.var 2) .nil)) (.cst (.int 0))) (.cons (.cmp .eq (.av "Reader" "next_line" (.var 0) .nil) (.var 3)) .nil)))) (.cons (.expr (.av "Reader" "refuse" (.var 0) .nil)) .nil) .nil) (.cons (.asg (.tup (.cons (.name 6) (.cons (.name 7) .nil))) (.av "Reader" "read_head" (.var 0) .nil)) (.cons (.asg (.name 8) (.ite (.cmp .isin (.fld (.var 0) "leaving") (.var 5)) (.var 7) (.cst .none))) (.cons (.asg (.name 9) (.av "Reader" "read_ending" (.var 0) (.cons (.var 1) .nil))) (.cons (.expr (.me .append (.var 2) (.cons (.tup (.cons (.bi .max2 (.cons (.cst (.int 0)) (.cons (.bin .sub (.bin .sub (.var 4) (.var 3)) (.cst (.int 1))) .nil))) (.cons (.var 5) (.cons (.var 6) (.cons (.var 8) (.cons (.var 9) (.cons (.av "Reader" "remark_behind" (.var 0) .nil) .nil))))))) .nil))) (.cons (.par 3 4 (.fld (.var 0) "last_line") (.av "Reader" "next_line" (.var 0) .nil)) (.cons (.asg (.name 5) (.av "Reader" "remarks_ahead" (.var 0) .nil)) .nil)))))))) (.cons (.ret (.tup (.cons (.bi .tuple (.cons (.var 2) .nil)) (.cons (.var 5) .nil)))) .nil))))
def yR(F g:Nat->Nat):Ss:=(.cons (.ite (.not (.nS (.var 1) [.str])) (.cons (.raise "NoRead" (.cons (.cst .none) .nil)) .nil) .nil) (.cons (.asg (.name 2) (.new "Reader" (.cons (.var 0) (.cons (.var 1) .nil)) .nil)) (.cons (.asg (.name 3) (.av "Reader" "read_rows" (.var 2) (.cons (.cst (.bool false)) .nil))) (.cons (.ite (.or (.cons (.cmp .ne (.av "Reader" "next_sort" (.var 2) .nil) (.cst (.str ""))) (.cons (.cmp .lt (.fld (.var 2) "bad_place") (.bi .len (.cons (.var 1) .nil))) .nil))) (.cons (.expr (.av "Reader" "refuse" (.var 2) .nil)) .nil) .nil) (.cons (.ret (.var 3)) .nil)))))
def yS(F g:Nat->Nat):Ss:=(.cons (.ret (.ix (.var 0) (.cst (.int 1)))) .nil)
end G
namespace K11
open PySem PySem.Spec PyProof.Rows L2 G
def rF(n:Nat):Nat:=if n<=17 then n+15 else if n=18 then 0 else if n=19 then 6 else 14
def rG(n:Nat):Nat:=[4,6,5].getD n 0
def tG(n:Nat):Nat:=[3,1,0,2].getD n 0
def b0:Ss:=G.yS rF rG
def f0:Fn:=⟨1,1,false,b0⟩
def b1:Ss:=G.Dr rF rG
def f1:Fn:=⟨2,2,false,b1⟩
def b2:Ss:=G.Ds rF rG
def f2:Fn:=⟨1,2,true,b2⟩
def b3:Ss:=G.Dt rF rG
def f3:Fn:=⟨1,1,false,b3⟩
def b4:Ss:=G.Du rF rG
def f4:Fn:=⟨1,1,false,b4⟩
def b5:Ss:=G.Dy rF rG
def f5:Fn:=⟨1,1,false,b5⟩
def b6:Ss:=G.Dz rF rG
def f6:Fn:=⟨1,1,false,b6⟩
def b7:Ss:=G.DB rF rG
def f7:Fn:=⟨1,1,false,b7⟩
def b8:Ss:=G.DC (fun n=>n+1) tG
def f8:Fn:=⟨1,4,false,b8⟩
def b9:Ss:=G.DF (fun n=>n+1) tG
def f9:Fn:=⟨2,3,false,b9⟩
def R3:Ss:=G.DH (fun n=>n+1) tG
def B6:Fn:=⟨2,3,false,R3⟩
def b11:Ss:=G.yG (fun n=>n+1) tG
def B7:Fn:=⟨2,3,false,b11⟩
def b12:Ss:=G.yH (fun n=>n+1) tG
def B9:Fn:=⟨3,4,false,b12⟩
def b13:Ss:=G.yI (fun n=>n+1) tG
def Ca:Fn:=⟨4,6,false,b13⟩
def b14:Ss:=G.yJ (fun n=>n+1) tG
def LJ:Fn:=⟨2,9,false,b14⟩
def b15:Ss:=G.DJ rF rG
def LK:Fn:=⟨6,6,true,b15⟩
def b16:Ss:=G.DK rF rG
def LL:Fn:=⟨2,9,true,b16⟩
def b17:Ss:=G.DL rF rG
def LN:Fn:=⟨3,5,true,b17⟩
def b18:Ss:=G.DM rF rG
def LO:Fn:=⟨1,1,false,b18⟩
def b19:Ss:=G.DN rF rG
def WH:Fn:=⟨1,1,false,b19⟩
def b20:Ss:=G.DQ rF rG
def WI:Fn:=⟨1,1,false,b20⟩
def b21:Ss:=G.DR rF rG
def WJ:Fn:=⟨1,2,false,b21⟩
def b22:Ss:=G.DV rF rG
def WK:Fn:=⟨2,2,false,b22⟩
def b23:Ss:=G.DW rF rG
def WL:Fn:=⟨1,1,false,b23⟩
def b24:Ss:=G.DY rF rG
def WM:Fn:=⟨1,2,false,b24⟩
def b25:Ss:=G.yK rF rG
def WN:Fn:=⟨1,7,false,b25⟩
def b26:Ss:=G.yL rF rG
def WO:Fn:=⟨1,2,false,b26⟩
def b27:Ss:=G.yM rF rG
def WQ:Fn:=⟨1,1,false,b27⟩
def b28:Ss:=G.yN rF rG
def WR:Fn:=⟨1,5,false,b28⟩
def b29:Ss:=G.yO rF rG
def WS:Fn:=⟨1,4,false,b29⟩
def b30:Ss:=G.yP rF rG
def WT:Fn:=⟨2,3,false,b30⟩
def b31:Ss:=G.yQ rF rG
def WU:Fn:=⟨2,10,false,b31⟩
def b32:Ss:=G.yR rF rG
def WV:Fn:=⟨2,4,false,b32⟩
def b33:Ss:=(.cons (.asg (.name 2) (.ite (.cmp .lt (.var 1) (.bi .len (.cons (.var 0) .nil))) (.ix (.var 0) (.var 1)) (.cst (.int 0)))) (.cons (.asg (.name 3) (.bin .mod (.bin .mul (.bin .add (.bin .add (.bin .mod (.var 2) (.cst (.int 2305843009213693951))) (.bin .mul (.bin .mul (.cst (.int 7919)) (.var 1)) (.var 1))) (.cst (.int 3))) (.cst (.int 48271))) (.cst (.int 2305843009213693921)))) (.cons (.ret (.lst true (.cons (.ite (.cmp .ge (.bi .abs (.cons (.var 2) .nil)) (.bin .pow (.cst (.int 10)) (.cst (.int 18)))) (.bi .abs (.cons (.var 2) .nil)) (.cst (.int 0))) (.cons (.var 3) (.cons (.cst (.int 0)) (.cons (.cst (.int 0)) (.cons (.cst (.int 0)) .nil))))))) .nil)))
def WW:Fn:=⟨2,4,true,b33⟩
def b34:Ss:=(.cons (.ite (.cmp .gt (.ix (.var 0) (.cst (.int 0))) (.cst (.int 0))) (.cons (.asg (.name 2) (.bin .mod (.ix (.var 0) (.cst (.int 0))) (.var 1))) (.cons (.asg (.sub (.var 0) (.cst (.int 0))) (.bin .fdiv (.ix (.var 0) (.cst (.int 0))) (.var 1))) (.cons (.ret (.var 2)) .nil))) .nil) (.cons (.asg (.sub (.var 0) (.cst (.int 2))) (.bin .add (.ix (.var 0) (.cst (.int 2))) (.cst (.int 1)))) (.cons (.asg (.name 3) (.bin .mod (.bin .mul (.bin .add (.bin .add (.ix (.var 0) (.cst (.int 1))) (.bin .mul (.bin .mul (.cst (.int 65537)) (.ix (.var 0) (.cst (.int 2)))) (.ix (.var 0) (.cst (.int 2))))) (.cst (.int 11))) (.cst (.int 48271))) (.cst (.int 2305843009213693921)))) (.cons (.asg (.name 3) (.bin .mod (.bin .mul (.var 3) (.bin .add (.bin .mod (.var 3) (.cst (.int 1000003))) (.bin .mul (.cst (.int 99991)) (.ix (.var 0) (.cst (.int 2)))))) (.cst (.int 2305843009213693907)))) (.cons (.ret (.bin .mod (.bin .add (.bin .fdiv (.var 3) (.cst (.int 97))) (.bin .fdiv (.var 3) (.cst (.int 1000033)))) (.var 1))) .nil)))))
def WY:Fn:=⟨2,4,false,b34⟩
def b35:Ss:=(.cons (.ret (.ix (.var 1) (.call 34 (.cons (.var 0) (.cons (.bi .len (.cons (.var 1) .nil)) .nil))))) .nil)
def WZ:Fn:=⟨2,2,false,b35⟩
def F2:Ss:=(.cons (.lO (.cons (.name 2) (.cons (.name 3) .nil)) (.cons (.cst .none) (.cons (.cst .none) .nil))) (.cons (.nB (.cons (.asg (.name 2) (.call 32 (.cons (.var 0) (.cons (.var 1) .nil)))) .nil) ["LayError"] (some 4) (.keep 3)) (.cons (.ite (.cmp .is (.var 3) (.cst .none)) (.cons (.ret (.tup (.cons (.var 2) (.cons (.cst (.str "told")) .nil)))) .nil) .nil) (.cons (.asg (.name 5) (.sV (.var 3) ["NoBack","NoFile","NoFit","NoLine","NoLines","NoPlace","NoRule","NoStyle","NoText","NoTongue"])) (.cons (.asg (.name 6) (.and (.cons (.sV (.var 3) ["NoRead"]) (.cons (.sV (.var 3) ["ValueError"]) (.cons (.not (.var 5)) .nil))))) (.cons (.ret (.tup (.cons (.cst .none) (.cons (.ite (.var 6) (.fld (.var 3) "place") (.cst (.str "odd"))) .nil)))) .nil))))))
def LP:Fn:=⟨2,7,false,F2⟩
def Sj:Ss:=(.cons (.asg (.name 0) (.lst false (.cons (.cst (.str "R\na;")) (.cons (.cst (.str "a; R\n")) (.cons (.cst (.str "a; b; R\nc;")) (.cons (.cst (.str "a { R\n b; R\n R\n } R\nR\n")) (.cons (.cst (.str "f(R\n);")) (.cons (.cst (.str "f(R\n R\n R\n);")) .nil)))))))) (.cons (.asg (.name 0) (.bin .add (.var 0) (.lst false (.cons (.cst (.str "f(R\n R\n a, R\n R\n b R\n R\n);")) (.cons (.cst (.str "f(a, R\n);")) (.cons (.cst (.str "f(a R\n);")) (.cons (.cst (.str "f(g(a R\n) R\n);")) (.cons (.cst (.str "^{ R")) .nil)))))))) (.cons (.asg (.name 0) (.bin .add (.var 0) (.lst false (.cons (.cst (.str "a ^R\n;")) (.cons (.cst (.str "a\n^R\n;")) (.cons (.cst (.str "a ^R\n{ b; }")) (.cons (.cst (.str "f() ^R\n;")) (.cons (.cst (.str "f(a R\n^, b);")) (.cons (.cst (.str "f(a\nR\n^, b);")) .nil))))))))) (.cons (.asg (.name 0) (.bin .add (.var 0) (.lst false (.cons (.cst (.str "f(a\nR\n);")) (.cons (.cst (.str "f(a R\n^b);")) (.cons (.cst (.str "f(a\nR\n^b);")) (.cons (.cst (.str "f(g(a) R\n^, b);")) (.cons (.cst (.str "f(a, R\n^, b);")) .nil)))))))) (.cons (.asg (.name 0) (.bin .add (.var 0) (.lst false (.cons (.cst (.str "f(R\n^, a);")) (.cons (.cst (.str "f(a R\nR\n^g());")) (.cons (.cst (.str "f(g(R\na R\n), R\nh(R\n) R\n);")) (.cons (.cst (.str "a { R\n^;")) .nil))))))) (.cons (.asg (.name 0) (.bin .add (.var 0) (.lst false (.cons (.cst (.str "a { b; } R\n^;")) (.cons (.cst (.str "a; R\n^;")) .nil))))) (.cons (.asg (.name 0) (.bin .add (.var 0) (.lst false (.cons (.cst (.str "R\n^}")) (.cons (.cst (.str "a { R\n^")) (.cons (.cst (.str "a { b ^R\n; }")) (.cons (.cst (.str "f(a^; R\n")) (.cons (.cst (.str "a ^R")) (.cons (.cst (.str "R\n")) (.cons (.cst (.str "a; R\n\nR\n^)")) .nil)))))))))) (.cons (.ret (.bin .add (.var 0) (.lst false (.cons (.cst (.str "f(R\n^{ a;")) (.cons (.cst (.str "f(R\n^")) .nil))))) .nil))))))))
def Sk:Fn:=⟨0,1,false,Sj⟩
def Sl:Ss:=(.cons (.asg (.name 0) (.lst false (.cons (.cst (.str "R\na")) (.cons (.cst (.str "a R\n")) (.cons (.cst (.str "a R\nb")) (.cons (.cst (.str "a\nR\nb R\n R\n")) (.cons (.cst (.str "a { R\n b R\n R\n } R\nR")) (.cons (.cst (.str "a { b } R\nc")) .nil)))))))) (.cons (.asg (.name 0) (.bin .add (.var 0) (.lst false (.cons (.cst (.str "a { b R\n}")) (.cons (.cst (.str "f(R\n R\n a, R\n b R\n R\n) b R\n")) (.cons (.cst (.str "f(a\nR\n)")) (.cons (.cst (.str "f(g(a R\n) R\n)")) (.cons (.cst (.str "a R\n^{")) .nil)))))))) (.cons (.asg (.name 0) (.bin .add (.var 0) (.lst false (.cons (.cst (.str "a R\n^{ b }")) (.cons (.cst (.str "f(a R\n^, b)")) (.cons (.cst (.str "f(a\nR\n^, b)")) (.cons (.cst (.str "f(a R\n^b)")) (.cons (.cst (.str "f(R\n^, a)")) (.cons (.cst (.str "a { b } ^c R\n")) .nil))))))))) (.cons (.asg (.name 0) (.bin .add (.var 0) (.lst false (.cons (.cst (.str "a { R\n } R\n R\n^}")) (.cons (.cst (.str "f(a,\nR\n b\n) { R\n c R\n}")) (.cons (.cst (.str "f(a) R\n^) b")) (.cons (.cst (.str "R")) (.cons (.cst (.str "R\n\nR")) (.cons (.cst (.str "a\n^{ R")) .nil))))))))) (.cons (.ret (.bin .add (.var 0) (.lst false (.cons (.cst (.str "a { R\n^")) (.cons (.cst (.str "f(a R\n^")) (.cons (.cst (.str "a { b { c } R\n } R")) (.cons (.cst (.str "a { b { c } } R")) (.cons (.cst (.str "a { b { c } ^b } R")) (.cons (.cst (.str "a ^} R")) .nil))))))))) .nil)))))
def Sm:Fn:=⟨0,1,false,Sl⟩
def Sn:Ss:=(.cons (.asg (.name 3) (.dct true (.cons (.cst (.str "(")) (.ix (.var 2) (.cst (.int 0))) (.cons (.cst (.str ")")) (.ix (.var 2) (.cst (.int 1))) (.cons (.cst (.str ",")) (.ix (.var 2) (.cst (.int 2))) (.cons (.cst (.str ";")) (.ix (.var 2) (.cst (.int 3))) (.cons (.cst (.str "R")) (.ix (.var 2) (.cst (.int 4))) .nil))))))) (.cons (.expr (.me .update (.var 3) (.cons (.dct false (.cons (.cst (.str "f")) (.ix (.var 1) (.cst (.int 0))) (.cons (.cst (.str "a")) (.ix (.var 1) (.cst (.int 1))) (.cons (.cst (.str "c")) (.ix (.var 1) (.cst (.int 2))) .nil)))) .nil))) (.cons (.ret (.me .join (.cst (.str "")) (.cons (.comp false (.me .lg (.var 3) (.cons (.var 4) (.cons (.var 4) .nil))) (.name 4) (.e (.var 0)) .nil [4]) .nil))) .nil)))
def So:Fn:=⟨3,5,false,Sn⟩
def LQ:Ss:=(.cons (.asg (.name 2) (.ite (.cmp .isin (.cst (.str "^")) (.var 1)) (.me .jm (.var 1) (.cons (.cst (.str "^")) .nil)) (.cst (.str "told")))) (.cons (.asg (.name 3) (.me .replace (.var 1) (.cons (.cst (.str "^")) (.cons (.cst (.str "")) .nil)))) (.cons (.asg (.tup (.cons (.name 4) (.cons (.name 5) .nil))) (.call 36 (.cons (.var 0) (.cons (.var 3) .nil)))) (.cons (.ite (.or (.cons (.cmp .ne (.var 5) (.var 2)) (.cons (.nS (.var 5) [.bool]) .nil))) (.cons (.ret (.cst (.bool false))) .nil) .nil) (.cons (.asg (.name 6) (.bin .add (.bin .add (.cst (.str "'")) (.ix (.var 0) (.cst (.int 7)))) (.cst (.str "'")))) (.cons (.ret (.or (.cons (.cmp .ne (.var 5) (.cst (.str "told"))) (.cons (.cmp .eq (.me .count (.bi .repr (.cons (.call 32 (.cons (.var 0) (.cons (.var 3) .nil))) .nil)) (.cons (.var 6) .nil)) (.me .count (.var 3) (.cons (.ix (.var 0) (.cst (.int 7))) .nil))) .nil)))) .nil))))))
def Sq:Fn:=⟨2,7,false,LQ⟩
def Sv:Ss:=(.cons (.gY (.name 1) (.rng (.cons (.bi .max2 (.cons (.cst (.int 1)) (.cons (.bi .min2 (.cons (.cst (.int 2)) (.cons (.bi .len (.cons (.var 0) .nil)) .nil))) .nil))) .nil)) (.cons (.asg (.name 2) (.call 33 (.cons (.var 0) (.cons (.var 1) .nil)))) (.cons (.par 3 4 (.call 35 (.cons (.var 2) (.cons (.lst false (.cons (.cst (.str "()")) (.cons (.cst (.str "[]")) .nil))) .nil))) (.call 34 (.cons (.var 2) (.cons (.cst (.int 4)) .nil)))) (.cons (.jP 5 6 7 (.ix (.cst (.str ",;:|")) (.var 4)) (.ix (.cst (.str ",;:|")) (.bin .mod (.bin .add (.bin .add (.var 4) (.cst (.int 1))) (.call 34 (.cons (.var 2) (.cons (.cst (.int 3)) .nil)))) (.cst (.int 4)))) (.call 35 (.cons (.var 2) (.cons (.lst false (.cons (.cst (.str "#")) (.cons (.cst (.str "!")) (.cons (.cst (.str "@")) .nil)))) .nil)))) (.cons (.asg (.name 8) (.lst false (.cons (.call 35 (.cons (.var 2) (.cons (.lst false (.cons (.cst (.str "x")) (.cons (.cst (.str "fun")) (.cons (.cst (.str "_1")) .nil)))) .nil))) (.cons (.call 35 (.cons (.var 2) (.cons (.lst false (.cons (.cst (.str "y")) (.cons (.cst (.str "7")) (.cons (.cst (.str "zz")) .nil)))) .nil))) (.cons (.call 35 (.cons (.var 2) (.cons (.lst false (.cons (.cst (.str "w")) (.cons (.cst (.str "use")) .nil))) .nil))) .nil))))) (.cons (.asg (.name 9) (.tup (.cons (.cst (.str "tt")) (.cons (.cst (.str "ends")) (.cons (.tup (.cons (.cst (.str "-")) .nil)) (.cons (.tup (.cons (.var 3) .nil)) (.cons (.var 5) (.cons (.var 6) (.cons (.cst (.str "{}")) (.cons (.var 7) (.cons (.cst .none) .nil))))))))))) (.cons (.asg (.name 10) (.tup (.cons (.cst (.str "tt")) (.cons (.cst (.str "lines")) (.cons (.tup (.cons (.cst (.str "-")) .nil)) (.cons (.tup (.cons (.var 3) .nil)) (.cons (.var 5) (.cons (.cst .none) (.cons (.cst (.str "{}")) (.cons (.var 7) (.cons (.cst .none) .nil))))))))))) (.cons (.asg (.name 11) (.lst false (.cons (.ix (.var 3) (.cst (.int 0))) (.cons (.ix (.var 3) (.cst (.int 1))) (.cons (.var 5) (.cons (.var 6) (.cons (.var 7) .nil))))))) (.cons (.gY (.tup (.cons (.name 12) (.cons (.name 13) .nil))) (.e (.tup (.cons (.tup (.cons (.var 9) (.cons (.call 37 .nil) .nil))) (.cons (.tup (.cons (.var 10) (.cons (.call 38 .nil) .nil))) .nil)))) (.cons (.gY (.name 14) (.e (.var 13)) (.cons (.ite (.not (.call 40 (.cons (.var 12) (.cons (.call 39 (.cons (.var 14) (.cons (.var 8) (.cons (.var 11) .nil)))) .nil)))) (.cons (.ret (.cst (.bool false))) .nil) .nil) .nil)) .nil)) .nil))))))))) (.cons (.ret (.cst (.bool true))) .nil))
def Sw:Fn:=⟨1,15,false,Sv⟩
def exc:List Cl:=⟨"LayError",false,[],["LayError","ValueError","Exception","BaseException"]⟩::⟨"NoRead",true,["place"],["NoRead","LayError","ValueError","Exception","BaseException"]⟩::⟨"NoRule",true,["name"],["NoRule","LayError","ValueError","Exception","BaseException"]⟩::⟨"NoStyle",false,[],["NoStyle","LayError","ValueError","Exception","BaseException"]⟩::⟨"NoFit",true,["row","token"],["NoFit","LayError","ValueError","Exception","BaseException"]⟩::⟨"NoText",true,["row"],["NoText","LayError","ValueError","Exception","BaseException"]⟩::⟨"NoTongue",true,["name"],["NoTongue","LayError","ValueError","Exception","BaseException"]⟩::⟨"NoFile",true,["name"],["NoFile","LayError","ValueError","Exception","BaseException"]⟩::⟨"NoPlace",false,[],["NoPlace","LayError","ValueError","Exception","BaseException"]⟩::⟨"NoLines",false,[],["NoLines","LayError","ValueError","Exception","BaseException"]⟩::⟨"NoBack",false,[],["NoBack","LayError","ValueError","Exception","BaseException"]⟩::⟨"NoLine",false,[],["NoLine","LayError","ValueError","Exception","BaseException"]⟩::[]
def obs:List Ob:=⟨"Spot","spot_sort"::"spot_text"::"spot_place"::"spot_line"::"begins"::[],("__init__",15)::[]⟩::⟨"Reader","read_from"::"by_lines"::"leaving"::"bad_place"::"spots"::"at_spot"::"last_line"::[],("__init__",17)::("next_sort",18)::("next_line",19)::("refuse",20)::("take_spot",21)::("is_remark",22)::("remark_behind",23)::("remarks_ahead",24)::("read_group",25)::("read_thing",26)::("is_on_line",27)::("read_head",28)::("read_block",29)::("read_ending",30)::("read_rows",31)::[]⟩::[]
def bq:bU:=⟨(.int 3)::(.str "abcdefghijklmnopqrstuvwxyzABCDEFGHIJKLMNOPQRSTUVWXYZ0123456789_")::(.str " \n")::(.str "\n")::(.str " leave")::(.dict [((.str "("),(.str ")")),((.str "["),(.str "]")),((.str "{"),(.str "}"))])::(.tuple [(.str "word"),(.str "sign"),(.str "quote"),(.str "open")])::[],f0::f1::f2::f3::f4::f5::f6::f7::f8::f9::B6::B7::B9::Ca::LJ::LK::LL::LN::LO::WH::WI::WJ::WK::WL::WM::WN::WO::WQ::WR::WS::WT::WU::WV::WW::WY::WZ::LP::Sk::Sm::So::Sq::Sw::[],exc,obs⟩
abbrev bD(i:Nat):Stmt:=PySem.Challenge.pw_laidtongues_k11_where_remarks_stand.main.body.getD i (.Pass ⟨0,0,0,0⟩)
abbrev d0:aP:=⟨"kind_of",bD 15,["tongue"],f0,"kind_of",none,false⟩
abbrev d1:aP:=⟨"is_sign",bD 16,["tongue","text"],f1,"is_sign",none,false⟩
abbrev d2:aP:=⟨"shuts_of",bD 17,["tongue","pair"],f2,"shuts_of",none,false⟩
abbrev d3:aP:=⟨"part_of",bD 18,["tongue"],f3,"part_of",none,false⟩
abbrev d4:aP:=⟨"end_of",bD 19,["tongue"],f4,"end_of",none,false⟩
abbrev d5:aP:=⟨"block_of",bD 20,["tongue"],f5,"block_of",none,false⟩
abbrev d6:aP:=⟨"remark_of",bD 21,["tongue"],f6,"remark_of",none,false⟩
abbrev d7:aP:=⟨"quote_of",bD 22,["tongue"],f7,"quote_of",none,false⟩
abbrev d8:aP:=⟨"single_sorts",bD 27,["tongue","sorts","one","other"],f8,"single_sorts",none,false⟩
abbrev d9:aP:=⟨"line_end",bD 28,["text","place","found"],f9,"line_end",none,false⟩
abbrev W0:aP:=⟨"word_at",bD 29,["text","place","behind"],B6,"word_at",none,false⟩
abbrev W2:aP:=⟨"quote_at",bD 30,["text","place","behind"],B7,"quote_at",none,false⟩
abbrev W3:aP:=⟨"sign_at",bD 31,["tongue","text","place","size"],B9,"sign_at",none,false⟩
abbrev W4:aP:=⟨"token_at",bD 32,["tongue","sorts","text","place","sign","behind"],Ca,"token_at",none,false⟩
abbrev W5:aP:=⟨"tokens_till",bD 33,["tongue","text","sorts","found","place","sort","told","behind","caught"],LJ,"tokens_till",none,true⟩
abbrev W6:aP:=⟨"__init__",L2.inClass (bD 38) 0,["self","sort","text","place","line","begins"],LK,"Spot.__init__",some "Spot",false⟩
abbrev W7:aP:=⟨"spots_of",bD 39,["text","found","spots","line","seen","sort","token","place","feeds"],LL,"spots_of",none,false⟩
abbrev W8:aP:=⟨"__init__",L2.inClass (bD 40) 0,["self","tongue","text","found","bad"],LN,"Reader.__init__",some "Reader",true⟩
abbrev W9:aP:=⟨"next_sort",L2.inClass (bD 40) 1,["self"],LO,"Reader.next_sort",some "Reader",false⟩
abbrev Xa:aP:=⟨"next_line",L2.inClass (bD 40) 2,["self"],WH,"Reader.next_line",some "Reader",false⟩
abbrev Xb:aP:=⟨"refuse",L2.inClass (bD 40) 3,["self"],WI,"Reader.refuse",some "Reader",false⟩
abbrev Xc:aP:=⟨"take_spot",L2.inClass (bD 40) 4,["self","spot"],WJ,"Reader.take_spot",some "Reader",false⟩
abbrev Xd:aP:=⟨"is_remark",L2.inClass (bD 40) 5,["self","begins"],WK,"Reader.is_remark",some "Reader",false⟩
abbrev Xe:aP:=⟨"remark_behind",L2.inClass (bD 40) 6,["self"],WL,"Reader.remark_behind",some "Reader",false⟩
abbrev Xf:aP:=⟨"remarks_ahead",L2.inClass (bD 40) 7,["self","found"],WM,"Reader.remarks_ahead",some "Reader",false⟩
abbrev Xg:aP:=⟨"read_group",L2.inClass (bD 40) 8,["self","begin","behind","parts","signed","ahead","inner"],WN,"Reader.read_group",some "Reader",false⟩
abbrev Xh:aP:=⟨"read_thing",L2.inClass (bD 40) 9,["self","sort"],WO,"Reader.read_thing",some "Reader",false⟩
abbrev Xj:aP:=⟨"is_on_line",L2.inClass (bD 40) 10,["self"],WQ,"Reader.is_on_line",some "Reader",false⟩
abbrev Xk:aP:=⟨"read_head",L2.inClass (bD 40) 11,["self","begin","found","last","head_text"],WR,"Reader.read_head",some "Reader",false⟩
abbrev Xl:aP:=⟨"read_block",L2.inClass (bD 40) 12,["self","behind","inner_rows","last"],WS,"Reader.read_block",some "Reader",false⟩
abbrev Xm:aP:=⟨"read_ending",L2.inClass (bD 40) 13,["self","within","is_finish"],WT,"Reader.read_ending",some "Reader",false⟩
abbrev Xn:aP:=⟨"read_rows",L2.inClass (bD 40) 14,["self","within","found","line","first","ahead","things","head_text","kept","ending"],WU,"Reader.read_rows",some "Reader",false⟩
abbrev Xo:aP:=⟨"read",bD 41,["tongue","text","reader","tree"],WV,"read",none,true⟩
abbrev Xp:aP:=⟨"_law_box",bD 43,["_law_script","_law_k","_law_cell","_law_mixed"],WW,"_law_box",none,false⟩
abbrev Xq:aP:=⟨"_law_take",bD 44,["_law_box_here","_law_many","_law_digit","_law_mixed"],WY,"_law_take",none,false⟩
abbrev Xs:aP:=⟨"_law_of",bD 45,["_law_box_here","_law_some"],WZ,"_law_of",none,false⟩
abbrev Xu:aP:=⟨"_law_outcome",bD 46,["_law_tongue","_law_text","_law_found","_law_caught","e","_law_others","_law_good"],LP,"_law_outcome",none,true⟩
abbrev Xv:aP:=⟨"_law_ends_texts",bD 47,["_law_some"],Sk,"_law_ends_texts",none,false⟩
abbrev Xw:aP:=⟨"_law_lines_texts",bD 48,["_law_some"],Sm,"_law_lines_texts",none,false⟩
abbrev Xx:aP:=⟨"_law_told_text",bD 49,["_law_text","_law_words","_law_signs","_law_known","_law_sign"],So,"_law_told_text",none,false⟩
abbrev Xy:aP:=⟨"_law_right",bD 50,["_law_tongue","_law_text","_law_due","_law_plain","_law_tree","_law_place","_law_mark"],Sq,"_law_right",none,true⟩
abbrev Sy:aP:=⟨"law",bD 51,["_law_script","_law_k","_law_box_here","_law_pair","_law_at","_law_part","_law_end","_law_mark","_law_words","_law_ends","_law_lines","_law_signs","_law_tongue","_law_some","_law_text"],Sw,"law",none,true⟩
def tab:Tab:=⟨"kind_of"::"is_sign"::"shuts_of"::"part_of"::"end_of"::"block_of"::"remark_of"::"quote_of"::"single_sorts"::"line_end"::"word_at"::"quote_at"::"sign_at"::"token_at"::"tokens_till"::"__init__"::"spots_of"::"__init__"::"next_sort"::"next_line"::"refuse"::"take_spot"::"is_remark"::"remark_behind"::"remarks_ahead"::"read_group"::"read_thing"::"is_on_line"::"read_head"::"read_block"::"read_ending"::"read_rows"::"read"::"_law_box"::"_law_take"::"_law_of"::"_law_outcome"::"_law_ends_texts"::"_law_lines_texts"::"_law_told_text"::"_law_right"::"law"::[],("MOST_SIGNS",false)::("WORD_SIGNS",false)::("GAPS",false)::("LINE_FEED",false)::("LEAVE",false)::("SHUTS",true)::("THINGS",false)::[],"len"::"range"::"str"::"tuple"::"max"::"isinstance"::"abs"::"repr"::"bool"::"min"::[],exc,"LayError"::"NoRead"::"NoRule"::"NoStyle"::"NoFit"::"NoText"::"NoTongue"::"NoFile"::"NoPlace"::"NoLines"::"NoBack"::"NoLine"::"ValueError"::[],[],obs,[15,17,18,19,20,21,22,23,24,25,26,27,28,29,30,31],[],[],[14,17,32,36,40,41]⟩
def defs:List aP:=d0::d1::d2::d3::d4::d5::d6::d7::d8::d9::W0::W2::W3::W4::W5::W6::W7::W8::W9::Xa::Xb::Xc::Xd::Xe::Xf::Xg::Xh::Xj::Xk::Xl::Xm::Xn::Xo::Xp::Xq::Xs::Xu::Xv::Xw::Xx::Xy::Sy::[]
theorem c0:bB tab d0=true:=by decide +kernel
theorem c1:bB tab d1=true:=by decide +kernel
theorem c2:bB tab d2=true:=by decide +kernel
theorem c3:bB tab d3=true:=by decide +kernel
theorem c4:bB tab d4=true:=by decide +kernel
theorem c5:bB tab d5=true:=by decide +kernel
theorem c6:bB tab d6=true:=by decide +kernel
theorem c7:bB tab d7=true:=by decide +kernel
theorem c8:bB tab d8=true:=by decide +kernel
theorem c9:bB tab d9=true:=by decide +kernel
theorem c10:bB tab W0=true:=by decide +kernel
theorem c11:bB tab W2=true:=by decide +kernel
theorem c12:bB tab W3=true:=by decide +kernel
theorem c13:bB tab W4=true:=by decide +kernel
theorem c14:bB tab W5=true:=by decide +kernel
theorem c15:bB tab W6=true:=by decide +kernel
theorem c16:bB tab W7=true:=by decide +kernel
theorem c17:bB tab W8=true:=by decide +kernel
theorem c18:bB tab W9=true:=by decide +kernel
theorem c19:bB tab Xa=true:=by decide +kernel
theorem c20:bB tab Xb=true:=by decide +kernel
theorem c21:bB tab Xc=true:=by decide +kernel
theorem c22:bB tab Xd=true:=by decide +kernel
theorem c23:bB tab Xe=true:=by decide +kernel
theorem c24:bB tab Xf=true:=by decide +kernel
theorem c25:bB tab Xg=true:=by decide +kernel
theorem c26:bB tab Xh=true:=by decide +kernel
theorem c27:bB tab Xj=true:=by decide +kernel
theorem c28:bB tab Xk=true:=by decide +kernel
theorem c29:bB tab Xl=true:=by decide +kernel
theorem c30:bB tab Xm=true:=by decide +kernel
theorem c31:bB tab Xn=true:=by decide +kernel
theorem c32:bB tab Xo=true:=by decide +kernel
theorem c33:bB tab Xp=true:=by decide +kernel
theorem c34:bB tab Xq=true:=by decide +kernel
theorem c35:bB tab Xs=true:=by decide +kernel
theorem c36:bB tab Xu=true:=by decide +kernel
theorem c37:bB tab Xv=true:=by decide +kernel
theorem c38:bB tab Xw=true:=by decide +kernel
theorem c39:bB tab Xx=true:=by decide +kernel
theorem c40:bB tab Xy=true:=by decide +kernel
theorem c41:bB tab Sy=true:=by decide +kernel
theorem N4:defs.all (bB tab)=true:=by unfold defs;simp only[zay,List.all_nil,zbE,zaa];exact⟨c0,c1,c2,c3,c4,c5,c6,c7,c8,c9,c10,c11,c12,c13,c14,c15,c16,c17,c18,c19,c20,c21,c22,c23,c24,c25,c26,c27,c28,c29,c30,c31,c32,c33,c34,c35,c36,c37,c38,c39,c40,c41⟩
end K11
namespace K11
open PySem PySem.W PySem.Calls PyProof.Rows
abbrev An:OpenRow:=OpenLaw.row PySem.Challenge.rw_laidtongues_k11_where_remarks_stand
abbrev vC:Program:=view An.prog [51]
def loose:List PySem.Str:="LayError"::"NoRead"::"NoRule"::"NoStyle"::"NoFit"::"NoText"::"NoTongue"::"NoFile"::"NoPlace"::"NoLines"::"NoBack"::"NoLine"::"MOST_SIGNS"::"kind_of"::"is_sign"::"shuts_of"::"part_of"::"end_of"::"block_of"::"remark_of"::"quote_of"::"WORD_SIGNS"::"GAPS"::"LINE_FEED"::"single_sorts"::"line_end"::"word_at"::"quote_at"::"sign_at"::"token_at"::"tokens_till"::"LEAVE"::"SHUTS"::"THINGS"::"Spot"::"spots_of"::"Reader"::"read"::"_law_box"::"_law_take"::"_law_of"::"_law_outcome"::"_law_ends_texts"::"_law_lines_texts"::"_law_told_text"::"_law_right"::[]
def xi:List G.Xi:=⟨"NoRead",L2.inClass (bD 2) 0,"LayError","NoRead.__init__"⟩::⟨"NoRule",L2.inClass (bD 3) 0,"LayError","NoRule.__init__"⟩::⟨"NoFit",L2.inClass (bD 5) 0,"LayError","NoFit.__init__"⟩::⟨"NoText",L2.inClass (bD 6) 0,"LayError","NoText.__init__"⟩::⟨"NoTongue",L2.inClass (bD 7) 0,"LayError","NoTongue.__init__"⟩::⟨"NoFile",L2.inClass (bD 8) 0,"LayError","NoFile.__init__"⟩::[]
theorem N5(w:World):HandSHeadRun.RunEq An vC (G.pN 8 tab bq defs xi) (G.Am 8 tab bq defs xi) 5840 loose (w.withFollow "special-get-raises" false):=by
 intro os
 kernel_rfl
theorem N6(w:World):HandSHeadRun.RunEq An vC (G.pN 8 tab bq defs xi) (G.Am 8 tab bq defs xi) 5840 loose (w.withFollow "special-get-raises" true):=by
 intro os
 kernel_rfl
theorem topRun(w:World):HandSHeadRun.RunEq An vC (G.pN 8 tab bq defs xi) (G.Am 8 tab bq defs xi) 5840 loose w:=byRow2 "special-get-raises" (P:=fun w=>HandSHeadRun.RunEq An vC (G.pN 8 tab bq defs xi) (G.Am 8 tab bq defs xi) 5840 loose w) N5 N6 w
end K11
namespace G
open PySem PySem.Spec PyProof.Rows
def JD(keep:Bool)(st:aa):R Fl->R Val
 | .ok (.next _) st1=>match aK keep st true st1 with
   |some st2=>.ok (.d .none) st2
   |none=>.no
 | .ok (.ret v) st1=>match aK keep st (aI st.length v) st1 with
   |some st2=>.ok v st2
   |none=>.no
 | .ok (.exc e _) st1=>match aK keep st (e.az.all fun p=>aI st.length p.2) st1 with
   |some st2=>.exc e st2
   |none=>.no
 |_=>.no
theorem vD{P:bU}{k f:Nat}{fn:Fn}(h:P.fns[f]?=some fn)(vs:List Val)(st:aa)(hl:vs.length=fn.np):aD P (k+1) f vs st=JD fn.keep st (aF (P.env k) fn.body (fq fn.ns vs) st):=by
 unfold aD;rw[h];dsimp only;unfold j7;rw[zah hl];cases aF (P.env k) fn.body (fq fn.ns vs) st with
 |ok fl st1=>cases fl <;> rfl
 |exc e st1=>rfl
 |no=>rfl
theorem uh{α β:Type}(a:α)(st:aa)(f:α->aa->R β):(R.ok a st).bind f=f a st:=rfl
theorem JE{α:Type}(a:α)(st:aa):(R.ok a st).bP= .ok a st:=rfl
theorem guard_pos{α:Type}{c:Prop}[Decidable c]{x:Option α}(h:c):guard' c x=x:=by unfold guard';rw[zah h]
theorem jc(ds:List PyData):datas (ds.map Val.d)=some ds:=by
 induction ds with
 |nil=>rfl
 |cons d r ih=>show (datas (r.map Val.d)).map (d::·)=_;rw[ih];rfl
theorem eV{ds:List PyData}{st:aa}(h:ds.length<=sizeLine):aU false (ds.map Val.d) st= .ok (.d (.list ds)) st:=by unfold aU;rw[zah (by simpa using h)];simp[jc]
theorem in_one(y:Str)(c:Nat)(st:aa):gq (.d (.str ⟨#[c]⟩)) (.d (.str y)) st=some (decide (c∈y.cps.toList)):=by show some (!(Builtin.Str.occurrences y ⟨#[c]⟩ 0 y.length 1).isEmpty)=_;rw[PySem.StrLaws.found_one]
section
variable (N:bz) (ρ:ae) (st:aa)
@[simp] theorem ev_var(i:Nat):ev N (.var i) ρ st=match ρ[i]? with |some (some v)=>.ok v st |_=>.no:=by rw[ev] <;> rfl
@[simp] theorem Sz(d:PyData):ev N (.cst d) ρ st= .ok (.d d) st:=by rw[ev]
@[simp] theorem N7(n:Nat):ev N (.glob n) ρ st=match N.glob n with |some d=>.ok (.d d) st |none=>.no:=by rw[ev] <;> rfl
@[simp] theorem SA(o:jK)(a b:E):ev N (.bin o a b) ρ st=(ev N a ρ st).bind fun x st1=>(ev N b ρ st1).bind fun y st2=>R.aS (gZ o x y st2):=by rw[ev];rfl
@[simp] theorem SE(a:E):ev N (.neg a) ρ st=(ev N a ρ st).bind fun v st1=>match v with | .d (.int i)=>.ok (.d (.int (-i))) st1 |_=>.no:=by rw[ev] <;> rfl
@[simp] theorem SG(o:uM)(a b:E):ev N (.cmp o a b) ρ st=(ev N a ρ st).bind fun x st1=>(ev N b ρ st1).bind fun y st2=>R.aS (cI o x y st2):=by rw[ev];rfl
@[simp] theorem SH(es:Es):ev N (.and es) ρ st=dP N es ρ st:=by rw[ev]
@[simp] theorem VM(es:Es):ev N (.or es) ρ st=fX N es ρ st:=by rw[ev]
@[simp] theorem SJ(a:E):ev N (.not a) ρ st=(ev N a ρ st).bind fun v st1=>(aX v st1).bind fun b st2=>.ok (.d (.bool (!b))) st2:=by rw[ev]
@[simp] theorem SM(c a b:E):ev N (.ite c a b) ρ st=(ev N c ρ st).bind fun v st1=>(aX v st1).bind fun k st2=>if k then ev N a ρ st2 else ev N b ρ st2:=by rw[ev]
@[simp] theorem SN(es:Es):ev N (.tup es) ρ st=(bj N es ρ st).bind fun vs st1=>match datas vs with
 |some ds=>if ds.length<=sizeLine then .ok (.d (.tuple ds)) st1 else .no
 |none=>.no:=by rw[ev] <;> rfl
@[simp] theorem SO(mu:Bool)(es:Es):ev N (.lst mu es) ρ st=(bj N es ρ st).bind fun vs st1=>aU mu vs st1:=by rw[ev]
@[simp] theorem SQ(mu:Bool)(kvs:nR):ev N (.dct mu kvs) ρ st=(fM N kvs ρ st).bind fun p st1=>gy mu p.1 p.2 st1:=by rw[ev]
@[simp] theorem VN(a i:E):ev N (.ix a i) ρ st=(ev N a ρ st).bind fun x st1=>(ev N i ρ st1).bind fun y st2=>R.aS (cW x y st2):=by rw[ev];rfl
@[simp] theorem JF(a:E)(lo hi:Pt):ev N (.slice a lo hi) ρ st=(ev N a ρ st).bind fun x st1=>(cZ N lo ρ st1).bind fun l st2=>(cZ N hi ρ st2).bind fun u st3=>R.aS (fU x l u st3):=by rw[ev]
@[simp] theorem SR(g:Nat)(a:E):ev N (.xA g a) ρ st=(ev N a ρ st).bind fun v st1=>match v,N.glob g with
 | .d (.str x),some (.dict kvs)=>match gp kvs x with
   |some d=>.ok (.d d) st1
   |none=>.no
 |_,_=>.no:=by rw[ev] <;> rfl
@[simp] theorem ev_call(f:Nat)(es:Es):ev N (.call f es) ρ st=(bj N es ρ st).bind fun vs st1=>N.fns f vs st1:=by rw[ev]
@[simp] theorem VO(b:Bi)(es:Es):ev N (.bi b es) ρ st=(bj N es ρ st).bind fun vs st1=>R.aS (cJ b vs st1):=by rw[ev]
@[simp] theorem SV(a:E)(ts:List Ty):ev N (.nS a ts) ρ st=(ev N a ρ st).bind fun v st1=>R.aS ((lQ st1 v ts).bind fun k=>bl st1 k):=by rw[ev]
@[simp] theorem VP(m:Me)(a:E)(es:Es):ev N (.me m a es) ρ st=(ev N a ρ st).bind fun x st1=>if recv m st1 x=true then(bj N es ρ st1).bind fun vs st2=>R.aS (bO m x vs st2)else .no:=by rw[ev]
@[simp] theorem SW(a:E):ev N (.frz a) ρ st=(ev N a ρ st).bind fun v st1=>match v with
 | .loc n=>match st1[n]? with
   |some (.lst xs)=>match datas xs with
    |some ds=>.ok (.d (.list ds)) (st1.set n .dead)
    |none=>.no
   |some (.dct kvs)=>match bY kvs with
    |some ds=>.ok (.d (.dict ds)) (st1.set n .dead)
    |none=>.no
   |some (.gQ kvs)=>match bY kvs with
    |some ds=>.ok (.td ds) (st1.set n .dead)
    |none=>.no
   |_=>.no
 |v=>.ok v st1:=by rw[ev] <;> rfl
@[simp] theorem N8:bj N .nil ρ st= .ok [] st:=by rw[bj]
@[simp] theorem JG(e:E)(r:Es):bj N (.cons e r) ρ st=(ev N e ρ st).bind fun v st1=>(bj N r ρ st1).bind fun vs st2=>.ok (v::vs) st2:=by rw[bj]
@[simp] theorem JH:fM N .nil ρ st= .ok ([],[]) st:=by rw[fM]
@[simp] theorem F3(k v:E)(r:nR):fM N (.cons k v r) ρ st=(ev N k ρ st).bind fun x st1=>(ev N v ρ st1).bind fun y st2=>(fM N r ρ st2).bind fun p st3=>.ok (x::p.1,y::p.2) st3:=by rw[fM]
@[simp] theorem JI(a:E):cZ N (.e a) ρ st=(ev N a ρ st).bind fun v st1=>match v with | .d (.int i)=>.ok (some i) st1 |_=>.no:=by rw[cZ] <;> rfl
@[simp] theorem F4(a:E):dP N (.cons a .nil) ρ st=ev N a ρ st:=by rw[dP]
@[simp] theorem F5(a b:E)(r:Es):dP N (.cons a (.cons b r)) ρ st=(ev N a ρ st).bind fun v st1=>(aX v st1).bind fun k st2=>if k then dP N (.cons b r) ρ st2 else .ok v st2:=by rw[dP] <;> first |rfl |(intro z;cases z)
@[simp] theorem JJ(a:E):fX N (.cons a .nil) ρ st=ev N a ρ st:=by rw[fX]
@[simp] theorem JK(a b:E)(r:Es):fX N (.cons a (.cons b r)) ρ st=(ev N a ρ st).bind fun v st1=>(aX v st1).bind fun k st2=>if k then .ok v st2 else fX N (.cons b r) ρ st2:=by rw[fX] <;> first |rfl |(intro z;cases z)
@[simp] theorem Bj:bR N .nil ρ st= .ok true st:=by rw[bR]
@[simp] theorem SY(a:E):cK N (.e a) ρ st=(ev N a ρ st).bind fun v st1=>fQ (bS v st1) st1:=by rw[cK]
@[simp] theorem JL(as:Es):cK N (.rng as) ρ st=(bj N as ρ st).bind fun vs st1=>fQ (lj vs) st1:=by rw[cK]
@[simp] theorem JM(i:Nat)(v:Val):asg N (.name i) v ρ st=if i<ρ.length then .ok (ρ.set i (some v)) st else .no:=by rw[asg]
@[simp] theorem N9(ts:jL)(xs:List PyData):asg N (.tup ts) (.d (.tuple xs)) ρ st=dg N ts (xs.map Val.d) ρ st:=by rw[asg]
@[simp] theorem Oa(a i:E)(v:Val):asg N (.sub a i) v ρ st=(ev N a ρ st).bind fun o st1=>(ev N i ρ st1).bind fun k st2=>match jr o k v st2 with
 |some st3=>.ok ρ st3
 |none=>.no:=by rw[asg] <;> rfl
@[simp] theorem JN:dg N .nil [] ρ st= .ok ρ st:=by rw[dg]
@[simp] theorem F6(t:Tg)(r:jL)(v:Val)(vs:List Val):dg N (.cons t r) (v::vs) ρ st=(asg N t v ρ st).bind fun ρ1 st1=>dg N r vs ρ1 st1:=by rw[dg]
@[simp] theorem Oc(e:E):ex N (.expr e) ρ st=(ev N e ρ st).cat ρ fun _ st1=>.ok (.next ρ) st1:=by rw[ex]
@[simp] theorem S0(t:Tg)(e:E):ex N (.asg t e) ρ st=(ev N e ρ st).cat ρ fun v st1=>(asg N t v ρ st1).bP.bind fun ρ1 st2=>.ok (.next ρ1) st2:=by rw[ex]
@[simp] theorem S1(i j:Nat)(a b:E):ex N (.par i j a b) ρ st=(ev N a ρ st).cat ρ fun v st1=>(ev N b ρ st1).cat ρ fun u st2=>if i<ρ.length/\j<ρ.length then .ok (.next ((ρ.set i (some v)).set j (some u))) st2 else .no:=by rw[ex]
@[simp] theorem S2(e:E):ex N (.ret e) ρ st=(ev N e ρ st).cat ρ fun v st1=>.ok (.ret v) st1:=by rw[ex]
@[simp] theorem Tc(c:E)(a b:Ss):ex N (.ite c a b) ρ st=((ev N c ρ st).bind fun v st1=>aX v st1).cat ρ fun k st1=>if k then aF N a ρ st1 else aF N b ρ st1:=by rw[ex];rfl
theorem Td(t:Tg)(it:It)(b:Ss):ex N (.gY t it b) ρ st=(cK N it ρ st).cat ρ fun p st1=>forL (fun x ρ1 st2=>(asg N t x ρ1 st2).bP.bind fun ρ2 st3=>aF N b ρ2 st3) p.2 p.1 ρ st1:=by rw[ex]
theorem JO(c:E)(b:Ss):ex N (.cX c b) ρ st=qo (ER N c) (aF N b) uR ρ st:=by rw[ex]
@[simp] theorem Od:ex N .cont ρ st= .ok (.cont ρ) st:=by rw[ex]
@[simp] theorem Oe:aF N .nil ρ st= .ok (.next ρ) st:=by rw[aF]
@[simp] theorem Ao(s:S)(r:Ss):aF N (.cons s r) ρ st=(ex N s ρ st).i9.bind fun fl st1=>match fl with
 | .next ρ1=>aF N r ρ1 st1
 |fl=>.ok fl st1:=by rw[aF] <;> rfl
end
@[simp] theorem JP{α β:Type}(a:α)(st:aa)(f:α->aa->R β):(R.ok a st).bind f=f a st:=rfl
@[simp] theorem Zw{α:Type}(a:α)(st:aa)(ρ:ae)(f:α->aa->R Fl):(R.ok a st).cat ρ f=f a st:=rfl
@[simp] theorem Of(fl:Fl)(st:aa):(R.ok fl st).i9= .ok fl st:=rfl
@[simp] theorem Xz{α:Type}(a:α)(st:aa):(R.ok a st).bP= .ok a st:=rfl
@[simp] theorem XA{α:Type}(a:α)(st:aa):R.aS (some (a,st))= .ok a st:=rfl
@[simp] theorem UL{α:Type}(a:α)(st:aa):fQ (some a) st= .ok a st:=rfl
@[simp] theorem XC(b:Bool)(st:aa):aX (.d (.bool b)) st= .ok b st:=rfl
@[simp] theorem ab8(b:Bool)(st:aa):bl st b=some (.d (.bool b),st):=rfl
@[simp] theorem abF(d:PyData)(st:aa):dat st d=some (.d d,st):=rfl
@[simp] theorem YC:gZ .add=nC:=rfl
@[simp] theorem YD:gZ .sub=za:=rfl
@[simp] theorem YE:gZ .mul=zb:=rfl
@[simp] theorem YF:gZ .mod=oMod:=rfl
@[simp] theorem XD:gZ .fdiv=uO:=rfl
@[simp] theorem YG:gZ .pow=wB:=rfl
@[simp] theorem YH(i j:Int)(st:aa):nC (.d (.int i)) (.d (.int j)) st=some (.d (.int (i+j)),st):=rfl
@[simp] theorem YI(i j:Int)(st:aa):za (.d (.int i)) (.d (.int j)) st=some (.d (.int (i-j)),st):=rfl
@[simp] theorem Zx(a b:Val)(st:aa):cI .lt a b st=(EQ a b).bind fun k=>bl st k:=rfl
@[simp] theorem Zy(a b:Val)(st:aa):cI .gt a b st=(zd b a).bind fun k=>bl st k:=rfl
@[simp] theorem Zz(a b:Val)(st:aa):cI .le a b st=(ze a b).bind fun k=>bl st k:=rfl
@[simp] theorem ZA(a b:Val)(st:aa):cI .ge a b st=(ze b a).bind fun k=>bl st k:=rfl
@[simp] theorem ZC(a b:Val)(st:aa):cI .eq a b st=(ql st a b).bind fun k=>bl st k:=rfl
@[simp] theorem ZD(a b:Val)(st:aa):cI .ne a b st=(ql st a b).bind fun k=>bl st (!k):=rfl
@[simp] theorem ZE(a b:Val)(st:aa):cI .is a b st=(kK a b).bind fun k=>bl st k:=rfl
@[simp] theorem VQ(a b:Val)(st:aa):cI .oY a b st=(kK a b).bind fun k=>bl st (!k):=rfl
@[simp] theorem ZF(a b:Val)(st:aa):cI .isin a b st=(gq a b st).bind fun k=>bl st k:=rfl
@[simp] theorem VR(a b:Val)(st:aa):cI .oZ a b st=(gq a b st).bind fun k=>bl st (!k):=rfl
@[simp] theorem ZG(i j:Int):EQ (.d (.int i)) (.d (.int j))=some (decide (i<j)):=rfl
@[simp] theorem ZH(i j:Str):EQ (.d (.str i)) (.d (.str j))=some (decide (i.cps.toList<j.cps.toList)):=rfl
@[simp] theorem ZI(i j:Int):zd (.d (.int i)) (.d (.int j))=some (decide (i<j)):=rfl
@[simp] theorem ZJ(i j:Int):ze (.d (.int i)) (.d (.int j))=some (decide (i<=j)):=rfl
@[simp] theorem ZK(i j:Str):zd (.d (.str i)) (.d (.str j))=some (decide (i.cps.toList<j.cps.toList)):=rfl
@[simp] theorem abG(x y:PyData)(st:aa):ql st (.d x) (.d y)=eqO x y:=rfl
@[simp] theorem Cb(i j:Int):eqO (.int i) (.int j)=some (i == j):=by simp[eqO,PyData.plain,PyData.depth,PyData.eqv]
@[simp] theorem Cc(i j:Str):eqO (.str i) (.str j)=some (i == j):=by simp[eqO,PyData.plain,PyData.depth,PyData.eqv]
@[simp] theorem YJ(i j:Bool):eqO (.bool i) (.bool j)=some (i == j):=by simp[eqO,PyData.plain,PyData.depth,PyData.eqv]
@[simp] theorem abd(x:PyData)(st:aa)(ts:List Ty):lQ st (.d x) ts=some (ts.any (isT (tyOf st (.d x)))):=rfl
@[simp] theorem ZL(y:Str)(c:Nat)(st:aa):gq (.d (.str ⟨#[c]⟩)) (.d (.str y)) st=some (decide (c∈y.cps.toList)):=in_one y c st
@[simp] theorem ZM(P:bU)(k:Nat):(P.env k).fns=aD P k:=rfl
@[simp] theorem YK(P:bU)(k n:Nat):(P.env k).glob n=P.glob[n]?:=rfl
@[simp] theorem DZ(xs:List PyData)(st:aa):dO st (.d (.list xs))=some xs:=by
  unfold dO iI fT;exact jc _
@[simp] theorem Bk(xs:List PyData)(st:aa):dO st (.d (.tuple xs))=some xs:=by
  unfold dO iI;exact jc _
@[simp] theorem VS(x:Str)(st:aa):cJ .len [.d (.str x)] st=guard' (x.length<=sizeLine) (some (.d (.int x.length),st)):=rfl
@[simp] theorem UM(xs:List PyData)(st:aa):cJ .len [.d (.list xs)] st=some (.d (.int xs.length),st):=by
  unfold cJ;simp[iI,fT,tyOf]
@[simp] theorem XG(ρ:ae):bT ρ []=ρ:=rfl
@[simp] theorem VT(ρ:ae)(v:Nat)(vs:List Nat):bT ρ (v::vs)=(bT ρ vs).set v none:=rfl
@[simp] theorem Te(xs:List PyData)(lo hi:Option Int)(st:aa):fU (.d (.tuple xs)) lo hi st=some (.d (.tuple (g7 xs lo hi)),st):=rfl
@[simp] theorem UN(xs ys:List PyData)(st:aa):HC [.d (.tuple xs),.d (.tuple ys)] st=some (lU xs ys,none):=rfl
@[simp] theorem VU(xs ys:List PyData)(st:aa):HC [.d (.list xs),.d (.list ys)] st=some (lU xs ys,none):=rfl
theorem vE:∀ ys:List Str,PyData.plainAll (ys.map PyData.str)=true/\PyData.depthAll (ys.map PyData.str)=0
 | []=>⟨rfl,rfl⟩
 |y::ys=>by obtain⟨h1,h2⟩:=vE ys;exact⟨by simp[PyData.plainAll,PyData.plain,h1],by simp[PyData.depthAll,PyData.depth,h2]⟩
theorem JQ(x:Str)(ys:List Str):By (.str x) (ys.map PyData.str)=some (ys.any fun z=>z == x):=by obtain⟨h1,h2⟩:=vE ys;unfold By;rw[zah ⟨rfl,by simp[PyData.depth],h1,by rw[h2];omega⟩,List.any_map];rfl
theorem kh(x:Str)(ys:List Str)(st:aa):gq (.d (.str x)) (.d (.tuple (ys.map PyData.str))) st=some (ys.any fun z=>z == x):=by show (dO st (.d (.tuple (ys.map PyData.str)))).bind (By (.str x))=_;rw[Bk];exact JQ x ys
@[simp] theorem F7(xs:List PyData)(i:Int)(st:aa):cW (.d (.tuple xs)) (.d (.int i)) st=(L2.atI xs i).bind fun v=>some (.d v,st):=rfl
theorem Og{α β:Type}(f:α->β)(xs:List α)(i:Int):L2.atI (xs.map f) i=(L2.atI xs i).map f:=by
 unfold L2.atI;rw[zaw];cases L2.ixN xs.length i with
 |none=>rfl
 |some j=>simp
@[simp] theorem YL(xs:List PyData)(i:Int)(st:aa):cW (.d (.list xs)) (.d (.int i)) st=(L2.atI xs i).bind fun v=>some (.d v,st):=by
  show (L2.atI (xs.map Val.d) i).bind (fun v=>some (v,st))=_;rw[Og];cases L2.atI xs i <;> rfl
mutual
def sz:PyData->Nat
 | .none=>5
 | .bool _=>5
 | .int i=>i.natAbs.log2+4
 | .str x=>10 * x.length+2
 | .tuple xs=>kQ xs+3
 | .list xs=>kQ xs+3
 | .dict _=>2
def kQ:List PyData->Nat
 | []=>0
 |d::r=>sz d+2+kQ r
end
mutual
def iw:PyData->Bool
 | .str x=>x.cps.toList.all fun c=>decide (c<128)
 | .tuple xs=>gJ xs
 | .list xs=>gJ xs
 | .dict kvs=>kvs.isEmpty
 | .int i=>decide (i.natAbs.log2<1900)
 |_=>true
def gJ:List PyData->Bool
 | []=>true
 |d::r=>iw d && gJ r
end
theorem pO:∀ xs ys:List PyData,kQ (xs++ys)=kQ xs+kQ ys
 | [],ys=>by simp[kQ]
 |d::r,ys=>by simp[kQ,pO r ys];omega
theorem nK:∀ xs ys:List PyData,gJ (xs++ys)=(gJ xs && gJ ys)
 | [],ys=>by simp[gJ]
 |d::r,ys=>by simp[gJ,nK r ys,Bool.and_assoc]
theorem jA:∀ xs ys:List PyData,PyData.depthAll (xs++ys)=max (PyData.depthAll xs) (PyData.depthAll ys)
 | [],ys=>by simp[PyData.depthAll]
 |d::r,ys=>by simp[PyData.depthAll,jA r ys]
theorem F8(i:Int):(PyData.shown (.int i)).length<=i.natAbs.log2+4:=by have h:i.natAbs<10 ^ (i.natAbs.log2+1):=zaU Nat.lt_log2_self (Nat.pow_le_pow_left (by omega) _);have e:=int_text_length_le10 (k:=i.natAbs.log2+1) (by omega) h;show (Str.ofString (toString i)).length<=_;rw[PySem.ofString_length];omega
mutual
theorem Aq:∀ d:PyData,iw d=true->(PyData.shown d).length<=sz d
 | .none,_=>by simp only[PyData.shown,sz];decide +kernel
 | .bool b,_=>by cases b <;> simp only[PyData.shown,sz] <;> decide +kernel
 | .int i,_=>F8 i
 | .str x,h=>by
   have h:(x.cps.toList.all fun c=>decide (c<128))=true:=by simpa only[iw]using h
   have:=StrLaws.reprText_len x fun c hc=>Nat.lt_trans (zad (zai.mp h c hc)) (by decide);simpa only[PyData.shown,sz]using this
 | .list xs,h=>by have h1:=qK xs (by simpa only[iw]using h);have h2:=listText_len_le (PyData.shownAll xs);rw[PyData.shownAll_length]at h2;simp only[PyData.shown,sz];omega
 | .tuple xs,h=>by have h1:=qK xs (by simpa only[iw]using h);have h2:=tupleText_len_le (PyData.shownAll xs);rw[PyData.shownAll_length]at h2;simp only[PyData.shown,sz];omega
 | .dict kvs,h=>by
   have h:kvs.isEmpty=true:=by simpa only[iw]using h
   cases kvs with
   |nil=>simp only[PyData.shown,PyData.shownKv,sz];decide +kernel
   |cons p r=>cases h
theorem qK:∀ xs:List PyData,gJ xs=true->((PyData.shownAll xs).map (·.length)).sum+2 * xs.length<=kQ xs
 | [],_=>by simp[PyData.shownAll,kQ]
 |d::r,h=>by
  have h:iw d=true/\gJ r=true:=by simpa only[gJ,zaa]using h
  have h1:=Aq d h.1;have h2:=qK r h.2;simp only[PyData.shownAll,zaR,List.sum_cons,zaf,kQ];omega
end
mutual
theorem tM:∀ d:PyData,iw d=true->sz d<=16000000->PyData.showable d=true
 | .none,_,_=>by simp only[PyData.showable]
 | .bool b,_,_=>by simp only[PyData.showable]
 | .int i,h,_=>by simp only[iw,zab]at h;simp only[PyData.showable,zab];omega
 | .str x,_,_=>by simp only[PyData.showable]
 | .list xs,h,hs=>by simp only[PyData.showable];exact l8 xs (by simpa only[iw]using h) (by simp only[sz]at hs;omega)
 | .tuple xs,h,hs=>by simp only[PyData.showable];exact l8 xs (by simpa only[iw]using h) (by simp only[sz]at hs;omega)
 | .dict kvs,h,_=>by
   have h:kvs.isEmpty=true:=by simpa only[iw]using h
   cases kvs with
   |nil=>simp only[PyData.showable,PyData.showableKv]
   |cons p r=>cases h
theorem l8:∀ xs:List PyData,gJ xs=true->kQ xs<=16000000->PyData.showableAll xs=true
 | [],_,_=>by simp only[PyData.showableAll]
 |d::r,h,hs=>by
  have h:iw d=true/\gJ r=true:=by simpa only[gJ,zaa]using h
  simp only[kQ]at hs;simp only[PyData.showableAll,zaa];exact⟨tM d h.1 (by omega),l8 r h.2 (by omega)⟩
end
def Good(s p:Nat)(d:PyData):Prop:=iw d=true/\sz d<=s/\d.depth<=p
theorem Oh{s p:Nat}{d:PyData}(h:Good s p d)(hs:s<=16000000)(hp:p<=64)(st:aa):cJ .repr [.d d] st=some (.d (.str d.shown),st):=by have e:cJ .repr [.d d] st=guard' (d.showable=true/\d.depth<=64/\d.shown.length<=sizeLine) (some (.d (.str d.shown),st)):=rfl;rw[e];have h1:=Aq d h.1;have h2:=h.2.1;have h3:=h.2.2;rw[guard_pos ⟨tM d h.1 (by omega),by omega,by rw[zap];omega⟩]
end G
namespace G
open PySem PySem.Spec PyProof.Rows PySem.Builtin.Str
def Asc(x:Str):Prop:=∀ c∈x.cps.toList,c<128
theorem Asc.append{x y:Str}(h:Asc x)(h':Asc y):Asc (x++y):=fun c hc=>by
 rcases mem_cps_append.mp hc with q |q
 ·exact h c q
 ·exact h' c q
theorem Asc.join{sep:Str}{ts:List Str}(h:Asc sep)(ht:∀ t∈ts,Asc t):Asc (Str.join sep ts):=fun c hc=>by
 rcases(mem_join sep c ts).mp hc with⟨t,q,q'⟩|q
 ·exact ht t q c q'
 ·exact h c q.2
end G
namespace G
open PySem PySem.Spec PyProof.Rows
def XH(fi:Nat):Ss:=(.cons (.ret (.ix (.var 1) (.call fi (.cons (.var 0) (.cons (.bi .len (.cons (.var 1) .nil)) .nil))))) .nil)
def Cd(fi:Nat):Fn:=⟨2,2,false,XH fi⟩
theorem s3:(3:Nat)<=sizeLine/\(2:Nat)<=sizeLine/\(1:Nat)<=sizeLine:=by rw[zap];omega
def hs(ns:List Int)(seed:Int)(rest:aa):aa:=.lst (ns.map fun i=>Val.d (.int i))::.lst [.loc 0,.d (.int seed)]::rest
section
end
theorem jd(i j:Int)(st:aa)(h:0<j):oMod (.d (.int i)) (.d (.int j)) st=some (.d (.int (i % j)),st):=by show guard' (0<j) _=_;rw[guard_pos h];rfl
theorem ul(i j:Int)(st:aa)(h:0<j)(h2:j<2 ^ 64):uO (.d (.int i)) (.d (.int j)) st=some (.d (.int (i / j)),st):=by
 show guard' (0<j/\j.natAbs.log2<9000) _=_;have:j.natAbs.log2<9000:=by
  by_cases h0:j.natAbs=0
  ·rw[h0];decide
  ·have:=(Nat.log2_lt h0 (k:=64)).mpr (by omega);omega
 rw[guard_pos ⟨h,this⟩];rfl
inductive jB (Q:PyData->PyData->Prop):List PyData->List PyData->Prop
 |nil:jB Q [] []
 |skip {x:PyData} {xs ys:List PyData}:jB Q xs ys->jB Q (x::xs) ys
 |take {x y:PyData} {xs ys:List PyData}:Q x y->jB Q xs ys->jB Q (x::xs) (y::ys)
theorem jB.len{Q:PyData->PyData->Prop}{xs ys:List PyData}(h:jB Q xs ys):ys.length<=xs.length:=by
 induction h with
 |nil=>exact zal _
 |skip _ ih=>exact Nat.le_succ_of_le ih
 |take _ _ ih=>exact Nat.succ_le_succ ih
theorem VW(st:aa):wB (.d (.int 10)) (.d (.int 18)) st=some (.d (.int 1000000000000000000),st):=by unfold wB;dsimp only;rw[guard_pos (by decide)];rfl
theorem xX(f:Val->ae->aa->R Fl)(g:lC)(x:Val)(xs:List Val)(ρ:ae)(st:aa)(hg:g.ok st):forL f g (x::xs) ρ st=(f x ρ st).i9.bind fun fl st1=>match fl with
 | .next ρ1=>forL f g xs ρ1 st1
 | .cont ρ1=>forL f g xs ρ1 st1
 | .brk ρ1=>.ok (.next ρ1) st1
 | .ret v=>.ok (.ret v) st1
 | .exc e ρ1=>.ok (.exc e ρ1) st1:=by
 show (if g.ok st then _ else _)=_;rw[zah hg] <;> rfl
theorem JR{N:bz}{s:S}{r:Ss}{ρ ρ1:ae}{st st1:aa}(h:ex N s ρ st= .ok (.next ρ1) st1):aF N (.cons s r) ρ st=aF N r ρ1 st1:=by rw[Ao,h,Of,JP]
@[simp] theorem Oi(N:bz)(ρ:ae)(st:aa)(i j l:Nat)(a b c:E):ex N (.jP i j l a b c) ρ st=(ev N a ρ st).cat ρ fun v st1=>(ev N b ρ st1).cat ρ fun u st2=>(ev N c ρ st2).cat ρ fun w st3=>if i<ρ.length/\j<ρ.length/\l<ρ.length then .ok (.next (((ρ.set i (some v)).set j (some u)).set l (some w))) st3 else .no:=by rw[ex]
@[simp] theorem Oj(N:bz)(ρ:ae)(st:aa)(ts:jL)(es:Es):ex N (.lO ts es) ρ st=(bj N es ρ st).cat ρ fun vs st1=>if vs.length<=sizeLine then(dg N ts vs ρ st1).bP.bind fun ρ1 st2=>.ok (.next ρ1) st2 else .no:=by rw[ex]
section
variable {P:bU}
def Ce(x:Str):Str:=⟨(x.cps.toList.dropLast).toArray⟩
def isNone:PyData->Bool
 | .none=>true
 |_=>false
end
section
end
theorem Ar:∀ (l:List Str) (a:Array Nat),(l.foldl (fun acc p=>acc++(Str.ofString "").cps++p.cps) a).toList=a.toList++(l.map fun y=>y.cps.toList).flatten
 | [],a=>by simp
 |y::r,a=>by rw[List.foldl_cons,Ar r];have:(Str.ofString "").cps = #[]:=rfl;simp[this]
theorem As(ys:List Str):(Txt.join "" ys).cps.toList=(ys.map fun y=>y.cps.toList).flatten:=by
 cases ys with
 |nil=>rfl
 |cons y r=>exact Ar r y.cps
def s1:PyData->Bool
 | .str x=>decide (0<x.length) && decide (x.length<4)
 |_=>false
theorem JS(ys:List Str):(Txt.join "" ys).length=(ys.map (·.length)).sum:=by have h:=zbj List.length (As ys);rw[zaS,List.length_flatten,zbb]at h;exact h
section
variable {P:bU} {cO cS cR:Nat}
abbrev tPairs(cO:Nat):E:=(.or (.cons (.not (.nS (.var 4) [.tuple])) (.cons (.cmp .eq (.var 4) (.tup .nil)) (.cons (.not (.bi .all (.cons (.comp false (.call cO (.cons (.var 14) (.cons (.var 12) .nil))) (.name 14) (.e (.var 4)) .nil [14]) .nil))) .nil))))
end
section
end
def gU(s p:Nat)(xs:List PyData):Prop:=gJ xs=true/\kQ xs<=s/\PyData.depthAll xs<=p
theorem gU.append{s s' p p':Nat}{xs ys:List PyData}(h:gU s p xs)(h':gU s' p' ys):gU (s+s') (max p p') (xs++ys):=by obtain⟨a,b,c⟩:=h;obtain⟨a',b',c'⟩:=h';exact⟨by rw[nK,a,a'];rfl,by rw[pO];omega,by rw[jA];omega⟩
theorem gU.parts{s p:Nat}{xs ys:List PyData}(h:gU s p (xs++ys)):gU s p xs/\gU s p ys:=by obtain⟨a,b,c⟩:=h;rw[nK,zaa]at a;rw[pO]at b;rw[jA]at c;exact⟨⟨a.1,by omega,by omega⟩,a.2,by omega,by omega⟩
theorem gU.drop{s p:Nat}{xs:List PyData}(h:gU s p xs)(n:Nat):gU s p (xs.drop n):=by have e:=List.take_append_drop n xs;rw[←e]at h;exact h.parts.2
theorem gU.tup{s p:Nat}{xs:List PyData}(h:gU s p xs):Good (s+3) (p+1) (.tuple xs):=by obtain⟨a,b,c⟩:=h;exact⟨by simpa only[iw]using a,by simp only[sz];omega,by simp only[PyData.depth];omega⟩
def XI(x y:Str):Prop:=x.cps.toList<y.cps.toList
instance (x y:Str):Decidable (XI x y):=by unfold XI;infer_instance
theorem jB.all{Q:PyData->PyData->Prop}{p:PyData->Bool}:∀ {xs ys:List PyData},jB Q xs ys->(∀ x∈xs,∀ y,Q x y->p y=true)->ys.all p=true
 |_,_,.nil,_=>rfl
 |_,_,.skip h,hp=>h.all fun x hx=>hp x (zae _ hx)
 |_,_,.take q h,hp=>by rw[zay,hp _ zac _ q,h.all fun x hx=>hp x (zae _ hx)];rfl
theorem JT(st:aa)(l:List Cell)(i:Nat):(st++l)[st.length+i]?=l[i]?:=by rw[zaC (by omega)];congr 1;omega
theorem kR(st:aa)(c:Cell)(l:List Cell):(st++c::l)[st.length]?=some c:=by have:=JT st (c::l) 0;simpa using this
theorem sr(st:aa)(vs:List Val)(h:vs.length<=sizeLine):aU true vs st= .ok (.loc st.length) (st++[.lst vs]):=by unfold aU;rw[zah h,zah rfl]
theorem Au{st:aa}{n:Nat}{xs:List Val}(v:Val)(h:st[n]?=some (.lst xs))(hl:xs.length<sizeLine):bO .append (.loc n) [v] st=some (.d .none,st.set n (.lst (xs++[v]))):=by unfold bO;dsimp only;rw[h];dsimp only;rw[guard_pos hl];rfl
theorem uo{st:aa}{n:Nat}{xs:List Val}(h:st[n]?=some (.lst xs)):recv .append st (.loc n)=true:=by unfold recv CK fT;dsimp only;rw[h];rfl
theorem leave_own(st:aa)(l:List Cell)(ok:Bool)(h:ok=true):aK false st ok (st++l)=some st:=by
 unfold aK;by_cases hl:(st++l).length=st.length
 ·rw[zah (.inr hl)];have:l=[]:=by
   rw[zav]at hl;exact zbf.mp (by omega)
  rw[this,zau]
 ·rw[zaj (by exact fun z=>Or.elim z (fun z=>by cases z) fun z=>hl z),zah ⟨h,.inl (by simp)⟩];simp
def Av(ks:List Str)(x:Str):List Str:=if x∈ks then ks else ks++[x]
structure vF (pool:List Nat) (ks:List Str):Prop where
 nd:ks.Nodup
 len:∀ x∈ks,1<=x.length/\x.length<=3
 pool:∀ x∈ks,∀ c∈x.cps.toList,c∈pool
 JU:∀ x∈ks,x.length=1\/Ce x∈ks
theorem vF.add{pool:List Nat}{ks:List Str}(h:vF pool ks){x:Str}(h1:1<=x.length/\x.length<=3)(h2:∀ c∈x.cps.toList,c∈pool)(h3:x.length=1\/Ce x∈ks):vF pool (Av ks x)/\x∈Av ks x/\(∀ y∈ks,y∈Av ks x)/\(Av ks x).length<=ks.length+1:=by
 unfold Av;by_cases hx:x∈ks
 ·rw[zah hx];exact⟨h,hx,fun _ q=>q,by omega⟩
 ·rw[zaj hx];have key:∀ {p:Str->Prop},(∀ y∈ks,p y)->p x->∀ y∈ks++[x],p y:=fun h h' y hy=>by
   rcases zaX.mp hy with e |e
   ·exact h y e
   ·rw[zaB.mp e];exact h'
  refine⟨⟨?_,key h.len h1,key h.pool h2,key (fun y hy=>(h.JU y hy).imp id fun z=>za0 _ z) (h3.imp id fun z=>za0 _ z)⟩,by simp,fun y hy=>za0 _ hy,by simp⟩;rw[List.nodup_append];refine⟨h.nd,by simp,fun a ha b hb e=>?_⟩;rw[zaB.mp hb]at e;exact hx (e ▸ ha)
theorem Tf{j:Int}(h:lJ j):lj [.d (.int j)]=some (rng 0 j.toNat 1,none):=by unfold lj;dsimp only;rw[zah h]
theorem JV{j:Int}(h : -1000000000<=j)(h':j<=1000000000):lJ j:=⟨by omega,by omega⟩
theorem Ol{lo:Int}{n i:Nat}{x:Val}(h:(rng lo n 1)[i]?=some x):i<n/\x= .d (.int (lo+(i:Nat))):=by
 unfold rng at h;rw[zat]at h;by_cases hi:i<n
 ·rw[List.getElem?_range hi]at h;have this:x= .d (.int (lo+(i:Nat) * 1)):=(zam h).symm;rw[Int.mul_one]at this;exact⟨hi,this⟩
 ·rw[zaJ (by simpa using hi)]at h;cases h
theorem JW{lo:Int}{n:Nat}:(rng lo n 1).length=n:=by unfold rng;simp
def glue(cs:List Nat):Str:=⟨cs.toArray⟩
theorem vF.nil{pool:List Nat}:vF pool []:=⟨List.nodup_nil,fun x h=>(by cases h),fun x h=>(by cases h),fun x h=>(by cases h)⟩
section
end
def D0:Ss:=(.cons (.ite (.cmp .gt (.ix (.var 0) (.cst (.int 0))) (.cst (.int 0))) (.cons (.asg (.name 2) (.bin .mod (.ix (.var 0) (.cst (.int 0))) (.var 1))) (.cons (.asg (.sub (.var 0) (.cst (.int 0))) (.bin .fdiv (.ix (.var 0) (.cst (.int 0))) (.var 1))) (.cons (.ret (.var 2)) .nil))) .nil) (.cons (.asg (.sub (.var 0) (.cst (.int 2))) (.bin .add (.ix (.var 0) (.cst (.int 2))) (.cst (.int 1)))) (.cons (.asg (.name 3) (.bin .mod (.bin .mul (.bin .add (.bin .add (.ix (.var 0) (.cst (.int 1))) (.bin .mul (.bin .mul (.cst (.int 65537)) (.ix (.var 0) (.cst (.int 2)))) (.ix (.var 0) (.cst (.int 2))))) (.cst (.int 11))) (.cst (.int 48271))) (.cst (.int 2305843009213693921)))) (.cons (.asg (.name 3) (.bin .mod (.bin .mul (.var 3) (.bin .add (.bin .mod (.var 3) (.cst (.int 1000003))) (.bin .mul (.cst (.int 99991)) (.ix (.var 0) (.cst (.int 2)))))) (.cst (.int 2305843009213693907)))) (.cons (.ret (.bin .mod (.bin .add (.bin .fdiv (.var 3) (.cst (.int 97))) (.bin .fdiv (.var 3) (.cst (.int 1000033)))) (.var 1))) .nil)))))
def kq:Fn:=⟨2,4,false,D0⟩
def Aw:Val->Bool
 | .d _=>true
 |_=>false
def qL:Cell->Bool
 | .lst vs=>vs.all Aw
 | .dct kvs=>kvs.all fun q=>Aw q.2
 | .dead=>true
 | .tab _=>true
 | .obj _ fs=>fs.all fun q=>Aw q.2
 | .gQ _=>false
def aJ(st:aa):Prop:=st.all (iL st.length)=true
theorem pP{n m:Nat}(h:n<=m):∀ {v:Val},aI n v=true->aI m v=true
 | .loc k,q=>by
   have q:decide (k<n)=true:=q;show decide (k<m)=true;rw[zab]at *
   omega
 | .d _,_=>rfl
 | .bW _,_=>rfl
 | .xc _ _,_=>rfl
 | .td _,_=>rfl
 | .dN _ k,q=>by
   have q:decide (k<n)=true:=q;show decide (k<m)=true;rw[zab]at *
   omega
 | .eo _ _,_=>rfl
theorem qM{n m:Nat}(h:n<=m):∀ {c:Cell},iL n c=true->iL m c=true
 | .lst vs,q=>by
   have q:vs.all (aI n)=true:=q;show vs.all (aI m)=true;rw[zai]at *
   exact fun v hv=>pP h (q v hv)
 | .dct kvs,q=>by
   have q:(kvs.all fun p=>aI n p.2)=true:=q;show (kvs.all fun p=>aI m p.2)=true;rw[zai]at *
   exact fun v hv=>pP h (q v hv)
 | .dead,_=>rfl
 | .tab _,_=>rfl
 | .gQ kvs,q=>by
   have q:(kvs.all fun p=>aI n p.2)=true:=q;show (kvs.all fun p=>aI m p.2)=true;rw[zai]at *
   exact fun v hv=>pP h (q v hv)
 | .obj _ fs,q=>by
   have q:(fs.all fun p=>aI n p.2)=true:=q;show (fs.all fun p=>aI m p.2)=true;rw[zai]at *
   exact fun v hv=>pP h (q v hv)
theorem Cf{n:Nat}:∀ {c:Cell},qL c=true->iL n c=true
 | .lst vs,h=>by have h:vs.all Aw=true:=h;show vs.all (aI n)=true;rw[zai]at h⊢;intro v hv;have:=h v hv;cases v <;> first |rfl |cases this
 | .gQ _,h=>by cases h
 | .dct kvs,h=>by have h:(kvs.all fun q=>Aw q.2)=true:=h;show (kvs.all fun q=>aI n q.2)=true;rw[zai]at h⊢;intro v hv;have:=h v hv;cases e:v.2 <;> rw[e]at this <;> first |rfl |cases this
 | .dead,_=>rfl
 | .tab _,_=>rfl
 | .obj _ fs,h=>by have h:(fs.all fun q=>Aw q.2)=true:=h;show (fs.all fun q=>aI n q.2)=true;rw[zai]at h⊢;intro v hv;have:=h v hv;cases e:v.2 <;> rw[e]at this <;> first |rfl |cases this
theorem aJ.ok{st:aa}(h:aJ st)(n:Nat)(hn:st.length<=n):st.all (iL n)=true:=by unfold aJ at h;rw[zai]at h⊢;exact fun c hc=>qM hn (h c hc)
theorem aJ.one{c:Cell}(h:qL c=true):aJ [c]:=by show ([c]).all (iL 1)=true;rw[zay,Cf h];rfl
theorem aJ.setC{st:aa}{p:Nat}{b:Cell}(h:aJ st)(hb:iL st.length b=true):aJ (st.set p b):=by
 unfold aJ at *
 rw[zbq];rw[zai]at *
 intro c hc;rcases List.mem_or_eq_of_mem_set hc with e |e
 ·exact h c e
 ·rw[e];exact hb
theorem aJ.set{st:aa}{p:Nat}{b:Cell}(h:aJ st)(hb:qL b=true):aJ (st.set p b):=by exact h.setC (Cf hb)
theorem aJ.app{st l:aa}(h:aJ st)(h':aJ l):aJ (st++l):=by
 unfold aJ at *
 rw[List.all_append,zaa,zav];rw[zai]at h h';refine⟨zai.mpr fun c hc=>qM (by omega) (h c hc),zai.mpr fun c hc=>qM (by omega) (h' c hc)⟩
theorem Th(ds:List PyData):qL (.lst (ds.map Val.d))=true:=by show (ds.map Val.d).all Aw=true;rw[List.all_map,zai];exact fun _ _=>rfl
theorem aJ.lst(ds:List PyData):aJ [.lst (ds.map Val.d)]:=by exact aJ.one (Th ds)
abbrev gK:Int:=1000000000000000000000000000000
theorem F9{i:Int}(h0:0<=i)(h:i<2 ^ 1000):i.natAbs.log2<1000:=by
 by_cases z:i.natAbs=0
 ·rw[z];decide
 ·refine(Nat.log2_lt z).mpr ?_;have:(i.natAbs:Int)<((2 ^ 1000:Nat):Int):=by
   rw[Int.natAbs_of_nonneg h0]
   exact_mod_cast h
  exact_mod_cast this
theorem je(i j:Int)(st:aa)(h:0<=i)(h1:i<2 ^ 1000)(h2:0<=j)(h3:j<2 ^ 1000):zb (.d (.int i)) (.d (.int j)) st=some (.d (.int (i * j)),st):=by show guard' (i.natAbs.log2+j.natAbs.log2<1000000) _=_;have:=F9 h h1;have:=F9 h2 h3;rw[guard_pos (by omega)];rfl
theorem l9{st:aa}{p:Nat}{b c:Cell}(h:st[p]?=some b):(st.set p c)[p]?=some c:=zan (zak.mp h).1
theorem sA{st:aa}{p:Nat}{vs:List Val}{i:Int}{v:Val}(h:st[p]?=some (.lst vs))(ha:L2.atI vs i=some v):cW (.loc p) (.d (.int i)) st=some (v,st):=by unfold cW tyOf fT;simp only[h,zaE,ha]
theorem Ga{st:aa}{p:Nat}{vs:List Val}{i:Int}{j:Nat}{v:Val}(h:st[p]?=some (.lst vs))(ha:L2.ixN vs.length i=some j):jr (.loc p) (.d (.int i)) v st=some (st.set p (.lst (vs.set j v))):=by unfold jr;simp only[h,ha,zaE];rfl
theorem w5(st:aa)(p:Nat)(b:Cell)(v:Val):JD false st (.ok (.ret v) (st.set p b))= .ok v (st.set p b):=by
 show (match aK false st (aI st.length v) (st.set p b)with |some st2=>R.ok v st2 |none=>.no)=_
 have:aK false st (aI st.length v) (st.set p b)=some (st.set p b):=by unfold aK;rw[zah (.inr (by simp))]
 rw[this]
section
end
def LR(d:PyData):Prop:=∃ k x:Str,d= .tuple [.str k,.str x]/\k∈(["sign","quote","word"]:List Str)/\iw (.str x)=true/\x.length<=20
def Gb:Nat->PyData->Prop
 | 0,d=>LR d
 |n+1,d=>LR d\/∃ (o:Str) (rem:PyData) (parts last:List PyData),d= .tuple [.str "group",.str o,rem,.tuple parts,.tuple last]/\o∈(["(","["]:List Str)/\rem∈[PyData.none,.none,.str "# in",.str "# y"]/\parts.length<=2/\(last=[]\/last=[.str "#"])/\ ∀ q∈parts,∃ (ah inner:List PyData) (s:Bool) (fP:PyData),q= .tuple [.tuple ah,.tuple inner,.bool s,fP]/\(ah=[]\/ah=[.str "# a"]\/ah=[.str "# x"])/\fP∈[PyData.none,.none,.none,.str "# b"]/\inner.length<=2/\∀ t∈inner,Gb n t
def D4(bl ah th kp bh:PyData):Prop:=bl∈[PyData.int 0,.int 1,.int 2,.int 4]/\ah∈[PyData.tuple [],.tuple [.str "# leave",.str "# c"],.tuple [.str "# c"],.tuple [.str "# z"]]/\(∃ ts,th= .tuple ts/\gU 40000 9 ts/\(∀ t∈ts,Gb 2 t)/\ts.length<=4/\∃ (x:Str) (r:List PyData),ts= .tuple [.str "word",.str x]::r)/\(kp= .none\/∃ x:Str,kp= .str x/\iw (.str x)=true/\x.length<=180)/\bh∈[PyData.none,.none,.str "# d"]
def Ax:Nat->Nat->PyData->Prop
 | 0,r,d=>r=1/\∃ bl ah th kp bh e,D4 bl ah th kp bh/\e∈(["end","line"]:List Str)/\d= .tuple [bl,ah,th,kp,.tuple [.str e],bh]
 |m+1,r,d=>(r=1/\∃ bl ah th kp bh e,D4 bl ah th kp bh/\e∈(["end","line"]:List Str)/\d= .tuple [bl,ah,th,kp,.tuple [.str e],bh])\/ ∃ (bl ah th kp bh c:PyData) (rows:List (Nat×PyData)) (last:PyData),D4 bl ah th kp bh/\c∈[PyData.none,.str "# block"]/\last∈[PyData.tuple [],.tuple [.str "# end"]]/\rows.length<=3/\r=1+(rows.map (·.1)).sum/\(∀ q∈rows,Ax m q.1 q.2)/\ d= .tuple [bl,ah,th,kp,.tuple [.str "block",c,.tuple (rows.map (·.2)),last],bh]
abbrev XQ:=jl->aa->Prop
structure Tag {α β:Type} (X:α) (Q:β) where
def W{α:Type}(X:XQ)(r:R α)(Q:α->aa->Prop)(_:Tag X Q:=⟨⟩):Prop:=match r with
 | .ok a st=>Q a st
 | .exc e st=>X e st
 | .no=>False
def Br(c:Prop)(A B:Prop)(_:Tag (fun _:Unit=>A) (fun _:Unit=>B):=⟨⟩):Prop:=(c->A)/\(¬ c->B)
theorem Br.intro{c A B:Prop}(h1:c->A)(h2 : ¬ c->B):Br c A B:=⟨h1,h2⟩
@[simp] theorem Om{A B:Prop}:Br True A B=A:=by simp[Br]
@[simp] theorem JX{A B:Prop}:Br False A B=B:=by simp[Br]
theorem Ay{c A B:Prop}(h:c):Br c A B=A:=by rw[eq_true h,Om]
theorem Az{c A B:Prop}(h : ¬ c):Br c A B=B:=by rw[eq_false h,JX]
def nX:XQ:=fun _ _=>False
section
variable {α β:Type} {X:XQ} {st:aa} {ρ:ae} {N:bz}
@[simp] theorem Tj{a:α}{Q:α->aa->Prop}:W X (.ok a st) Q=Q a st:=propext zbU
@[simp ↓] theorem aA{r:R α}{f:α->aa->R β}{Q:β->aa->Prop}:W X (r.bind f) Q=W X r fun a s=>W X (f a s) Q:=by cases r <;> rfl
def cE(ρ:ae)(Q:Fl->aa->Prop):XQ:=fun e s=>Q (.exc e ρ) s
@[simp ↓] theorem eL{r:R α}{f:α->aa->R Fl}{Q:Fl->aa->Prop}:W X (r.cat ρ f) Q=W (cE ρ Q) r fun a s=>W X (f a s) Q:=by cases r <;> rfl
@[simp ↓] theorem vG{r:R Fl}{Q:Fl->aa->Prop}:W X r.i9 Q=W nX r Q:=by cases r <;> rfl
@[simp ↓] theorem oA{r:R α}{Q:α->aa->Prop}:W X r.bP Q=W nX r Q:=by cases r <;> rfl
theorem bu{r:R α}{Q Q':α->aa->Prop}(h:∀ a s,Q a s=Q' a s):W X r Q=W X r Q':=by have:Q=Q':=funext fun a=>funext fun s=>h a s;subst this;rfl
@[simp ↓] theorem kD{c:Prop}[Decidable c]{a b:R α}{Q:α->aa->Prop}:W X (if c then a else b) Q=Br c (W X a Q) (W X b Q):=by
  by_cases h:c
  ·rw[zah h,Ay h]
  ·rw[zaj h,Az h]
theorem W.mono{r:R α}{Q Q':α->aa->Prop}(h:W X r Q)(hq:∀ a s,Q a s->Q' a s):W X r Q':=by cases r <;> first |exact hq _ _ h |exact h
theorem W.LS{X X':XQ}{r:R α}{Q Q':α->aa->Prop}(h:W X r Q)(hx:∀ e s,X e s->X' e s)(hq:∀ a s,Q a s->Q' a s):W X' r Q':=by
 cases r
 ·exact hq _ _ h
 ·exact hx _ _ h
 ·exact h
theorem W.eq{r:R α}{a:α}{s:aa}{Q:α->aa->Prop}(h:r= .ok a s)(hq:Q a s):W X r Q:=by rw[h];exact hq
theorem W.run{r:R α}{Q:α->aa->Prop}(h:W nX r Q):∃ a s,r= .ok a s/\Q a s:=by
 cases r
 ·exact⟨_,_,rfl,h⟩
 ·exact h.elim
 ·exact h.elim
theorem W.ite{c:Prop}[Decidable c]{a b:R α}{Q:α->aa->Prop}(h1:c->W X a Q)(h2 : ¬ c->W X b Q):W X (if c then a else b) Q:=by
 split
 ·exact h1 ‹_›
 ·exact h2 ‹_›
def sC(N:bz)(r:Ss)(fl:Fl)(s:aa):R Fl:=match fl with
 | .next ρ1=>aF N r ρ1 s
 |fl=>.ok fl s
section
variable {Q:Fl->aa->Prop} {r:Ss}
@[simp ↓] theorem Oo:W X (sC N r (.next ρ) st) Q=W X (aF N r ρ st) Q:=propext zbU
@[simp ↓] theorem abe{v:Val}:W X (sC N r (.ret v) st) Q=Q (.ret v) st:=propext zbU
@[simp ↓] theorem ZN:W X (sC N r (.cont ρ) st) Q=Q (.cont ρ) st:=propext zbU
@[simp ↓] theorem abf{e:jl}:W X (sC N r (.exc e ρ) st) Q=Q (.exc e ρ) st:=propext zbU
end
@[simp ↓] theorem VX{s:S}{r:Ss}{Q:Fl->aa->Prop}:W X (aF N (.cons s r) ρ st) Q=W nX (ex N s ρ st) fun fl s1=>W X (sC N r fl s1) Q:=by
  rw[Ao,aA,vG];exact bu fun fl s1=>by cases fl <;> rfl
def aO(keep:Bool)(st:aa)(X:XQ)(Q:Val->aa->Prop)(fl:Fl)(s:aa):Prop:=match fl with
 | .next _=>∃ s2,aK keep st true s=some s2/\Q (.d .none) s2
 | .ret v=>∃ s2,aK keep st (aI st.length v) s=some s2/\Q v s2
 | .exc e _=>∃ s2,aK keep st (e.az.all fun p=>aI st.length p.2) s=some s2/\X e s2
 |_=>False
theorem W.aD{P:bU}{f k:Nat}{fn:Fn}{vs:List Val}{Q:Val->aa->Prop}(h:P.fns[f]?=some fn)(hl:vs.length=fn.np)(hk:1<=k)(hb:W nX (aF (P.env (k-1)) fn.body (fq fn.ns vs) st) (aO fn.keep st X Q)):W X (aD P k f vs st) Q:=by
 obtain⟨k,rfl⟩:∃ j,k=j+1:=⟨k-1,by omega⟩;rw[vD h _ _ hl];simp only[Nat.add_sub_cancel]at hb;cases hr:aF (P.env k) fn.body (fq fn.ns vs) st with
 |no=>rw[hr]at hb;exact hb.elim
 |exc e s=>rw[hr]at hb;exact hb.elim
 |ok fl s=>
  rw[hr]at hb;have hb:aO fn.keep st X Q fl s:=hb;cases fl with
  |next ρ=>
   obtain⟨s2,h1,h2⟩:=hb;show W X (match aK fn.keep st true s with |some st2=>R.ok (Val.d .none) st2 |none=>.no) Q
   rw[h1];exact h2
  |ret v=>
   obtain⟨s2,h1,h2⟩:=hb;show W X (match aK fn.keep st (aI st.length v) s with |some st2=>R.ok v st2 |none=>.no) Q
   rw[h1];exact h2
  |exc e ρ=>
   obtain⟨s2,h1,h2⟩:=hb;show W X (match aK fn.keep st (e.az.all fun p=>aI st.length p.2) s with |some st2=>R.exc e st2 |none=>.no) Q
   rw[h1];exact h2
  |brk ρ=>exact hb.elim
  |cont ρ=>exact hb.elim
theorem xY(keep ok:Bool){st s:aa}(h:s.length=st.length):aK keep st ok s=some s:=by unfold aK;rw[zah (.inr h)]
section
variable {keep:Bool} {Q:Val->aa->Prop} {v:Val}
theorem iX{s:aa}(h:s.length=st.length):aO keep st X Q (.ret v) s=Q v s:=by show (∃ s2,aK keep st (aI st.length v) s=some s2/\Q v s2)=_;rw[xY _ _ h];simp
@[simp] theorem YM:aO keep st X Q (.ret v) st=Q v st:=iX rfl
@[simp] theorem uu{own:aa}{d:PyData}:aO false st X Q (.ret (.d d)) (st++own)=Q (.d d) st:=by
  show (∃ s2,aK false st (aI st.length (.d d)) (st++own)=some s2/\Q (.d d) s2)=_;rw[leave_own st own (aI st.length (.d d)) rfl];simp
theorem JY{t own:aa}{d:PyData}(hl:t.length=st.length)(hd:aJ t):aO false st X Q (.ret (.d d)) (t++own)=Q (.d d) t:=by
 show (∃ s2,aK false st (aI st.length (.d d)) (t++own)=some s2/\Q (.d d) s2)=_;have:aK false st (aI st.length (.d d)) (t++own)=some t:=by
  unfold aK;have e:(t++own).take st.length=t:=by rw[←hl,List.take_left'];rfl
  by_cases z:(t++own).length=st.length
  ·rw[zah (.inr z)];have:own=[]:=by
    rw[zav]at z;exact zbf.mp (by omega)
   rw[this,zau]
  ·rw[zaj (by simp only[zb0,false_or];exact z),e,zah ⟨rfl,.inr (hd.ok _ (by omega))⟩]
 rw[this];simp
@[simp] theorem XJ{s:aa}:aO true st X Q (.ret v) s=Q v s:=by
  show (∃ s2,aK true st (aI st.length v) s=some s2/\Q v s2)=_;unfold aK;simp
end
def iD(I:ae->aa->Prop)(Q:Fl->aa->Prop)(fl:Fl)(s:aa):Prop:=match fl with
 | .next ρ=>I ρ s
 | .cont ρ=>I ρ s
 | .brk ρ=>Q (.next ρ) s
 | .ret v=>Q (.ret v) s
 | .exc e ρ=>Q (.exc e ρ) s
@[simp] theorem VY{I:ae->aa->Prop}{Q:Fl->aa->Prop}:iD I Q (.next ρ) st=I ρ st:=rfl
@[simp] theorem VZ{I:ae->aa->Prop}{Q:Fl->aa->Prop}:iD I Q (.cont ρ) st=I ρ st:=rfl
@[simp] theorem XM{I:ae->aa->Prop}{Q:Fl->aa->Prop}:iD I Q (.brk ρ) st=Q (.next ρ) st:=rfl
@[simp] theorem XN{I:ae->aa->Prop}{Q:Fl->aa->Prop}{v:Val}:iD I Q (.ret v) st=Q (.ret v) st:=rfl
@[simp] theorem XO{I:ae->aa->Prop}{Q:Fl->aa->Prop}{e:jl}:iD I Q (.exc e ρ) st=Q (.exc e ρ) st:=rfl
theorem AA{f:Val->ae->aa->R Fl}{g:lC}{Q:Fl->aa->Prop}(I:Nat->ae->aa->Prop)(xs0:List Val)(hg:∀ i ρ s,I i ρ s->g.ok s)
 (hs:∀ i x ρ s,xs0[i]?=some x->I i ρ s->W nX (f x ρ s) (iD (I (i+1)) Q)) (he:∀ ρ s,I xs0.length ρ s->Q (.next ρ) s) :
 ∀ (xs:List Val) (n:Nat) (ρ:ae) (st:aa),xs0.drop n=xs->n<=xs0.length->I n ρ st->W X (forL f g xs ρ st) Q
 | [],n,ρ,st,hd,hn,hI=>by
   have hlen:n=xs0.length:=by have:=List.drop_eq_nil_iff.mp hd;omega
   unfold forL;rw[zah (hg n ρ st hI)];exact he _ _ (hlen ▸ hI)
 |x::r,n,ρ,st,hd,hn,hI=>by
  have hx:xs0[n]?=some x:=by have:=zbj (·[0]?) hd;simpa using this
  have hn':n<xs0.length:=(zak.mp hx).1;have hr:xs0.drop (n+1)=r:=by have:=zbj List.tail hd;simpa using this
  have h1:=hs n x ρ st hx hI;rw[xX f g x r ρ st (hg n ρ st hI),aA,vG];refine h1.mono fun fl s1 h2=>?_;cases fl with
  |next ρ1=>exact AA I xs0 hg hs he r (n+1) ρ1 s1 hr (by omega) h2
  |cont ρ1=>exact AA I xs0 hg hs he r (n+1) ρ1 s1 hr (by omega) h2
  |brk ρ1=>exact h2
  |ret v=>exact h2
  |exc e ρ1=>exact h2
def pQ(N:bz)(t:Tg)(b:Ss)(g:lC)(xs:List Val)(ρ:ae)(st:aa):R Fl:=forL (fun x ρ1 st2=>(asg N t x ρ1 st2).bP.bind fun ρ2 st3=>aF N b ρ2 st3) g xs ρ st
section
variable {t:Tg} {b:Ss} {Q:Fl->aa->Prop}
theorem LU{g:lC}{xs:List Val}(I:Nat->ae->aa->Prop)(h0:I 0 ρ st)(hg:∀ i ρ s,I i ρ s->g.ok s)
 (hs:∀ i x ρ s,xs[i]?=some x->I i ρ s->W nX (asg N t x ρ s) fun ρ2 s2=>W nX (aF N b ρ2 s2) (iD (I (i+1)) Q)) (he:∀ ρ s,I xs.length ρ s->Q (.next ρ) s):W X (pQ N t b g xs ρ st) Q:=
 AA I xs hg (fun i x ρ s hx hI=>by rw[aA,oA];exact hs i x ρ s hx hI) he xs 0 ρ st rfl (za1 _) h0
theorem AB{xs:List PyData}(I:Nat->ae->aa->Prop)(h0:I 0 ρ st)
 (hs:∀ i x ρ s,xs[i]?=some x->I i ρ s->W nX (asg N t (.d x) ρ s) fun ρ2 s2=>W nX (aF N b ρ2 s2) (iD (I (i+1)) Q)) (he:∀ ρ s,I xs.length ρ s->Q (.next ρ) s):W X (pQ N t b none (xs.map Val.d) ρ st) Q:=
 LU I h0 (fun _ _ _ _=>trivial) (fun i x ρ s hx hI=>by rw[zat]at hx;obtain⟨d,hd,rfl⟩:=zaG.mp hx;exact hs i d ρ s hd hI) (by simpa using he)
theorem Tn{n:Nat}(I:Nat->ae->aa->Prop)(h0:I 0 ρ st)
 (hs:∀ (i:Nat) ρ s,i<n->I i ρ s->W nX (asg N t (.d (.int i)) ρ s) fun ρ2 s2=>W nX (aF N b ρ2 s2) (iD (I (i+1)) Q)) (he:∀ ρ s,I n ρ s->Q (.next ρ) s):W X (pQ N t b none (rng 0 n 1) ρ st) Q:=
 LU I h0 (fun _ _ _ _=>trivial) (fun i x ρ s hx hI=>by obtain⟨h1,rfl⟩:=Ol hx;rw[show (0+(i:Int))=(i:Int)by omega];exact hs i ρ s h1 hI) (by rw[JW];exact he)
@[simp ↓] theorem YN:W X (pQ N t b none [] ρ st) Q=Q (.next ρ) st:=propext zbU
@[simp ↓] theorem ZO{it:It}:W X (ex N (.gY t it b) ρ st) Q=W (cE ρ Q) (cK N it ρ st) fun p st1=>W X (pQ N t b p.2 p.1 ρ st1) Q:=by
  rw[Td,eL];rfl
end
theorem To{f:Val->aa->R (Option Val)}{g:lC}{Q:List Val->aa->Prop}{xs:List Val}(J:Nat->List Val->aa->Prop)(h0:J 0 [] st)(hg:∀ i ys s,J i ys s->g.ok s)
 (hs:∀ i x ys s,xs[i]?=some x->J i ys s->W X (f x s) (fun o s'=>J (i+1) (ys++o.toList) s')) (he:∀ ys s,J xs.length ys s->Q ys s):W X (cY f g xs st) Q:=by
 have gen:∀ (xs1:List Val) (n:Nat) (acc:List Val) (st:aa) (Q':List Val->aa->Prop),xs.drop n=xs1->n<=xs.length->J n acc st->(∀ ys s,J xs.length (acc++ys) s->Q' ys s)->W X (cY f g xs1 st) Q':=by
  intro xs1;induction xs1 with
  |nil=>
   intro n acc st Q' hd hn hJ hq;have hlen:n=xs.length:=by have:=List.drop_eq_nil_iff.mp hd;omega
   unfold cY;rw[zah (hg n acc st hJ)];exact hq [] st (by rw[zau];exact hlen ▸ hJ)
  |cons x r ih=>
   intro n acc st Q' hd hn hJ hq;have hx:xs[n]?=some x:=by have:=zbj (·[0]?) hd;simpa using this
   have hn':n<xs.length:=(zak.mp hx).1;have hr:xs.drop (n+1)=r:=by have:=zbj List.tail hd;simpa using this
   have h1:=hs n x acc st hx hJ;unfold cY;rw[zah (hg n acc st hJ),aA];refine h1.mono fun o s1 h2=>?_;rw[aA];exact ih (n+1) (acc++o.toList) s1 _ hr (by omega) h2 fun ys s hy=>by rw[Tj];exact hq _ _ (by rw[←zbp];exact hy)
 exact gen xs 0 [] st Q rfl (za1 _) h0 fun ys s h=>he ys s (by simpa using h)
def mY(N:bz)(elt:E)(tg:Tg)(ifs:Es)(own:List Nat)(ρ:ae):Val->aa->R (Option Val):=fun x st2=>(asg N tg x (bT ρ own) st2).bind fun ρ1 st3=>(bR N ifs ρ1 st3).bind fun b st4=>if b then(ev N elt ρ1 st4).bind fun y st5=>.ok (some y) st5 else .ok none st4
@[simp ↓] theorem abg{mu:Bool}{elt:E}{tg:Tg}{it:It}{ifs:Es}{own:List Nat}{Q:Val->aa->Prop}:W X (ev N (.comp mu elt tg it ifs own) ρ st) Q=W X (cK N it ρ st) fun p st1=>W nX (cY (mY N elt tg ifs own ρ) p.2 p.1 st1) fun ys st6=>W X (aU mu ys st6) Q:=by
  rw[ev,aA];exact bu fun p st1=>by rw[aA,oA];rfl
@[simp ↓] theorem ZP{elt:E}{tg:Tg}{ifs:Es}{own:List Nat}{x:Val}{Q:Option Val->aa->Prop}:W X (mY N elt tg ifs own ρ x st) Q=W X (asg N tg x (bT ρ own) st) fun ρ1 st3=>W X (bR N ifs ρ1 st3) fun b st4=>W X (if b=true then(ev N elt ρ1 st4).bind fun y st5=>.ok (some y) st5 else .ok none st4) Q:=by
  unfold mY;rw[aA];exact bu fun ρ1 st3=>by rw[aA]
end
@[simp] theorem UO{n:Nat}:(n<=sizeLine)=(n<=16777216):=by rw[zap]
@[simp] theorem ZQ{vs:List Val}{st:aa}(h:vs.length<=16777216):aU true vs st= .ok (.loc st.length) (st++[.lst vs]):=sr st vs (by rw[zap];exact h)
@[simp] theorem V1(i:Int)(st:aa):aX (.d (.int i)) st= .ok (i != 0) st:=rfl
@[simp] theorem UP(st:aa):aX (.d .none) st= .ok false st:=rfl
section
variable {X:XQ} {st:aa} {ρ:ae} {N:bz} {Q:Val->aa->Prop}
def kE(vs:List Val)(st:aa):R Val:=match datas vs with
 |some ds=>if ds.length<=sizeLine then .ok (.d (.tuple ds)) st else .no
 |none=>.no
def Tp(v:Val)(st:aa):R Val:=match v with
 | .d (.int i)=>.ok (.d (.int (-i))) st
 |_=>.no
def LV(v:Val)(st:aa):R (Option Int):=match v with
 | .d (.int i)=>.ok (some i) st
 |_=>.no
def YO(x:Val)(st1:aa):R Val:=match x with
    | .d (.tuple xs)=>.ok (.d (.tuple xs.reverse)) st1
    | .d (.str x)=>if x.length<=16777216 then .ok (.d (.str ⟨x.cps.toList.reverse.toArray⟩)) st1 else .no
    |x=>match fu st1 x with
     |some xs=>.ok (.d (.list xs.reverse)) st1
     |none=>.no
def JZ(N:bz)(g:Nat)(v:Val)(st1:aa):R Val:=match v,N.glob g with
    | .d (.str x),some (.dict kvs)=>match gp kvs x with
      |some d=>.ok (.d d) st1
      |none=>.no
    |_,_=>.no
def qN(v:Val)(st1:aa):R Val:=match v with
    | .loc n=>match st1[n]? with
      |some (.lst xs)=>match datas xs with
       |some ds=>.ok (.d (.list ds)) (st1.set n .dead)
       |none=>.no
      |some (.dct kvs)=>match bY kvs with
       |some ds=>.ok (.d (.dict ds)) (st1.set n .dead)
       |none=>.no
      |some (.gQ kvs)=>match bY kvs with
       |some ds=>.ok (.td ds) (st1.set n .dead)
       |none=>.no
      |_=>.no
    |v=>.ok v st1
def J0(v:Option (Option Val))(st:aa):R Val:=match v with
 |some (some v)=>.ok v st
 |_=>.no
@[simp] theorem Ge{v:Val}:J0 (some (some v)) st= .ok v st:=rfl
def Tq(v:Option PyData)(st:aa):R Val:=match v with
 |some d=>.ok (.d d) st
 |none=>.no
@[simp] theorem XR{d:PyData}:Tq (some d) st= .ok (.d d) st:=rfl
@[simp ↓] theorem abH{i:Nat}:W X (ev N (.var i) ρ st) Q=W X (J0 ρ[i]? st) Q:=by rw[ev_var];rfl
@[simp ↓] theorem abI{d:PyData}:W X (ev N (.cst d) ρ st) Q=Q (.d d) st:=by rw[Sz];rfl
@[simp ↓] theorem abh{n:Nat}:W X (ev N (.glob n) ρ st) Q=W X (Tq (N.glob n) st) Q:=by rw[N7];rfl
@[simp ↓] theorem abJ{o:jK}{a b:E}:W X (ev N (.bin o a b) ρ st) Q=W X (ev N a ρ st) fun x s=>W X (ev N b ρ s) fun y s=>W X (R.aS (gZ o x y s)) Q:=by rw[SA,aA];exact bu fun x s=>by rw[aA]
@[simp ↓] theorem abK{o:uM}{a b:E}:W X (ev N (.cmp o a b) ρ st) Q=W X (ev N a ρ st) fun x s=>W X (ev N b ρ s) fun y s=>W X (R.aS (cI o x y s)) Q:=by rw[SG,aA];exact bu fun x s=>by rw[aA]
@[simp ↓] theorem ab9{a b:E}:W X (ev N (.ix a b) ρ st) Q=W X (ev N a ρ st) fun x s=>W X (ev N b ρ s) fun y s=>W X (R.aS (cW x y s)) Q:=by rw[VN,aA];exact bu fun x s=>by rw[aA]
@[simp ↓] theorem abL{a:E}:W X (ev N (.neg a) ρ st) Q=W X (ev N a ρ st) fun v s=>W X (Tp v s) Q:=by rw[SE,aA];rfl
@[simp] theorem YQ{i:Int}:Tp (.d (.int i)) st= .ok (.d (.int (-i))) st:=rfl
@[simp ↓] theorem abM{es:Es}:W X (ev N (.and es) ρ st) Q=W X (dP N es ρ st) Q:=by rw[SH]
@[simp ↓] theorem acd{es:Es}:W X (ev N (.or es) ρ st) Q=W X (fX N es ρ st) Q:=by rw[VM]
@[simp ↓] theorem abN{a:E}:W X (ev N (.not a) ρ st) Q=W X (ev N a ρ st) fun v s=>W X (aX v s) fun b s=>Q (.d (.bool (!b))) s:=by rw[SJ,aA];exact bu fun v s=>by rw[aA];rfl
@[simp ↓] theorem ZR{c a b:E}:W X (ev N (.ite c a b) ρ st) Q=W X (ev N c ρ st) fun v s=>W X (aX v s) fun k s=>Br (k=true) (W X (ev N a ρ s) Q) (W X (ev N b ρ s) Q):=by rw[SM,aA];exact bu fun v s=>by rw[aA];exact bu fun k s=>by rw[kD]
@[simp ↓] theorem abO{es:Es}:W X (ev N (.tup es) ρ st) Q=W X (bj N es ρ st) fun vs s=>W X (kE vs s) Q:=by rw[SN,aA];rfl
theorem iY{vs:List Val}{ds:List PyData}(h:datas vs=some ds)(hl:ds.length<=16777216):kE vs st= .ok (.d (.tuple ds)) st:=by unfold kE;rw[h];dsimp only;rw[zah (by rw[zap];exact hl)]
@[simp] theorem ZS{a:PyData}:kE [.d a] st= .ok (.d (.tuple [a])) st:=iY rfl (by simp)
@[simp] theorem ZT{a b:PyData}:kE [.d a,.d b] st= .ok (.d (.tuple [a,b])) st:=iY rfl (by simp)
@[simp] theorem ZU{a b c:PyData}:kE [.d a,.d b,.d c] st= .ok (.d (.tuple [a,b,c])) st:=iY rfl (by simp)
@[simp] theorem ZV{a b c d:PyData}:kE [.d a,.d b,.d c,.d d] st= .ok (.d (.tuple [a,b,c,d])) st:=iY rfl (by simp)
@[simp] theorem ZW{a b c d e:PyData}:kE [.d a,.d b,.d c,.d d,.d e] st= .ok (.d (.tuple [a,b,c,d,e])) st:=iY rfl (by simp)
@[simp] theorem ZX{a b c d e f:PyData}:kE [.d a,.d b,.d c,.d d,.d e,.d f] st= .ok (.d (.tuple [a,b,c,d,e,f])) st:=iY rfl (by simp)
@[simp] theorem ZY{a b c d e f g h i:PyData}:kE [.d a,.d b,.d c,.d d,.d e,.d f,.d g,.d h,.d i] st= .ok (.d (.tuple [a,b,c,d,e,f,g,h,i])) st:=iY rfl (by simp)
@[simp ↓] theorem abP{mu:Bool}{es:Es}:W X (ev N (.lst mu es) ρ st) Q=W X (bj N es ρ st) fun vs s=>W X (aU mu vs s) Q:=by rw[SO,aA]
@[simp ↓] theorem abQ{mu:Bool}{kvs:nR}:W X (ev N (.dct mu kvs) ρ st) Q=W X (fM N kvs ρ st) fun p s=>W X (gy mu p.1 p.2 s) Q:=by rw[SQ,aA]
@[simp ↓] theorem ZZ{a:E}{lo hi:Pt}:W X (ev N (.slice a lo hi) ρ st) Q=W X (ev N a ρ st) fun x s=>W X (cZ N lo ρ s) fun l s=>W X (cZ N hi ρ s) fun u s=>W X (R.aS (fU x l u s)) Q:=by rw[JF,aA];exact bu fun v s=>by rw[aA];exact bu fun k s=>by rw[aA]
@[simp ↓] theorem Z0{a:E}{Q:Option Int->aa->Prop}:W X (cZ N (.e a) ρ st) Q=W X (ev N a ρ st) fun v s=>W X (LV v s) Q:=by rw[JI,aA];rfl
@[simp] theorem XS{i:Int}:LV (.d (.int i)) st= .ok (some i) st:=rfl
@[simp] theorem YR{xs:List PyData}:YO (.d (.tuple xs)) st= .ok (.d (.tuple xs.reverse)) st:=rfl
@[simp ↓] theorem abR{a:E}{g:Nat}:W X (ev N (.xA g a) ρ st) Q=W X (ev N a ρ st) fun v s=>W X (JZ N g v s) Q:=by rw[SR,aA];rfl
@[simp ↓] theorem abi{f:Nat}{es:Es}:W X (ev N (.call f es) ρ st) Q=W X (bj N es ρ st) fun vs s=>W X (N.fns f vs s) Q:=by rw[ev_call,aA]
@[simp ↓] theorem ace{b:Bi}{es:Es}:W X (ev N (.bi b es) ρ st) Q=W X (bj N es ρ st) fun vs s=>W X (R.aS (cJ b vs s)) Q:=by rw[VO,aA]
@[simp ↓] theorem abS{a:E}{ts:List Ty}:W X (ev N (.nS a ts) ρ st) Q=W X (ev N a ρ st) fun v s=>W X (R.aS ((lQ s v ts).bind fun k=>bl s k)) Q:=by rw[SV,aA]
@[simp ↓] theorem acf{m:Me}{a:E}{es:Es}:W X (ev N (.me m a es) ρ st) Q=W X (ev N a ρ st) fun x s=>Br (recv m s x=true) (W X (bj N es ρ s) fun vs s=>W X (R.aS (bO m x vs s)) Q) False:=by
  rw[VP,aA];exact bu fun x s=>by rw[kD,aA];rfl
@[simp ↓] theorem abT{a:E}:W X (ev N (.frz a) ρ st) Q=W X (ev N a ρ st) fun v s=>W X (qN v s) Q:=by rw[SW,aA];rfl
@[simp] theorem abj{d:PyData}:qN (.d d) st= .ok (.d d) st:=rfl
theorem Oq{n:Nat}{ds:List PyData}(h:st[n]?=some (.lst (ds.map Val.d))):qN (.loc n) st= .ok (.d (.list ds)) (st.set n .dead):=by unfold qN;dsimp only;rw[h];dsimp only;rw[jc]
@[simp ↓] theorem abk{a:E}:W X (dP N (.cons a .nil) ρ st) Q=W X (ev N a ρ st) Q:=by rw[F4]
@[simp ↓] theorem abl{a b:E}{r:Es}:W X (dP N (.cons a (.cons b r)) ρ st) Q=W X (ev N a ρ st) fun v s=>W X (aX v s) fun k s=>Br (k=true) (W X (dP N (.cons b r) ρ s) Q) (Q v s):=by rw[F5,aA];exact bu fun v s=>by rw[aA];exact bu fun k s=>by rw[kD];rfl
@[simp ↓] theorem abU{a:E}:W X (fX N (.cons a .nil) ρ st) Q=W X (ev N a ρ st) Q:=by rw[JJ]
@[simp ↓] theorem abV{a b:E}{r:Es}:W X (fX N (.cons a (.cons b r)) ρ st) Q=W X (ev N a ρ st) fun v s=>W X (aX v s) fun k s=>Br (k=true) (Q v s) (W X (fX N (.cons b r) ρ s) Q):=by rw[JK,aA];exact bu fun v s=>by rw[aA];exact bu fun k s=>by rw[kD];rfl
section
variable {Q:List Val->aa->Prop}
@[simp ↓] theorem abm:W X (bj N .nil ρ st) Q=Q [] st:=by rw[N8];rfl
@[simp ↓] theorem abn{e:E}{r:Es}:W X (bj N (.cons e r) ρ st) Q=W X (ev N e ρ st) fun v s=>W X (bj N r ρ s) fun vs s=>Q (v::vs) s:=by rw[JG,aA];exact bu fun v s=>by rw[aA];rfl
end
section
variable {Q:List Val×List Val->aa->Prop}
@[simp ↓] theorem abW:W X (fM N .nil ρ st) Q=Q ([],[]) st:=by rw[JH];rfl
@[simp ↓] theorem abX{k v:E}{r:nR}:W X (fM N (.cons k v r) ρ st) Q=W X (ev N k ρ st) fun x s=>W X (ev N v ρ s) fun y s=>W X (fM N r ρ s) fun p s=>Q (x::p.1,y::p.2) s:=by rw[F3,aA];exact bu fun v s=>by rw[aA];exact bu fun y s=>by rw[aA];rfl
end
@[simp ↓] theorem YS{Q:Bool->aa->Prop}:W X (bR N .nil ρ st) Q=Q true st:=by rw[Bj];rfl
section
variable {Q:cC->aa->Prop}
@[simp ↓] theorem abo{a:E}:W X (cK N (.e a) ρ st) Q=W X (ev N a ρ st) fun v s=>W X (fQ (bS v s) s) Q:=by rw[SY,aA]
@[simp ↓] theorem Z1{as:Es}:W X (cK N (.rng as) ρ st) Q=W X (bj N as ρ st) fun vs s=>W X (fQ (lj vs) s) Q:=by rw[JL,aA]
theorem Tr{n:Nat}(h:n<=1000000000):lj [.d (.int n)]=some (rng 0 n 1,none):=Tf (JV (by omega) (by omega))
@[simp] theorem V2{xs:List PyData}:bS (.d (.tuple xs)) st=some (xs.map Val.d,none):=rfl
@[simp] theorem XT{xs:List PyData}:bS (.d (.list xs)) st=some (xs.map Val.d,none):=rfl
end
section
variable {Q:ae->aa->Prop} {v:Val}
@[simp ↓] theorem abp{i:Nat}:W X (asg N (.name i) v ρ st) Q=Br (i<ρ.length) (Q (ρ.set i (some v)) st) False:=by rw[JM,kD];rfl
@[simp ↓] theorem abq{ts:jL}{xs:List PyData}:W X (asg N (.tup ts) (.d (.tuple xs)) ρ st) Q=W X (dg N ts (xs.map Val.d) ρ st) Q:=by rw[N9]
def D5(o k v:Val)(ρ:ae)(s:aa):R ae:=match jr o k v s with
 |some s3=>.ok ρ s3
 |none=>.no
@[simp ↓] theorem YT{a i:E}:W X (asg N (.sub a i) v ρ st) Q=W X (ev N a ρ st) fun o s=>W X (ev N i ρ s) fun k s=>W X (D5 o k v ρ s) Q:=by rw[Oa,aA];exact bu fun v s=>by rw[aA];rfl
theorem Ot{o k v:Val}{s3:aa}(h:jr o k v st=some s3):D5 o k v ρ st= .ok ρ s3:=by unfold D5;rw[h]
@[simp ↓] theorem Z2:W X (dg N .nil [] ρ st) Q=Q ρ st:=by rw[JN];rfl
@[simp ↓] theorem Z3{t:Tg}{r:jL}{vs:List Val}:W X (dg N (.cons t r) (v::vs) ρ st) Q=W X (asg N t v ρ st) fun ρ1 s=>W X (dg N r vs ρ1 s) Q:=by rw[F6,aA]
end
section
variable {Q:Fl->aa->Prop}
@[simp ↓] theorem YU{e:E}:W X (ex N (.expr e) ρ st) Q=W (cE ρ Q) (ev N e ρ st) fun _ s=>Q (.next ρ) s:=by rw[Oc,eL];rfl
@[simp ↓] theorem Z4{t:Tg}{e:E}:W X (ex N (.asg t e) ρ st) Q=W (cE ρ Q) (ev N e ρ st) fun v s=>W nX (asg N t v ρ s) fun ρ1 s=>Q (.next ρ1) s:=by rw[S0,eL];exact bu fun v s=>by rw[aA,oA];rfl
@[simp ↓] theorem Z5{i j:Nat}{a b:E}:W X (ex N (.par i j a b) ρ st) Q=W (cE ρ Q) (ev N a ρ st) fun v s=>W (cE ρ Q) (ev N b ρ s) fun u s=>Br (i<ρ.length/\j<ρ.length) (Q (.next ((ρ.set i (some v)).set j (some u))) s) False:=by rw[S1,eL];exact bu fun v s=>by rw[eL];exact bu fun u s=>by rw[kD];rfl
@[simp ↓] theorem YV{i j l:Nat}{a b c:E}:W X (ex N (.jP i j l a b c) ρ st) Q=W (cE ρ Q) (ev N a ρ st) fun v s=>W (cE ρ Q) (ev N b ρ s) fun u s=>W (cE ρ Q) (ev N c ρ s) fun w s=>Br (i<ρ.length/\j<ρ.length/\l<ρ.length) (Q (.next (((ρ.set i (some v)).set j (some u)).set l (some w))) s) False:=by rw[Oi,eL];exact bu fun v s=>by rw[eL];exact bu fun u s=>by rw[eL];exact bu fun w s=>by rw[kD];rfl
@[simp ↓] theorem YW{ts:jL}{es:Es}:W X (ex N (.lO ts es) ρ st) Q=W (cE ρ Q) (bj N es ρ st) fun vs s=>Br (vs.length<=sizeLine) (W nX (dg N ts vs ρ s) fun ρ1 s=>Q (.next ρ1) s) False:=by
  rw[Oj,eL];exact bu fun vs s=>by rw[kD,aA,oA];rfl
@[simp ↓] theorem Z6{e:E}:W X (ex N (.ret e) ρ st) Q=W (cE ρ Q) (ev N e ρ st) fun v s=>Q (.ret v) s:=by rw[S2,eL];rfl
@[simp ↓] theorem Ou{c:E}{a b:Ss}:W X (ex N (.ite c a b) ρ st) Q=W (cE ρ Q) (ev N c ρ st) fun v s=>W (cE ρ Q) (aX v s) fun k s=>Br (k=true) (W X (aF N a ρ s) Q) (W X (aF N b ρ s) Q):=by rw[Tc,eL,aA];exact bu fun v s=>bu fun k s=>by rw[kD]
@[simp ↓] theorem YX:W X (ex N .cont ρ st) Q=Q (.cont ρ) st:=by rw[Od];rfl
@[simp ↓] theorem abr:W X (aF N .nil ρ st) Q=Q (.next ρ) st:=by rw[Oe];rfl
def augR(o:jK)(v u:Val)(s:aa):R Val:=match v,u with
 | .d (.int _),.d (.int _)=>R.aS (gZ o v u s)
 |_,_=>.no
@[simp ↓] theorem Z7{i:Nat}{o:jK}{e:E}:W X (ex N (.aug i o e) ρ st) Q=W nX (J0 ρ[i]? st) fun v s=>W (cE ρ Q) (ev N e ρ st) fun u s1=>W (cE ρ Q) (augR o v u s1) fun z s2=>Q (.next (ρ.set i (some z))) s2:=by
  rw[ex];cases h:ρ[i]? with
  |none=>rfl
  |some o1=>
   cases o1 with
   |none=>rfl
   |some v=>
    rw[Ge,Tj];dsimp only;rw[eL];exact bu fun u s1=>by
     unfold augR;cases v <;> first |rfl |skip
     rename_i x;cases x <;> first |rfl |skip
     cases u <;> first |rfl |skip
     rename_i y;cases y <;> first |rfl |(simp only[eL];rfl)
@[simp] theorem YY{o:jK}{i j:Int}:augR o (.d (.int i)) (.d (.int j)) st=R.aS (gZ o (.d (.int i)) (.d (.int j)) st):=rfl
end
end
section
end
section
end
section
end
section
variable {S:aa} {n:Nat} {vs:List Val} {X:XQ}
theorem Gf(h:S[n]?=some (.lst vs)):(recv .append S (.loc n)=true)=True:=eq_true (uo h)
theorem YZ{v:Val}(h:S[n]?=some (.lst vs))(hl:vs.length<16777216):bO .append (.loc n) [v] S=some (.d .none,S.set n (.lst (vs++[v]))):=Au v h (by rw[zap];exact hl)
theorem Ov(a b:Int):cJ .min2 [.d (.int a),.d (.int b)] S=some (.d (.int (if b<a then b else a)),S):=rfl
theorem Ow{ds:List PyData}(h:S[n]?=some (.lst (ds.map Val.d))):cJ .tuple [.loc n] S=some (.d (.tuple ds),S):=by
 show (dO S (.loc n)).bind _=_;have:dO S (.loc n)=some ds:=by
  show (iI S (.loc n)).bind datas=_;have:iI S (.loc n)=some (ds.map Val.d):=by show fT S (.loc n)=_;unfold fT;simp only[h]
  rw[this,zaE,jc]
 rw[this];rfl
theorem w6(h:S[n]?=some (.lst vs)):cJ .len [.loc n] S=some (.d (.int vs.length),S):=by
 unfold cJ;dsimp only;have h1:tyOf S (.loc n)=some .list:=by unfold tyOf;simp only[h]
 have h2:iI S (.loc n)=some vs:=by show fT S (.loc n)=_;unfold fT;simp only[h]
 rw[h1,h2];rfl
end
@[simp] theorem abY{α:Type}{a0 a1 a2:α}{r:List α}:L2.atI (a0::a1::a2::r) 2=some a2:=by
  unfold L2.atI L2.ixN;rw[zah (by decide),zah (by simp only[zaf];omega)];rfl
@[simp] theorem abZ{α:Type}{a0 a1 a2 a3:α}{r:List α}:L2.atI (a0::a1::a2::a3::r) 3=some a3:=by
  unfold L2.atI L2.ixN;rw[zah (by decide),zah (by simp only[zaf];omega)];rfl
@[simp] theorem ab0{α:Type}{a0 a1 a2 a3 a4:α}{r:List α}:L2.atI (a0::a1::a2::a3::a4::r) 4=some a4:=by
  unfold L2.atI L2.ixN;rw[zah (by decide),zah (by simp only[zaf];omega)];rfl
@[simp] theorem ab1{α:Type}{a0 a1 a2 a3 a4 a5:α}{r:List α}:L2.atI (a0::a1::a2::a3::a4::a5::r) 5=some a5:=by
  unfold L2.atI L2.ixN;rw[zah (by decide),zah (by simp only[zaf];omega)];rfl
@[simp] theorem ab2{α:Type}{a0 a1 a2 a3 a4 a5 a6:α}{r:List α}:L2.atI (a0::a1::a2::a3::a4::a5::a6::r) 6=some a6:=by
  unfold L2.atI L2.ixN;rw[zah (by decide),zah (by simp only[zaf];omega)];rfl
@[simp] theorem ab3{α:Type}{a0 a1 a2 a3 a4 a5 a6 a7:α}{r:List α}:L2.atI (a0::a1::a2::a3::a4::a5::a6::a7::r) 7=some a7:=by
  unfold L2.atI L2.ixN;rw[zah (by decide),zah (by simp only[zaf];omega)];rfl
@[simp] theorem ab4{α:Type}{a0 a1 a2 a3 a4 a5 a6 a7 a8:α}{r:List α}:L2.atI (a0::a1::a2::a3::a4::a5::a6::a7::a8::r) 8=some a8:=by
  unfold L2.atI L2.ixN;rw[zah (by decide),zah (by simp only[zaf];omega)];rfl
theorem W.fZ{α:Type}{r:R α}{v:α}{st:aa}(h:W nX r fun a s=>a=v/\s=st):r= .ok v st:=by obtain⟨a,s,e,rfl,rfl⟩:=h.run;exact e
section
end
section
variable {X:XQ} {st:aa} {ρ:ae} {N:bz}
theorem Tt{a:E}{cs:List Str}:ev N (.sV a cs) ρ st=(ev N a ρ st).bind fun v st1=>R.aS (iW N.cls cs v st1):=by rw[ev]
theorem Tu{a:E}{f:Str}:ev N (.fld a f) ρ st=(ev N a ρ st).bind fun v st1=>R.aS (cU N.cls N.obs f v st1):=by rw[ev]
theorem J5{c:Str}{es:Es}:ex N (.raise c es) ρ st=(bj N es ρ st).cat ρ fun vs st1=>gz N.cls c vs ρ st1:=by rw[ex]
theorem Tv{b:Ss}{cs:List Str}{i:Option Nat}{su:Su}:ex N (.nB b cs i su) ρ st=(aF N b ρ st).i9.bind fun fl st1=>gI N.cls cs i su fl st1:=by rw[ex]
@[simp ↓] theorem ab5{a:E}{cs:List Str}{Q:Val->aa->Prop}:W X (ev N (.sV a cs) ρ st) Q=W X (ev N a ρ st) fun v s=>W X (R.aS (iW N.cls cs v s)) Q:=by rw[Tt,aA]
@[simp ↓] theorem ab6{a:E}{f:Str}{Q:Val->aa->Prop}:W X (ev N (.fld a f) ρ st) Q=W X (ev N a ρ st) fun v s=>W X (R.aS (cU N.cls N.obs f v s)) Q:=by rw[Tu,aA]
@[simp ↓] theorem XU{c:Str}{es:Es}{Q:Fl->aa->Prop}:W X (ex N (.raise c es) ρ st) Q=W (cE ρ Q) (bj N es ρ st) fun vs s=>W X (gz N.cls c vs ρ s) Q:=by rw[J5,eL]
@[simp ↓] theorem Z8{b:Ss}{cs:List Str}{i:Option Nat}{su:Su}{Q:Fl->aa->Prop}:W X (ex N (.nB b cs i su) ρ st) Q=W nX (aF N b ρ st) fun fl s=>W X (gI N.cls cs i su fl s) Q:=by rw[Tv,aA,vG]
section
variable {cl:List Cl} {cs:List Str} {i:Option Nat} {su:Su}
@[simp] theorem XW:gI cl cs i su (.next ρ) st= .ok (.next ρ) st:=rfl
@[simp] theorem Y0{v:Val}:gI cl cs i su (.ret v) st= .ok (.ret v) st:=rfl
@[simp] theorem Y3:gI cl cs i su (.brk ρ) st= .ok (.brk ρ) st:=rfl
@[simp] theorem XX:gI cl cs i su (.cont ρ) st= .ok (.cont ρ) st:=rfl
theorem AD{e:jl}{k:Cl}(hk:dX cl e.cls=some k)(hc:cs.any (fun y=>k.fV.contains y)=true)(hi:BA i ρ=true):gI cl cs i su (.exc e ρ) st=fR k.az i su e ρ st:=by unfold gI;dsimp only;rw[hk];dsimp only;rw[zah hc,zah hi]
theorem D6{fl:List Str}{i j:Nat}{e:jl}{fs:List (Str×PyData)}(hf:lV e.az=some fs)(hj:j<ρ.length)(ij:i≠j):fR fl (some i) (.keep j) e ρ st= .ok (.next ((ρ.set j (some (.xc e.cls fs))).set i none)) st:=by unfold fR;rw[hf];dsimp only;rw[zah ⟨hj,ij⟩]
theorem xZ{c:Str}{k:Cl}{vs:List Val}(hk:dX cl c=some k)(hl:vs.length=k.az.length)(h9:vs.length<=900):gz cl c vs ρ st= .ok (.exc ⟨c,(k.az.zip vs).reverse⟩ ρ) st:=by unfold gz;rw[hk];dsimp only;rw[zah ⟨hl,h9⟩]
theorem w7{c:Str}{k:Cl}{fs:List (Str×PyData)}(hk:dX cl c=some k):iW cl cs (.xc c fs) st=some (.d (.bool (cs.any fun y=>k.fV.contains y)),st):=by unfold iW;dsimp only;rw[hk];rfl
theorem Ox{ob:List Ob}{c f:Str}{k:Cl}{fs:List (Str×PyData)}{d:PyData}(hk:dX cl c=some k)(hc:k.az.contains f=true)(hl:fs.lookup f=some d):cU cl ob f (.xc c fs) st=some (.d d,st):=by unfold cU;dsimp only;rw[hk,zaE,guard_pos hc,hl];rfl
end
@[simp] theorem abt{c:Str}{fs:List (Str×PyData)}:kK (.xc c fs) (.d .none)=some false:=rfl
theorem J6{keep:Bool}{Q:Val->aa->Prop}{e:jl}{s:aa}(h:s.length=st.length):aO keep st X Q (.exc e ρ) s=X e s:=by show (∃ s2,aK keep st (e.az.all fun p=>aI st.length p.2) s=some s2/\X e s2)=_;rw[xY _ _ h];simp
@[simp] theorem V3{keep:Bool}{Q:Val->aa->Prop}{e:jl}:aO keep st X Q (.exc e ρ) st=X e st:=J6 rfl
theorem pR{Q:Fl->aa->Prop}{e:jl}{s:aa}:cE ρ Q e s=Q (.exc e ρ) s:=rfl
end
theorem vH:∀ kvs:List (PyData×PyData),bY (kvs.map fun p=>(p.1,Val.d p.2))=some kvs
 | []=>rfl
 |p::r=>by show (bY (r.map fun p=>(p.1,Val.d p.2))).map _=_;rw[vH r];rfl
theorem J8{st:aa}{n:Nat}{kvs:List (PyData×PyData)}(h:st[n]?=some (.dct (kvs.map fun p=>(p.1,Val.d p.2)))):qN (.loc n) st= .ok (.d (.dict kvs)) (st.set n .dead):=by unfold qN;dsimp only;rw[h];dsimp only;rw[vH]
@[simp] theorem XY:gZ .Hz=yw:=rfl
@[simp] theorem abu:kK (.d .none) (.d .none)=some true:=rfl
@[simp] theorem abv(x:Str):kK (.d (.str x)) (.d .none)=some false:=rfl
@[simp] theorem abw(x:Int):kK (.d (.int x)) (.d .none)=some false:=rfl
@[simp] theorem abx(x:List PyData):kK (.d (.tuple x)) (.d .none)=some false:=rfl
@[simp] theorem aby(x:List PyData):kK (.d (.list x)) (.d .none)=some false:=rfl
@[simp] theorem abz(x:Bool):kK (.d (.bool x)) (.d .none)=some false:=rfl
section
variable {X:XQ} {st:aa} {ρ:ae} {N:bz}
def AE(N:bz)(kx vx:E)(tg:Tg)(ifs:Es)(own:List Nat)(ρ:ae):Val->aa->R (Option (Val×Val)):=fun x st2=>(asg N tg x (bT ρ own) st2).bind fun ρ1 st3=>(bR N ifs ρ1 st3).bind fun b st4=>if b then(ev N kx ρ1 st4).bind fun y st5=>(ev N vx ρ1 st5).bind fun z st6=>.ok (some (y,z)) st6 else .ok none st4
def AF(mu:Bool)(N:bz)(kx vx:E)(tg:Tg)(ifs:Es)(own:List Nat)(ρ:ae)(p:cC)(s:aa):R Val:=((gR (AE N kx vx tg ifs own ρ) p.2 p.1 s).bP).bind fun ys st6=>qm mu ys st6
@[simp ↓] theorem Z9{mu:Bool}{kx vx:E}{tg:Tg}{it:It}{ifs:Es}{own:List Nat}{Q:Val->aa->Prop}:W X (ev N (.o8 mu kx vx tg it ifs own) ρ st) Q=W X (cK N it ρ st) fun p s=>W X (AF mu N kx vx tg ifs own ρ p s) Q:=by
  rw[ev,aA];rfl
theorem x9{f:Val->aa->R (Option (Val×Val))}{g:Val->Val×Val}{st:aa}:∀ {xs:List Val},(∀ x∈xs,f x st= .ok (some (g x)) st)->gR f none xs st= .ok (xs.map g) st
 | [],_=>rfl
 |x::r,h=>by have e:gR f none (x::r) st=(f x st).bind fun o st1=>(gR f none r st1).bind fun ys st2=>.ok (o.toList++ys) st2:=rfl;rw[e,h x zac,uh,x9 fun y hy=>h y (zae _ hy),uh];rfl
theorem ya{α:Type}(k:α->PyData)(v:α->Val):∀ {l:List α},(∀ a∈l,isKey (k a)=true)->gS (l.map fun a=>(.d (k a),v a))=some (l.map fun a=>(k a,v a))
 | [],_=>rfl
 |a::l,h=>by rw[zaR];unfold gS;rw[zah (h a zac),ya k v fun b hb=>h b (zae _ hb)];rfl
theorem D7{mu:Bool}{kx vx:E}{tg:Tg}{ifs:Es}{own:List Nat}{xs:List PyData}(k:PyData->PyData)(v:PyData->Val)(h:∀ x∈xs,W nX (AE N kx vx tg ifs own ρ (.d x) st) fun o s=>o=some (.d (k x),v x)/\s=st)(hk:∀ x∈xs,isKey (k x)=true)(hl:xs.length<=16777216):
 AF true N kx vx tg ifs own ρ (xs.map Val.d,none) st= .ok (.loc st.length) (st++[.dct (aq [] (xs.map fun x=>(k x,v x)))]):=by
 unfold AF;dsimp only;rw[x9 (g:=fun z=>match z with | .d x=>(.d (k x),v x) |z=>(z,z))]
 ·rw[JE,uh,zbb];unfold qm;have e:gS (xs.map ((fun z=>match z with | .d x=>(Val.d (k x),v x) |z=>(z,z)) ∘ Val.d))=some (xs.map fun x=>(k x,v x)):=ya k v hk
  rw[e];dsimp only;rw[zah (by rw[zap,zaw];exact hl),zah rfl]
 ·intro x hx;obtain⟨d,hd,rfl⟩:=zaz.mp hx;exact(h d hd).fZ
def vI(v:Val)(s:aa):R cC:=match v with
    | .loc n=>match s[n]? with
      |some (.dct kvs)=>match bY kvs with
       |some ds=>.ok (ds.map fun p=>Val.d (.tuple [p.1,p.2]),none) (s.set n .dead)
       |none=>.no
      |_=>.no
    |_=>.no
@[simp ↓] theorem XZ{a:E}{Q:cC->aa->Prop}:W X (cK N (.items a) ρ st) Q=W X (ev N a ρ st) fun v s=>W X (vI v s) Q:=by
  rw[cK,aA];rfl
theorem vJ:∀ kvs:List (PyData×PyData),bY (kvs.map fun p=>(p.1,Val.d p.2))=some kvs
 | []=>rfl
 |p::r=>by show (bY (r.map fun p=>(p.1,Val.d p.2))).map _=_;rw[vJ r];rfl
theorem Gg{n:Nat}{kvs:List (PyData×PyData)}(h:st[n]?=some (.dct (kvs.map fun p=>(p.1,Val.d p.2)))):vI (.loc n) st= .ok ((kvs.map fun p=>PyData.tuple [p.1,p.2]).map Val.d,none) (st.set n .dead):=by unfold vI;dsimp only;rw[h];dsimp only;rw[vJ];simp[zbb]
theorem kU{t:Tg}{b:Ss}{v:Val}{r:List Val}{Q:Fl->aa->Prop}:W X (pQ N t b none (v::r) ρ st) Q=W nX (asg N t v ρ st) fun ρ2 s2=>W nX (aF N b ρ2 s2) (iD (fun ρ1 s=>W X (pQ N t b none r ρ1 s) Q) Q):=by unfold pQ;rw[xX _ none v r ρ st trivial,aA,vG,aA,oA];refine bu fun ρ2 s2=>bu fun fl s3=>?_;cases fl <;> rfl
theorem D8{c:E}{b:Ss}{Q:Fl->aa->Prop}(I:Nat->ae->aa->Prop)(hs:∀ k ρ s,I k ρ s->W (cE ρ Q) (ev N c ρ s) fun v s1=>W (cE ρ Q) (aX v s1) fun t s2=>Br (t=true) (W nX (aF N b ρ s2) (iD (fun ρ' s'=>∃ k',k'<k/\I k' ρ' s') Q)) (Q (.next ρ) s2)):
 ∀ (n k:Nat) (X:XQ) (ρ:ae) (st:aa),k<n->I k ρ st->W X (qo (ER N c) (aF N b) n ρ st) Q
 | 0,k,X,ρ,st,hk,_=>by omega
 |n+1,k,X,ρ,st,hk,hI=>by
  have h:=hs k ρ st hI;unfold qo;rw[eL];unfold ER;rw[aA];refine h.mono fun v s1 h1=>h1.mono fun t s2 h2=>?_;rw[kD];refine Br.intro (fun ht=>?_) fun ht=>?_
  ·rw[Ay ht]at h2;rw[aA,vG];refine h2.mono fun fl s3 h3=>?_;cases fl with
   |next ρ1=>obtain⟨k',hk',hI'⟩:=h3;exact D8 I hs n k' _ ρ1 s3 (by omega) hI'
   |cont ρ1=>obtain⟨k',hk',hI'⟩:=h3;exact D8 I hs n k' _ ρ1 s3 (by omega) hI'
   |brk ρ1=>exact h3
   |ret v=>exact h3
   |exc e ρ1=>exact h3
  ·rw[Az ht]at h2;exact h2
theorem jV{c:E}{b:Ss}{Q:Fl->aa->Prop}(I:Nat->ae->aa->Prop)(k:Nat)(hk:k<1000000)(h0:I k ρ st)(hs:∀ k ρ s,I k ρ s->W (cE ρ Q) (ev N c ρ s) fun v s1=>W (cE ρ Q) (aX v s1) fun t s2=>Br (t=true) (W nX (aF N b ρ s2) (iD (fun ρ' s'=>∃ k',k'<k/\I k' ρ' s') Q)) (Q (.next ρ) s2)):
 W X (ex N (.cX c b) ρ st) Q:=by
 rw[JO];exact D8 I hs uR k X ρ st hk h0
end
theorem Gh{α:Type}{k k0:PyData}{v:Val}:∀ (acc:List (PyData×Val)),bJ (if acc.any (fun p=>decide (p.1=k0))then acc.map fun p=>if p.1=k0 then(k0,v)else p else acc++[(k0,v)]) k=if k=k0 then some v else bJ acc k:=by
 have app:∀ acc:List (PyData×Val),bJ (acc++[(k0,v)]) k=(bJ acc k).or (if k0=k then some v else none):=by
  intro acc;induction acc with
  |nil=>rfl
  |cons p r ih=>
   show (if p.1=k then some p.2 else bJ (r++[(k0,v)]) k)=(if p.1=k then some p.2 else bJ r k).or _;split
   ·rfl
   ·exact ih
 have mp:∀ acc:List (PyData×Val),bJ (acc.map fun p=>if p.1=k0 then(k0,v)else p) k=if k=k0 then(if acc.any (fun p=>decide (p.1=k0))then some v else none)else bJ acc k:=by
  intro acc;induction acc with
  |nil=>simp[bJ]
  |cons p r ih=>
   rw[zaR,zbn];by_cases h0:p.1=k0
   ·rw[zah h0];show (if k0=k then some v else bJ _ k)=_;rw[ih];by_cases hk:k=k0
    ·subst hk;simp[h0]
    ·rw[zaj (fun z=>hk z.symm),zaj hk,zaj hk];show _=if p.1=k then _ else _;rw[zaj (fun z=>hk (z.symm.trans h0))]
   ·rw[zaj h0];show (if p.1=k then some p.2 else bJ _ k)=_;rw[ih];by_cases hk:k=k0
    ·subst hk;rw[zaj h0,show decide (p.1=k)=false from zaH h0,zah rfl,zah rfl,zb7]
    ·rw[zaj hk,zaj hk];rfl
 have none_of:∀ acc:List (PyData×Val),acc.any (fun p=>decide (p.1=k0))=false->bJ acc k0=none:=by
  intro acc;induction acc with
  |nil=>intro _;rfl
  |cons p r ih=>intro h;rw[zbn,zbh]at h;show (if p.1=k0 then some p.2 else bJ r k0)=none;rw[zaj (by simpa using h.1),ih h.2]
 intro acc;by_cases ha:acc.any (fun p=>decide (p.1=k0))=true
 ·rw[zah ha,mp,ha];rfl
 ·have ha':acc.any (fun p=>decide (p.1=k0))=false:=Bool.eq_false_iff.mpr ha;rw[zaj ha,app];by_cases hk:k=k0
  ·subst hk;rw[zah rfl,none_of acc ha'];simp
  ·rw[zaj hk,zaj (fun z=>hk z.symm)];simp
theorem Gi{k k0:PyData}{v:Val}(acc:List (PyData×Val)):bJ (aq acc [(k0,v)]) k=if k0=k then some v else bJ acc k:=by
 show bJ (if acc.any (fun p=>decide (p.1=k0))then acc.map fun p=>if p.1=k0 then(k0,v)else p else acc++[(k0,v)]) k=_;rw[Gh (α:=Unit)];by_cases e:k=k0
 ·rw[zah e,zah e.symm]
 ·rw[zaj e,zaj fun z=>e z.symm]
def Tw(xs:List PyData)(i:Nat):PyData:=xs.getD i .none
def LW:Nat->Nat->List PyData->Prop
 | 0,r,rows=>r=0/\rows=[]
 |m+1,r,rows=>∃ rs:List (Nat×PyData),rows=rs.map (·.2)/\r=(rs.map (·.1)).sum/\∀ q∈rs,Ax m q.1 q.2
theorem Oz{xs:List PyData}{i:Nat}(h:i<xs.length):Tw xs i=xs[i]:=by show xs.getD i .none=_;rw[List.getD_eq_getElem?_getD,zaW h];rfl
theorem Ax.pos{m r:Nat}{d:PyData}(h:Ax m r d):1<=r:=by
 cases m with
 |zero=>obtain⟨rfl,_⟩:=h;exact zal _
 |succ m=>
  rcases h with⟨rfl,_⟩|⟨_,_,_,_,_,_,rows,_,_,_,_,_,rfl,_⟩
  ·exact zal _
  ·omega
theorem LW.nil:∀ {m r:Nat},LW m r []->r=0
 | 0,_,h=>h.1
 |m+1,_,⟨rs,h1,h2,_⟩=>by have:rs=[]:=List.map_eq_nil_iff.mp h1.symm;rw[h2,this];rfl
section
end
theorem Gj{m:Nat}:∀ {rs:List (Nat×PyData)},(∀ q∈rs,Ax m q.1 q.2)->rs.length<=(rs.map (·.1)).sum
 | [],_=>za1 _
 |q::s,h=>by have h1:=(h q zac).pos;have h2:=Gj fun z hz=>h z (zae _ hz);simp only[zaf,zaR,List.sum_cons];omega
theorem LW.len{m r:Nat}{rows:List PyData}(h:LW m r rows):rows.length<=r:=by
 cases m with
 |zero=>rw[h.2];exact za1 _
 |succ m=>obtain⟨rs,rfl,rfl,h3⟩:=h;rw[zaw];exact Gj h3
theorem K9{xs:List PyData}{n:Nat}(h:n<xs.length)(S:aa):cW (.d (.tuple xs)) (.d (.int n)) S=some (.d (Tw xs n),S):=by
 have:L2.atI xs n=some (Tw xs n):=by unfold L2.atI L2.ixN;rw[zah (by omega),zah (by omega),zaE,Oz h];simp[h]
 rw[F7,this];rfl
def AG{α:Type}(o:Option Nat)(f:Nat->R α):R α:=match o with
 |some i=>f i
 |none=>.no
@[simp] theorem X0{α:Type}{i:Nat}{f:Nat->R α}:AG (some i) f=f i:=rfl
def vK(o:Option aa)(ρ:ae):R ae:=match o with
 |some s=>.ok ρ s
 |none=>.no
@[simp] theorem UQ{s:aa}{ρ:ae}:vK (some s) ρ= .ok ρ s:=rfl
section
variable {X:XQ} {st:aa} {ρ:ae} {N:bz} {Q:Val->aa->Prop}
@[simp ↓] theorem ab7{c:Str}{args ks:Es}:W X (ev N (.new c args ks) ρ st) Q=W X (bj N args ρ st) fun vs s=>W X (bj N ks ρ s) fun zs s2=>W X (AG (cD N.obs c "__init__") fun i=>newR c (N.fns i) (vs++zs) s2) Q:=by
  rw[ev,aA];exact bu fun vs s=>by rw[aA];exact bu fun zs s2=>by unfold AG;rfl
@[simp ↓] theorem aaa{c m:Str}{a:E}{args:Es}:W X (ev N (.av c m a args) ρ st) Q=W X (ev N a ρ st) fun v s=>W X (AG (cG N.obs c m v s) fun i=>(bj N args ρ s).bind fun vs s2=>N.fns i (v::vs) s2) Q:=by
  rw[ev,aA];exact bu fun v s=>by unfold AG;rfl
@[simp ↓] theorem abA{c:Str}{Fm:List Val->aa->R Val}{vs:List Val}:W X (newR c Fm vs st) Q=W X (Fm (.loc st.length::vs) (st++[.obj c []])) fun v s=>Br (v= .d .none) (Q (.loc st.length) s) False:=by
  unfold newR;rw[aA];exact bu fun v s=>by
   by_cases h:v= .d .none
   ·subst h;rw[Ay rfl];rfl
   ·rw[Az h];split
    ·exact absurd rfl h
    ·rfl
@[simp ↓] theorem Y4{a:E}{f:Str}{v:Val}{Q:ae->aa->Prop}:W X (asg N (.fld a f) v ρ st) Q=W X (ev N a ρ st) fun o s=>W X (vK (bF N.obs f o v s) ρ) Q:=by
  rw[asg,aA];exact bu fun o s=>by unfold vK;rfl
@[simp ↓] theorem Y5{a:E}{f:Str}{o:jK}{e:E}{Q:Fl->aa->Prop}:W X (ex N (.qk a f o e) ρ st) Q=W (cE ρ Q) (ev N a ρ st) fun x s1=>W (cE ρ Q) (R.aS (cU [] N.obs f x s1)) fun v s2=>W (cE ρ Q) (ev N e ρ s2) fun u s3=>W (cE ρ Q) (R.aS (j6 o v u s3)) fun z s4=>W (cE ρ Q) (vK (bF N.obs f x z s4) ρ) fun ρ1 s5=>Q (.next ρ1) s5:=by
  rw[ex,eL];refine bu fun x s1=>?_;rw[eL];refine bu fun v s2=>?_;rw[eL];refine bu fun u s3=>?_;rw[eL];refine bu fun z s4=>?_;cases h:bF N.obs f x z s4 <;> rfl
theorem dY{cl:List Cl}{ob:List Ob}{f c:Str}{n:Nat}{fs:List (Str×Val)}{o:Ob}{v:Val}(h:st[n]?=some (.obj c fs))(ho:fW ob c=some o)(hc:o.attrs.contains f=true)(hl:fs.lookup f=some v):cU cl ob f (.loc n) st=some (v,st):=by unfold cU;dsimp only;rw[h];dsimp only;rw[ho,zaE,guard_pos hc,hl];rfl
theorem mZ{ob:List Ob}{f c:Str}{n:Nat}{fs:List (Str×Val)}{o:Ob}{v:Val}(h:st[n]?=some (.obj c fs))(ho:fW ob c=some o)(hc:o.attrs.contains f=true)(hl:fs.length<1000):bF ob f (.loc n) v st=some (st.set n (.obj c (nD f v fs))):=by unfold bF;dsimp only;rw[h];dsimp only;rw[ho,zaE,zah ⟨hc,hl⟩];rfl
theorem Gk{ob:List Ob}{m c:Str}{n i:Nat}{fs:List (Str×Val)}(h:st[n]?=some (.obj c fs))(hl:fs.lookup m=none)(hm:cD ob c m=some i):cG ob c m (.loc n) st=some i:=by unfold cG;dsimp only;rw[h];dsimp only;rw[zah ⟨rfl,hl⟩,hm]
end
theorem W.kF{r:R Val}{v:Val}{s:aa}(h:W nX r fun a t=>a=v/\t=s):r= .ok v s:=by obtain⟨a,t,e,rfl,rfl⟩:=h.run;exact e
end G
namespace G
open PySem PySem.Spec PyProof.Rows Builtin.Str PySem.StrLaws
theorem AH(s sub:Str)(hi:Nat):∀ (l:List Nat) (st:Array Nat×Nat),1<=st.1.size->(forIn l st (occBody s sub hi 1)).run.fst=st.1
 | [],st,h=>rfl
 |a::l,st,h=>by rw[List.forIn_cons];unfold occBody;rw[zaj (fun z=>by have:=z.1.1.1;omega)];exact AH s sub hi l _ h
theorem AI(s:Str)(c hi:Nat):∀ (l:List Nat) (free:Nat),(∀ i∈l,free<=i)->(forIn l ((#[]:Array Nat),free) (occBody s ⟨#[c]⟩ hi 1)).run.fst.toList=(l.find? fun i=>decide (i+1<=hi/\s.cps.toList[i]?=some c)).toList
 | [],free,_=>rfl
 |a::l,free,hf=>by
  rw[List.forIn_cons,zbZ];have ha:free<=a:=hf a zac;have e:(a+(⟨#[c]⟩:Str).length<=hi/\subAt s ⟨#[c]⟩ a=true)↔(a+1<=hi/\s.cps.toList[a]?=some c):=by refine and_congr_right fun _=>?_;rw[subAt_eq];exact take1_drop
  by_cases hc:a+1<=hi/\s.cps.toList[a]?=some c
  ·rw[zbo hc];obtain⟨h1,h2⟩:=e.mpr hc;unfold occBody;rw[zah ⟨⟨⟨by simp,ha⟩,h1⟩,h2⟩];show (forIn l _ (occBody s ⟨#[c]⟩ hi 1)).run.fst.toList=_;rw[AH _ _ _ _ _ (by simp)];rfl
  ·rw[zaH hc];unfold occBody;rw[zaj (fun z=>hc (e.mp ⟨z.1.2,z.2⟩))];exact AI s c hi l free fun i hi'=>hf i (zae _ hi')
theorem OA(s:Str)(c lo hi:Nat):occurrences s ⟨#[c]⟩ lo hi 1=((List.range' lo (hi+1-lo)).find? fun i=>decide (i+1<=hi/\s.cps.toList[i]?=some c)).toList:=by rw[occ_eq,AI];intro i hi';rw[List.mem_range'_1]at hi';exact hi'.1
def upto(c:Nat)(s:List Nat):List Nat:=s.takeWhile (· != c)
theorem w9(c:Nat)(s:List Nat):(upto c s).length<=s.length:=(zb1 _).length_le
theorem xg{c:Nat}:∀ {s:List Nat},c∈s->(upto c s).length<s.length/\s[(upto c s).length]?=some c
 | [],h=>by simp at h
 |a::s,h=>by
  unfold upto;rw[zaM];by_cases e:a=c
  ·subst e;simp
  ·have:(a != c)=true:=by simpa using e
   rw[zah this];have hs:c∈s:=by
    rcases zas.mp h with q |q
    ·exact absurd q.symm e
    ·exact q
   obtain⟨h1,h2⟩:=xg hs;exact⟨by simpa[upto]using h1,by simpa[upto]using h2⟩
theorem Cg{c:Nat}:∀ {s:List Nat} {j:Nat},j<(upto c s).length->s[j]?≠some c
 | [],j,h=>by simp[upto]at h
 |a::s,j,h=>by
  unfold upto at h;rw[zaM]at h;by_cases e:a=c
  ·subst e;simp at h
  ·rw[zah (by simpa using e)]at h;cases j with
   |zero=>simpa using e
   |succ j=>exact Cg (s:=s) (by simpa[upto]using h)
theorem uv{c:Nat}:∀ {s:List Nat},c∉s->upto c s=s
 | [],_=>rfl
 |a::s,h=>by
  rw[zas,not_or]at h;have:(a != c)=true:=by simpa using fun e=>h.1 e.symm
  unfold upto;rw[zaM,zah this];congr 1
  exact uv h.2
theorem find_range{p:Nat->Bool}{lo n i:Nat}(h1:lo<=i)(h2:i<lo+n)(h3:p i=true)(h4:∀ j,lo<=j->j<i->p j=false):(List.range' lo n).find? p=some i:=by
 induction n generalizing lo with
 |zero=>omega
 |succ n ih=>
  rw[List.range'_succ,zbZ];by_cases e:lo=i
  ·subst e;rw[h3]
  ·rw[h4 lo (zal _) (by omega)];exact ih (by omega) (by omega) fun j hj hji=>h4 j (by omega) hji
theorem find_range_none{p:Nat->Bool}{lo n:Nat}(h:∀ j,lo<=j->j<lo+n->p j=false):(List.range' lo n).find? p=none:=by rw[List.find?_eq_none];intro x hx;rw[List.mem_range'_1]at hx;rw[h x hx.1 hx.2];simp
theorem AJ{x:Str}{s:List Nat}{c p e:Nat}(hs:x.cps.toList.drop p=s)(he:e<=x.length):occurrences x ⟨#[c]⟩ p e 1=if c∈s.take (e-p)then [p+(upto c (s.take (e-p))).length]else []:=by
 rw[OA];have at_:∀ j,p<=j->x.cps.toList[j]?=s[j-p]?:=fun j hj=>by rw[←hs,List.getElem?_drop,show p+(j-p)=j by omega]
 have tk:∀ k,k<e-p->(s.take (e-p))[k]?=s[k]?:=fun k hk=>List.getElem?_take_of_lt hk;by_cases h:c∈s.take (e-p)
 ·rw[zah h];obtain⟨h1,h2⟩:=xg h;have hl:(s.take (e-p)).length<=e-p:=List.length_take_le _ _;rw[find_range (i:=p+(upto c (s.take (e-p))).length) (by omega) (by omega)]
  ·rfl
  ·rw[zab];refine⟨by omega,?_⟩;rw[at_ _ (by omega),zaZ,←tk _ (by omega),h2]
  ·intro j hj hji;rw[decide_eq_false_iff_not];rintro⟨_,h4⟩;rw[at_ _ hj]at h4;refine Cg (s:=s.take (e-p)) (c:=c) (j:=j-p) (by omega) ?_;rw[tk _ (by omega),h4]
 ·rw[zaj h,find_range_none]
  ·rfl
  ·intro j hj hjn;rw[decide_eq_false_iff_not];rintro⟨h3,h4⟩;rw[at_ _ hj,←tk _ (by omega)]at h4;exact h (zag h4)
theorem AK(n p:Nat):fromIndex n (p:Int)=p:=by unfold fromIndex;rw[zaj (by omega)];omega
theorem J9{x:Str}{s:List Nat}{c p:Nat}(hs:x.cps.toList.drop p=s):Txt.find3 x ⟨#[c]⟩ (p:Int)=if c∈s then((p+(upto c s).length:Nat):Int)else -1:=by
 unfold Txt.find3;rw[AK,AJ hs (zal _)];have hl:s.length=x.length-p:=by rw[←hs,zaY];rfl
 rw[zaN (by omega)];by_cases h:c∈s
 ·rw[zah h,zah h]
 ·rw[zaj h,zaj h]
theorem Gm{x:Str}{s:List Nat}{c p e:Nat}(hs:x.cps.toList.drop p=s)(he:e<=x.length):Txt.findIn x ⟨#[c]⟩ (p:Int) (e:Int)=if c∈s.take (e-p)then((p+(upto c (s.take (e-p))).length:Nat):Int)else -1:=by
 have he':toIndexW x.length (e:Int)=e:=by unfold toIndexW;rw[zaj (by omega)];omega
 unfold Txt.findIn;rw[AK,he',AJ hs he];by_cases h:c∈s.take (e-p)
 ·rw[zah h,zah h]
 ·rw[zaj h,zaj h]
theorem yu{t:List Nat}{k:Nat}(h:t.getLast?≠some 32):Txt.rstripChars (glue (t++List.replicate k 32)) " " = glue t:=by
 have hb:(" " : Str).cps = #[32]:=by decide
 unfold Txt.rstripChars Txt.stripBy;have htw:((t++List.replicate k 32).reverse.takeWhile (" " : Str).cps.contains)=List.replicate k 32:=by
  rw[hb,List.reverse_append,List.reverse_replicate];have h2:t.reverse.takeWhile (#[32]:Array Nat).contains=[]:=by
   rw[←List.head?_reverse]at h;cases e:t.reverse with
   |nil=>rfl
   |cons a r=>rw[e]at h;have:a≠32:=fun z=>h (by rw[z];rfl);rw[zaM,zaj];simpa using this
  induction k with
  |zero=>simpa using h2
  |succ k ih=>rw[zbs,zaL,zaM,zah (by simp),ih]
 have hlo:stripLo (" " : Str).cps.contains false (glue (t++List.replicate k 32))=0:=rfl;have hhi:stripHi (" " : Str).cps.contains true (glue (t++List.replicate k 32)) 0=t.length:=by unfold stripHi;rw[zah rfl];show (glue (t++List.replicate k 32)).length-((t++List.replicate k 32).reverse.takeWhile (" " : Str).cps.contains).length=_;rw[htw];show (t++List.replicate k 32).toArray.size-_=_;simp
 split
 ·rename_i hsame;unfold stripSame at hsame;rw[hlo,hhi]at hsame;have hk:t.length=(t++List.replicate k 32).length:=by
   have:=(zaa _ _).mp hsame;have h2:=eq_of_beq this.2;rw[h2];simp[glue,Str.length]
  have:k=0:=by simpa using hk
  subst this;simp
 ·unfold stripped;rw[hlo,hhi];unfold strSub glue;congr 1
  apply Array.ext';simp
theorem jW{x:Str}{p c:Nat}{r:List Nat}(h:x.cps.toList.drop p=c::r)(hz:x.length<=16777216)(st:aa):cW (.d (.str x)) (.d (.int p)) st=some (.d (.str ⟨#[c]⟩),st):=by
 have e:x.cps.toList[p]?=some c:=by have:=zbj (·[0]?) h;simpa using this
 have hlt:p<x.cps.toList.length:=(zak.mp e).1;show (if x.length<=sizeLine then _ else none)=_;rw[zah (by rw[zap];exact hz)];have:L2.atI x.cps.toList (p:Int)=some c:=by
  have hlt':p<x.cps.size:=by simpa using hlt
  simp[L2.atI,L2.ixN,hlt',←e]
 rw[this];rfl
def Y6(F g:Nat->Nat):Fn:=⟨2,2,false,Dr F g⟩
def Y7(F g:Nat->Nat):Fn:=⟨1,2,true,Ds F g⟩
def Y8(F g:Nat->Nat):Fn:=⟨1,1,false,Dt F g⟩
def Y9(F g:Nat->Nat):Fn:=⟨1,1,false,Du F g⟩
def Za(F g:Nat->Nat):Fn:=⟨1,1,false,Dy F g⟩
def Zb(F g:Nat->Nat):Fn:=⟨1,1,false,Dz F g⟩
def Zd(F g:Nat->Nat):Fn:=⟨1,1,false,DB F g⟩
def Ze(F g:Nat->Nat):Fn:=⟨1,4,false,DC F g⟩
def Zf(F g:Nat->Nat):Fn:=⟨2,3,false,DF F g⟩
def Zg(F g:Nat->Nat):Fn:=⟨2,3,false,DH F g⟩
def V4(F g:Nat->Nat):Fn:=⟨2,3,false,yG F g⟩
def V5(F g:Nat->Nat):Fn:=⟨3,4,false,yH F g⟩
def V6(F g:Nat->Nat):Fn:=⟨4,6,false,yI F g⟩
def V7(F g:Nat->Nat):Fn:=⟨2,9,false,yJ F g⟩
structure kW (P:bU) (F g:Nat->Nat):Prop where
 f0:P.fns[F 0]?=some (Y6 F g)
 f1:P.fns[F 1]?=some (Y7 F g)
 f2:P.fns[F 2]?=some (Y8 F g)
 f3:P.fns[F 3]?=some (Y9 F g)
 f4:P.fns[F 4]?=some (Za F g)
 f5:P.fns[F 5]?=some (Zb F g)
 f6:P.fns[F 6]?=some (Zd F g)
 f7:P.fns[F 7]?=some (Ze F g)
 f8:P.fns[F 8]?=some (Zf F g)
 f9:P.fns[F 9]?=some (Zg F g)
 B6:P.fns[F 10]?=some (V4 F g)
 B7:P.fns[F 11]?=some (V5 F g)
 B9:P.fns[F 12]?=some (V6 F g)
 Ca:P.fns[F 13]?=some (V7 F g)
 g0:P.glob[g 0]?=some (.str "\n")
 g1:P.glob[g 1]?=some (.str "abcdefghijklmnopqrstuvwxyzABCDEFGHIJKLMNOPQRSTUVWXYZ0123456789_")
 g2:P.glob[g 2]?=some (.int 3)
 g3:P.glob[g 3]?=some (.str " \n")
 x0:dX P.cls "NoRead" = some ⟨"NoRead",true,["place"],["NoRead","LayError","ValueError","Exception","BaseException"]⟩
def cH(nm kd xs ps:PyData)(pa en bl re qu:PyData):PyData:=.tuple [nm,kd,xs,ps,pa,en,bl,re,qu]
def aM(xs:List Str):PyData:=.tuple (xs.map PyData.str)
def iN(p:Str):Str:=⟨#[p.cps.toList.getD 0 0]⟩
def mh(p:Str):Str:=⟨#[p.cps.toList.getD 1 0]⟩
def two(p:Str):Prop:=∃ a b,p=⟨#[a,b]⟩
def vd(p:PyData×PyData):PyData×Val:=(p.1,.d p.2)
theorem ng:∀ (l acc:List (PyData×PyData)),aq (acc.map vd) (l.map vd)=(aq acc l).map vd
 | [],_=>rfl
 |(k,v)::l,acc=>by
  rw[zaR];show aq (if(acc.map vd).any (fun p=>decide (p.1=k))then(acc.map vd).map fun p=>if p.1=k then(k,.d v)else p else acc.map vd++[(k,.d v)]) (l.map vd)=(aq (if acc.any (fun p=>decide (p.1=k))then acc.map fun p=>if p.1=k then(k,v)else p else acc++[(k,v)]) l).map vd;rw[←ng l];congr 1
  have e:(acc.map vd).any (fun p=>decide (p.1=k))=acc.any (fun p=>decide (p.1=k)):=by rw[List.any_map];rfl
  rw[e];by_cases h:acc.any (fun p=>decide (p.1=k))=true
  ·rw[zah h,zah h,zbb,zbb];refine List.map_congr_left fun p _=>?_;show (if p.1=k then(k,Val.d v)else vd p)=vd (if p.1=k then(k,v)else p);by_cases q:p.1=k
   ·rw[zah q,zah q];rfl
   ·rw[zaj q,zaj q]
  ·rw[zaj h,zaj h];simp[vd]
theorem vL{α:Type}:∀ (l acc:List (PyData×α)) (p:PyData×α),p∈aq acc l->p∈acc\/p∈l
 | [],_,p,h=>.inl h
 |(k,v)::l,acc,p,h=>by
  unfold aq at h;rcases vL l _ p h with h |h
  ·split at h
   ·obtain⟨q,hq,e⟩:=zaz.mp h;have e:(if q.1=k then(k,v)else q)=p:=e;split at e
    ·exact .inr (by rw[←e];exact zac)
    ·exact .inl (e ▸ hq)
   ·rcases zaX.mp h with h |h
    ·exact .inl h
    ·exact .inr (by rw[zaB.mp h];exact zac)
  ·exact .inr (zae _ h)
theorem jC{α:Type}(acc:List (PyData×α))(p:PyData×α):(aq acc [p]).length<=acc.length+1:=by obtain⟨k,v⟩:=p;show (if acc.any (fun p=>decide (p.1=k))then acc.map fun p=>if p.1=k then(k,v)else p else acc++[(k,v)]).length<=_;split <;> simp
theorem tN{α:Type}:∀ (l acc:List (PyData×α)),(aq acc l).length<=acc.length+l.length
 | [],_=>zal _
 |p::l,acc=>by have h:=tN l (aq acc [p]);have h2:=jC acc p;obtain⟨k,v⟩:=p;have e:aq acc ((k,v)::l)=aq (aq acc [(k,v)]) l:=rfl;rw[e,zaf];omega
def mj(ps:List Str):List (PyData×PyData):=aq [] (ps.map fun p=>(.str (iN p),.str (mh p)))
theorem OB{ps:List Str}{p:PyData×PyData}(h:p∈mj ps):∃ x∈ps,p=(.str (iN x),.str (mh x)):=by
 rcases vL _ _ _ h with h |h
 ·simp at h
 ·obtain⟨x,hx,rfl⟩:=zaz.mp h;exact⟨x,hx,rfl⟩
theorem OC(ps:List Str):(mj ps).length<=ps.length:=by have:=tN (ps.map fun p=>(PyData.str (iN p),PyData.str (mh p))) [];simpa[mj]using this
abbrev Tl:=Str->Option Str
def iT(F:Tl)(k v:Str):Tl:=fun x=>if k=x then some v else F x
def oB(D:List (PyData×PyData))(F:Tl):Tl:=D.foldl (fun F p=>match p with
 |(.str a,.str b)=>iT (iT F a "open") b "shut"
 |_=>F) F
def Tz(F:Tl)(d:PyData)(v:Str):Tl:=match d with
 | .str k=>iT F k v
 |_=>F
def xh(F:Tl)(d:PyData):Tl:=match d with
 | .str k=>iT (iT F (iN k) "begin") (mh k) "finish"
 |_=>F
def dS(ps:List Str)(pa:Str)(en bl:PyData):Tl:=xh (Tz (oB (mj ps) (iT (fun _=>none) pa "part")) en "end") bl
def Tells(kd:List (PyData×PyData))(F:Tl):Prop:=∀ x,bJ (kd.map vd) (.str x)=(F x).map fun y=>Val.d (.str y)
theorem jf{kd:List (PyData×PyData)}{F:Tl}(h:Tells kd F)(k v:Str):Tells (aq kd [(.str k,.str v)]) (iT F k v):=fun x=>by
 have e:(aq kd [(PyData.str k,PyData.str v)]).map vd=aq (kd.map vd) [(PyData.str k,Val.d (.str v))]:=by rw[←ng];rfl
 rw[e,Gi,h x];unfold iT;by_cases q:k=x
 ·subst q;rw[zah rfl,zah rfl];rfl
 ·rw[zaj (fun z=>q (by cases z;rfl)),zaj q]
section
variable {P:bU} {F g:Nat->Nat}
theorem OD(T:kW P F g){k:Nat}(hk:1<=k)(nm kd xs ps pa en bl re qu:PyData)(S:aa):aD P k (F 2) [.d (cH nm kd xs ps pa en bl re qu)] S= .ok (.d pa) S:=by refine W.fZ (W.aD T.f2 rfl hk ?_);show W nX (aF (P.env (k-1)) (Dt F g) [some (.d (cH nm kd xs ps pa en bl re qu))] S) (aO false S nX _);unfold Dt cH;simp -dsimp
theorem TF(T:kW P F g){k:Nat}(hk:1<=k)(nm kd xs ps pa en bl re qu:PyData)(S:aa):aD P k (F 3) [.d (cH nm kd xs ps pa en bl re qu)] S= .ok (.d en) S:=by refine W.fZ (W.aD T.f3 rfl hk ?_);show W nX (aF (P.env (k-1)) (Du F g) [some (.d (cH nm kd xs ps pa en bl re qu))] S) (aO false S nX _);unfold Du cH;simp -dsimp
theorem Ka(T:kW P F g){k:Nat}(hk:1<=k)(nm kd xs ps pa en bl re qu:PyData)(S:aa):aD P k (F 4) [.d (cH nm kd xs ps pa en bl re qu)] S= .ok (.d bl) S:=by refine W.fZ (W.aD T.f4 rfl hk ?_);show W nX (aF (P.env (k-1)) (Dy F g) [some (.d (cH nm kd xs ps pa en bl re qu))] S) (aO false S nX _);unfold Dy cH;simp -dsimp
theorem yb(T:kW P F g){k:Nat}(hk:1<=k)(nm kd xs ps pa en bl re qu:PyData)(S:aa):aD P k (F 5) [.d (cH nm kd xs ps pa en bl re qu)] S= .ok (.d re) S:=by refine W.fZ (W.aD T.f5 rfl hk ?_);show W nX (aF (P.env (k-1)) (Dz F g) [some (.d (cH nm kd xs ps pa en bl re qu))] S) (aO false S nX _);unfold Dz cH;simp -dsimp
theorem Kc(T:kW P F g){k:Nat}(hk:1<=k)(nm kd xs ps pa en bl re qu:PyData)(S:aa):aD P k (F 6) [.d (cH nm kd xs ps pa en bl re qu)] S= .ok (.d qu) S:=by refine W.fZ (W.aD T.f6 rfl hk ?_);show W nX (aF (P.env (k-1)) (DB F g) [some (.d (cH nm kd xs ps pa en bl re qu))] S) (aO false S nX _);unfold DB cH;simp -dsimp
theorem OE(T:kW P F g){k:Nat}(hk:1<=k)(nm kd ps pa en bl re qu:PyData)(xs:List Str)(x:Str)(S:aa):aD P k (F 0) [.d (cH nm kd (aM xs) ps pa en bl re qu),.d (.str x)] S= .ok (.d (.bool (xs.any fun z=>z == x))) S:=by refine W.fZ (W.aD T.f0 rfl hk ?_);show W nX (aF (P.env (k-1)) (Dr F g) [some (.d (cH nm kd (aM xs) ps pa en bl re qu)),some (.d (.str x))] S) (aO false S nX _);unfold Dr cH aM;simp -dsimp[kh]
theorem Gn{x:Str}(h:two x)(S:aa):cW (.d (.str x)) (.d (.int 0)) S=some (.d (.str (iN x)),S):=by obtain⟨a,b,rfl⟩:=h;exact jW (p:=0) (r:=[b]) rfl (by show 2<=_;omega) S
theorem Gp{x:Str}(h:two x)(S:aa):cW (.d (.str x)) (.d (.int 1)) S=some (.d (.str (mh x)),S):=by obtain⟨a,b,rfl⟩:=h;exact jW (p:=1) (r:=[]) rfl (by show 2<=_;omega) S
theorem Kd(T:kW P F g){k:Nat}(hk:1<=k)(nm kd xs pa en bl re qu:PyData){ps:List Str}(h2:∀ p∈ps,two p)(hl:ps.length<=100)(S:aa):
 aD P k (F 1) [.d (cH nm kd xs (aM ps) pa en bl re qu)] S= .ok (.loc S.length) (S++[.dct ((mj ps).map vd)]):=by
 refine W.fZ (W.aD T.f1 rfl hk ?_);show W nX (aF (P.env (k-1)) (Ds F g) [some (.d (cH nm kd xs (aM ps) pa en bl re qu)),none] S) (aO true S nX _);have hd:=D7 (mu:=true) (N:=P.env (k-1)) (ρ:=[some (.d (cH nm kd xs (aM ps) pa en bl re qu)),none]) (st:=S) (kx:=.ix (.var 1) (.cst (.int 0))) (vx:=.ix (.var 1) (.cst (.int 1))) (tg:=.name 1) (ifs:=.nil) (own:=[1]) (xs:=ps.map PyData.str)
  (fun d=>match d with | .str x=>.str (iN x) |d=>d) (fun d=>match d with | .str x=>.d (.str (mh x)) |d=>.d d) (fun d hd=>by
   obtain⟨x,hx,rfl⟩:=zaz.mp hd;unfold AE;simp -dsimp[bT,Gn (h2 x hx),Gp (h2 x hx)]) (fun d hd=>by
   obtain⟨x,hx,rfl⟩:=zaz.mp hd;rfl) (by simp;omega)
 have e:aq [] ((ps.map PyData.str).map fun d=>((match d with | .str x=>PyData.str (iN x) |d=>d),(match d with | .str x=>Val.d (.str (mh x)) |d=>.d d)))=(mj ps).map vd:=by unfold mj;rw[←ng,zbb,zbb];rfl
 rw[e]at hd;generalize (mj ps).map vd=D at *
 unfold Ds;have hi:cW (.d (cH nm kd xs (aM ps) pa en bl re qu)) (.d (.int 3)) S=some (.d (aM ps),S):=by unfold cH;simp -dsimp
 generalize cH nm kd xs (aM ps) pa en bl re qu=tg at *
 unfold aM at hi;generalize ps.map PyData.str=zs at *
 simp -dsimp[hi,hd]
end
section
variable {P:bU} {F g:Nat->Nat}
theorem Ke{st:aa}{n:Nat}{kvs:List (PyData×Val)}{k:PyData}{v:Val}(h:st[n]?=some (.dct kvs))(hk:isKey k=true)(hl:kvs.length<16777216):jr (.loc n) (.d k) v st=some (st.set n (.dct (aq kvs [(k,v)]))):=by
 show (match st[n]?,Val.d k with
  |some (.lst xs),.d (.int k)=>(L2.ixN xs.length k).bind fun j=>some (setC st n (.lst (xs.set j v)))
  |some (.dct kvs),.d k=>if isKey k=true/\kvs.length<sizeLine then some (setC st n (.dct (aq kvs [(k,v)])))else none
  |_,_=>none)=_
 rw[h];dsimp only;rw[zah ⟨hk,by rw[zap];exact hl⟩];rfl
theorem Gq(kd:List (PyData×PyData))(k v:PyData):aq (kd.map vd) [(k,.d v)]=(aq kd [(k,v)]).map vd:=by rw[←ng];rfl
theorem qO(S:aa)(c c':Cell)(r:aa):(S++c::r).set S.length c'=S++c'::r:=by rw[zb5 _ _ (zal _),Nat.sub_self];rfl
theorem oE(S:aa)(c:Cell)(r:aa):(S++c::r)[S.length]?=some c:=by rw[zaC (zal _),Nat.sub_self];rfl
theorem qP{ρ:ae}{S r:aa}{kd:List (PyData×PyData)}{k v:Str}(hl:kd.length<1000):D5 (.loc S.length) (.d (.str k)) (.d (.str v)) ρ (S++.dct (kd.map vd)::r)= .ok ρ (S++.dct ((aq kd [(.str k,.str v)]).map vd)::r):=by rw[Ot (Ke (oE S _ r) rfl (by rw[zaw];omega)),Gq,qO]
def jD(d:PyData):Prop:=d= .none\/∃ x,d= .str x
def D9(d:PyData):Prop:=d= .none\/∃ x,d= .str x/\two x
theorem Gr(T:kW P F g){k:Nat}(hk:2<=k)(nm kd xs:PyData){ps:List Str}{pa:Str}{en bl re qu:PyData}(h2:∀ p∈ps,two p)(hl:ps.length<=100)(he:jD en)(hb:D9 bl)(S:aa):
 ∃ D,Tells D (dS ps pa en bl)/\aD P k (F 7) [.d (cH nm kd xs (aM ps) (.str pa) en bl re qu)] S= .ok (.d (.dict D)) S:=by
 have q2:=fun S=>OD T (k:=k-1) (by omega) nm kd xs (aM ps) (.str pa) en bl re qu S;have q3:=fun S=>TF T (k:=k-1) (by omega) nm kd xs (aM ps) (.str pa) en bl re qu S;have q4:=fun S=>Ka T (k:=k-1) (by omega) nm kd xs (aM ps) (.str pa) en bl re qu S;have q1:=fun S=>Kd T (k:=k-1) (by omega) nm kd xs (.str pa) en bl re qu h2 hl S;have main:W nX (aD P k (F 7) [.d (cH nm kd xs (aM ps) (.str pa) en bl re qu)] S) fun a s=>s=S/\∃ D,Tells D (dS ps pa en bl)/\a= .d (.dict D):=by
  refine W.aD T.f7 rfl (by omega) ?_;generalize cH nm kd xs (aM ps) (.str pa) en bl re qu=tg at *
  show W nX (aF (P.env (k-1)) (DC F g) [some (.d tg),none,none,none] S) (aO false S nX _);unfold DC;have mk:∀ S:aa,gy true [.d (.str pa)] [.d (.str "part")] S= .ok (.loc S.length) (S++.dct ([(PyData.str pa,PyData.str "part")].map vd)::[]):=fun S=>rfl;have h0:Tells [(PyData.str pa,PyData.str "part")] (iT (fun _=>none) pa "part"):=jf (kd:=[]) (fun x=>rfl) pa "part";have hit:∀ c:Cell,vI (.loc (S.length+1)) (S++[c,.dct ((mj ps).map vd)])= .ok (((mj ps).map fun p=>PyData.tuple [p.1,p.2]).map Val.d,none) (S++[c,.dead]):=fun c=>by
   have e:(S++[c,.dct ((mj ps).map vd)])[S.length+1]?=some (.dct ((mj ps).map vd)):=by rw[zaC (by omega),zaZ];rfl
   rw[Gg (kvs:=mj ps) e,zb5 _ _ (by omega),zaZ];rfl
  have hD:=OC ps;have hm:=fun p=>OB (ps:=ps) (p:=p);have hsf:dS ps pa en bl=xh (Tz (oB (mj ps) (iT (fun _=>none) pa "part")) en "end") bl:=rfl;rw[hsf];generalize mj ps=D at *
  obtain⟨DT,hDT⟩:∃ DT,DT=D.map fun p=>PyData.tuple [p.1,p.2]:=⟨_,rfl⟩;rw[←hDT]at hit;simp -dsimp[q2,q1,mk,hit];obtain⟨I,hI⟩:∃ I:Nat->ae->aa->Prop,∀ i ρ s,I i ρ s↔∃ v2 v3 kd,ρ=[some (.d tg),some (.loc S.length),v2,v3]/\s=S++[.dct (kd.map vd),.dead]/\Tells kd (oB (D.take i) (iT (fun _=>none) pa "part"))/\kd.length<=1+2 * i:=⟨_,fun _ _ _=>zbU⟩;refine AB I ((hI _ _ _).mpr ⟨none,none,[(PyData.str pa,PyData.str "part")],rfl,rfl,h0,by simp⟩) ?_ ?_
  ·intro i x ρ s hx hi;obtain⟨v2,v3,kd,rfl,rfl,ht,hk⟩:=(hI _ _ _).mp hi;rw[hDT,zat]at hx;obtain⟨p,hp,rfl⟩:=zaG.mp hx;have hi':i<D.length:=(zak.mp hp).1;obtain⟨y,hy,rfl⟩:=hm p (zag hp);have n1:=jC kd (PyData.str (iN y),PyData.str "open");have n2:=jC (aq kd [(PyData.str (iN y),PyData.str "open")]) (PyData.str (mh y),PyData.str "shut");have s1:=fun ρ=>qP (ρ:=ρ) (S:=S) (r:=[.dead]) (kd:=kd) (k:=iN y) (v:="open") (by omega);have s2:=fun ρ=>qP (ρ:=ρ) (S:=S) (r:=[.dead]) (kd:=aq kd [(PyData.str (iN y),PyData.str "open")]) (k:=mh y) (v:="shut") (by omega);have fin:=(hI (i+1) [some (.d tg),some (.loc S.length),some (.d (.str (iN y))),some (.d (.str (mh y)))] (S++[.dct ((aq (aq kd [(PyData.str (iN y),PyData.str "open")]) [(PyData.str (mh y),PyData.str "shut")]).map vd),.dead])).mpr ⟨_,_,_,rfl,rfl,by
    rw[List.take_add_one,hp];unfold oB;rw[List.foldl_append];exact jf (jf ht _ _) _ _,by omega⟩
   have sz:(2:Nat)<=sizeLine:=by rw[zap];omega
   generalize aq (aq kd [(PyData.str (iN y),PyData.str "open")]) [(PyData.str (mh y),PyData.str "shut")]=kd2 at *
   generalize aq kd [(PyData.str (iN y),PyData.str "open")]=kd1 at *
   simp -dsimp[s1,s2,sz];exact fin
  ·intro ρ s hi;obtain⟨v2,v3,kd,rfl,rfl,ht,hk⟩:=(hI _ _ _).mp hi;rw[hDT,zaw]at ht hk;rw[za6]at ht;generalize oB D (iT (fun _=>none) pa "part")=F0 at *
   have hfin:∀ kd F1,Tells kd F1->kd.length<=900->∀ v2 v3,W nX (aF (P.env (k-1)) (.cons (.ite (.cmp .oY (.call (F 4) (.cons (.var 0) .nil)) (.cst .none)) (.cons (.lO (.cons (.sub (.var 1) (.ix (.call (F 4) (.cons (.var 0) .nil)) (.cst (.int 0)))) (.cons (.sub (.var 1) (.ix (.call (F 4) (.cons (.var 0) .nil)) (.cst (.int 1)))) .nil)) (.cons (.cst (.str "begin")) (.cons (.cst (.str "finish")) .nil))) .nil) .nil) (.cons (.ret (.frz (.var 1))) .nil)) [some (.d tg),some (.loc S.length),v2,v3] (S++[.dct (kd.map vd),.dead])) (aO false S nX fun a s=>s=S/\∃ D_1,Tells D_1 (xh F1 bl)/\a=Val.d (PyData.dict D_1)):=by
    intro kd F1 ht hk v2 v3;have fr:∀ kd:List (PyData×PyData),qN (.loc S.length) (S++[.dct (kd.map vd),.dead])= .ok (.d (.dict kd)) (S++[.dead,.dead]):=fun kd=>by have h:=J8 (st:=S++[.dct (kd.map vd),.dead]) (n:=S.length) (kvs:=kd) (oE S (.dct (kd.map vd)) [.dead]);rw[h,qO]
    have sz:(2:Nat)<=sizeLine:=by rw[zap];omega
    rcases hb with rfl |⟨x,rfl,hx⟩
    ·simp -dsimp[q4,fr];exact ht
    ·have n1:=jC kd (PyData.str (iN x),PyData.str "begin");have s1:=fun ρ=>qP (ρ:=ρ) (S:=S) (r:=[.dead]) (kd:=kd) (k:=iN x) (v:="begin") (by omega);have s2:=fun ρ=>qP (ρ:=ρ) (S:=S) (r:=[.dead]) (kd:=aq kd [(PyData.str (iN x),PyData.str "begin")]) (k:=mh x) (v:="finish") (by omega);have i0:=fun S=>Gn hx S;have i1:=fun S=>Gp hx S;have tt:=jf (jf ht (iN x) "begin") (mh x) "finish";generalize aq (aq kd [(PyData.str (iN x),PyData.str "begin")]) [(PyData.str (mh x),PyData.str "finish")]=kd2 at *
     generalize aq kd [(PyData.str (iN x),PyData.str "begin")]=kd1 at *
     simp -dsimp[q4,fr,s1,s2,i0,i1,sz];exact tt
   rcases he with rfl |⟨e,rfl⟩
   ·have h:=hfin kd F0 ht (by omega) v2 v3;simp -dsimp at h;simp -dsimp[q3];exact h
   ·have s1:=fun ρ=>qP (ρ:=ρ) (S:=S) (r:=[.dead]) (kd:=kd) (k:=e) (v:="end") (by omega);have n1:=jC kd (PyData.str e,PyData.str "end");have h:=hfin _ _ (jf ht e "end") (by omega) v2 v3;generalize aq kd [(PyData.str e,PyData.str "end")]=kd1 at *
    simp -dsimp at h;simp -dsimp[q3,s1];exact h
 obtain⟨a,s,e,rfl,D,hD,rfl⟩:=W.run main;exact⟨D,hD,e⟩
end
def pS:Str:="abcdefghijklmnopqrstuvwxyzABCDEFGHIJKLMNOPQRSTUVWXYZ0123456789_"
def bA(c:Nat):Bool:=decide (c∈pS.cps.toList)
structure TG where
 xs:List Str
 sf:Tl
 re:PyData
 qu:PyData
def jg(xs:List Str)(s:List Nat):Bool:=xs.any fun z=>z == glue s
def jE(xs:List Str)(s:List Nat):Option (List Nat):=if jg xs (s.take 3)=true then some (s.take 3)else if jg xs (s.take 2)=true then some (s.take 2)else if jg xs (s.take 1)=true then some (s.take 1)else none
def cP(T:TG):List Nat->Option (Str×Str×Nat)
 | []=>none
 |c::r=>if bA c=true then some ("word",glue ((c::r).takeWhile bA),((c::r).takeWhile bA).length)
  else if T.re= .str ⟨#[c]⟩then some ("remark",Txt.rstripChars (glue (upto 10 (c::r))) " ",(upto 10 (c::r)).length)
  else if T.qu= .str ⟨#[c]⟩then(if c∈r.take ((upto 10 (c::r)).length-1)then some ("quote",glue ((c::r).take ((upto c (r.take ((upto 10 (c::r)).length-1))).length+2)),(upto c (r.take ((upto 10 (c::r)).length-1))).length+2)else none)
  else match T.sf ⟨#[c]⟩with
   |some z=>some (z,⟨#[c]⟩,1)
   |none=>(jE T.xs (c::r)).map fun w=>("sign",glue w,w.length)
theorem iE{x:Str}{p q:Nat}{s:List Nat}(h:x.cps.toList.drop p=s)(hp:p<=x.length)(hz:x.length<=1000000)(st:aa):fU (.d (.str x)) (some (p:Int)) (some (q:Int)) st=some (.d (.str (glue (s.take (q-p)))),st):=by
 show guard' (x.length<=sizeLine) _=_;rw[guard_pos (by rw[zap];omega)];have e:g7 x.cps.toList (some (p:Int)) (some (q:Int))=s.take (q-p):=by
  unfold g7;rw[HT.sIx_nat,HT.sIx_nat];have hn:x.cps.toList.length=x.length:=rfl;have hsl:s.length=x.length-p:=by rw[←h,zaY];rfl
  rw[hn,zcc hp,h];by_cases hq:q<=x.length
  ·rw[zcc hq]
  ·rw[Nat.min_eq_right (by omega),zaN (by omega),zaN (by omega)]
 rw[e];rfl
theorem drop_len{x:Str}{p:Nat}{s:List Nat}(h:x.cps.toList.drop p=s)(hp:p<=x.length):x.length=p+s.length:=by
 have:s.length=x.length-p:=by rw[←h,zaY];rfl
 omega
section
variable {P:bU} {F g:Nat->Nat}
theorem AL(T:kW P F g){k:Nat}(hk:1<=k){x:Str}{p:Nat}{s:List Nat}(h:x.cps.toList.drop p=s)(hp:p<=x.length)(hz:x.length<=1000000)(S:aa):aD P k (F 8) [.d (.str x),.d (.int p)] S= .ok (.d (.int ((p+(upto 10 s).length:Nat):Int))) S:=by
 refine W.fZ (W.aD T.f8 rfl hk ?_);show W nX (aF (P.env (k-1)) (DF F g) [some (.d (.str x)),some (.d (.int p)),none] S) (aO false S nX _);have hf:∀ S,bO .find3 (.d (.str x)) [.d (.str "\n"),.d (.int p)] S=some (.d (.int (if 10∈s then((p+(upto 10 s).length:Nat):Int)else -1)),S):=fun S=>by rw[←J9 h];rfl
 have hr:∀ S:aa,recv .find3 S (.d (.str x))=true:=fun _=>rfl;have hg:=T.g0;have hlen:cJ .len [.d (.str x)] S=some (.d (.int x.length),S):=by show guard' (x.length<=sizeLine) _=_;rw[guard_pos (by rw[zap];omega)];rfl
 have hl:=drop_len h hp;unfold DF;by_cases hm:10∈s
 ·simp -dsimp only[hm,if_true]at hf;have hn : ¬ ((p+(upto 10 s).length:Nat):Int)<0:=by omega
  generalize ((p+(upto 10 s).length:Nat):Int)=z at *
  simp -dsimp[hf,hr,hg,hn]
 ·simp -dsimp only[hm,if_false]at hf;rw[uv hm,←hl];simp -dsimp[hf,hr,hg,hlen]
theorem len_run{x:Str}(hz:x.length<=1000000)(S:aa):cJ .len [.d (.str x)] S=some (.d (.int x.length),S):=by show guard' (x.length<=sizeLine) _=_;rw[guard_pos (by rw[zap];omega)];rfl
theorem LX(q:Nat->Bool):∀ (s:List Nat) (j:Nat),j<=(s.takeWhile q).length->(j<(s.takeWhile q).length/\∃ a r,s.drop j=a::r/\q a=true)\/(j=(s.takeWhile q).length/\(s.drop j=[]\/∃ a r,s.drop j=a::r/\q a=false))
 | [],j,h=>.inr ⟨by simpa using h,.inl (by simp)⟩
 |a::s,j,h=>by
  rw[zaM]at h⊢;by_cases ha:q a=true
  ·rw[zah ha]at h⊢;cases j with
   |zero=>exact .inl ⟨by simp,a,s,rfl,ha⟩
   |succ j=>
    rcases LX q s j (by simpa using h)with⟨h1,h2⟩|⟨h1,h2⟩
    ·exact .inl ⟨by simpa using h1,h2⟩
    ·exact .inr ⟨by simpa using h1,h2⟩
  ·rw[zaj ha]at h⊢;obtain rfl:j=0:=by simpa using h
   exact .inr ⟨rfl,.inr ⟨a,s,rfl,by simpa using ha⟩⟩
theorem Kf(T:kW P F g){k:Nat}(hk:1<=k){x:Str}{p:Nat}{s:List Nat}(h:x.cps.toList.drop p=s)(hp:p<=x.length)(hz:x.length<=900000)(S:aa):
 aD P k (F 9) [.d (.str x),.d (.int p)] S= .ok (.d (.tuple [.str "word",.str (glue (s.takeWhile bA)),.int ((p+(s.takeWhile bA).length:Nat):Int)])) S:=by
 refine W.fZ (W.aD T.f9 rfl hk ?_);show W nX (aF (P.env (k-1)) (DH F g) [some (.d (.str x)),some (.d (.int p)),none] S) (aO false S nX _);have hg:P.glob[g 1]?=some (.str pS):=T.g1;have hlen:=len_run (x:=x) (by omega);have hl:=drop_len h hp;have hwl:(s.takeWhile bA).length<=s.length:=(zb1 _).length_le;unfold DH;simp -dsimp;obtain⟨I,hI⟩:∃ I:Nat->ae->aa->Prop,∀ i ρ s',I i ρ s'↔∃ j,i=(s.takeWhile bA).length-j/\j<=(s.takeWhile bA).length/\ρ=[some (.d (.str x)),some (.d (.int p)),some (.d (.int ((p+j:Nat):Int)))]/\s'=S:=⟨_,fun _ _ _=>zbU⟩;refine jV I (s.takeWhile bA).length (by omega) ((hI _ _ _).mpr ⟨0,by omega,by omega,rfl,rfl⟩) ?_;intro i ρ s' hi;obtain⟨j,rfl,hj,rfl,rfl⟩:=(hI _ _ _).mp hi;have hd:x.cps.toList.drop (p+j)=s.drop j:=by rw[←h,List.drop_drop]
 rcases LX bA s j hj with⟨h1,a,r,ha,hq⟩|⟨rfl,h2⟩
 ·have hix:=jW (hd.trans ha) (by omega) s';have hlt:((p+j:Nat):Int)<(x.length:Int):=by omega
  have hm:a∈pS.cps.toList:=by simpa[bA]using hq
  have fin:=(hI ((s.takeWhile bA).length-(j+1)) _ _).mpr ⟨j+1,rfl,by omega,rfl,rfl⟩;have e1:((p+j:Nat):Int)+1=((p+(j+1):Nat):Int):=by omega
  have hb:P.glob[g 1]?=some (.str pS):=hg;generalize ((p+j:Nat):Int)=z at *
  simp -dsimp[hlen,hlt,hix,hb,hm,e1];exact⟨_,by omega,fin⟩
 ·have sl:=iE (q:=p+(s.takeWhile bA).length) h hp (by omega) s';rw[zaZ]at sl;have e2:s.take (s.takeWhile bA).length=s.takeWhile bA:=List.prefix_iff_eq_take.mp (List.takeWhile_prefix _) |>.symm
  rw[e2]at sl;rcases h2 with h2 |⟨a,r,ha,hq⟩
  ·have hlt : ¬ ((p+(s.takeWhile bA).length:Nat):Int)<(x.length:Int):=by
    have:=zbj List.length h2;simp at this;omega
   generalize ((p+(s.takeWhile bA).length:Nat):Int)=z at *
   simp -dsimp[hlen,hlt,sl]
  ·have hix:=jW (hd.trans ha) (by omega) s';have hlt:((p+(s.takeWhile bA).length:Nat):Int)<(x.length:Int):=by
    have:=zbj List.length ha;simp at this;omega
   have hm : ¬ a∈pS.cps.toList:=by simpa[bA]using hq
   have hb:P.glob[g 1]?=some (.str pS):=hg;generalize ((p+(s.takeWhile bA).length:Nat):Int)=z at *
   simp -dsimp[hlen,hlt,hix,hb,hm,sl]
def cg(p:Nat):jl:=⟨"NoRead",[("place",.d (.int p))]⟩
theorem AM(T:kW P F g)(p:Nat)(ρ:ae)(S:aa):gz P.cls "NoRead" [.d (.int p)] ρ S= .ok (.exc (cg p) ρ) S:=xZ T.x0 rfl (by simp)
theorem qQ{x:Str}{p c:Nat}{r:List Nat}(h:x.cps.toList.drop p=c::r):x.cps.toList.drop (p+1)=r:=by rw[←List.drop_drop,h];rfl
theorem sD{x:Str}{p c:Nat}{r:List Nat}(h:x.cps.toList.drop p=c::r):p+1<=x.length:=by have:=zbj List.length h;rw[zaY,zaf]at this;have e:x.cps.toList.length=x.length:=rfl;omega
theorem Gu(T:kW P F g){k:Nat}(hk:2<=k){x:Str}{p c:Nat}{r:List Nat}(h:x.cps.toList.drop p=c::r)(hz:x.length<=900000){X:XQ}{Q:Val->aa->Prop}(S:aa)
 (hX:c∉r.take ((upto 10 (c::r)).length-1)->X (cg p) S)
 (hQ:c∈r.take ((upto 10 (c::r)).length-1)->Q (.d (.tuple [.str "quote",.str (glue ((c::r).take ((upto c (r.take ((upto 10 (c::r)).length-1))).length+2))),.int ((p+((upto c (r.take ((upto 10 (c::r)).length-1))).length+2):Nat):Int)])) S) :
 W X (aD P k (F 10) [.d (.str x),.d (.int p)] S) Q:=by
 have hp1:=sD h;have hl:=drop_len h (by omega);have ix:=jW h (by omega) S;have q8:=AL T (k:=k-1) (by omega) h (by omega) (by omega) S;have hr:recv .mO S (.d (.str x))=true:=rfl;have hu:=w9 10 (c::r);have hfi:=Gm (c:=c) (e:=p+(upto 10 (c::r)).length) (qQ h) (by omega);have e1:p+(upto 10 (c::r)).length-(p+1)=(upto 10 (c::r)).length-1:=by omega
 rw[e1]at hfi;have hm:bO .mO (.d (.str x)) [.d (.str ⟨#[c]⟩),.d (.int ((p:Int)+1)),.d (.int ((p+(upto 10 (c::r)).length:Nat):Int))] S=some (.d (.int (if c∈r.take ((upto 10 (c::r)).length-1)then((p+1+(upto c (r.take ((upto 10 (c::r)).length-1))).length:Nat):Int)else -1)),S):=by rw[←hfi];rfl
 refine W.aD T.B6 rfl (by omega) ?_;show W nX (aF (P.env (k-1)) (yG F g) [some (.d (.str x)),some (.d (.int p)),none] S) (aO false S X Q);unfold yG;have sl:=fun q=>iE (q:=q) h (by omega) (by omega) S;by_cases hc:c∈r.take ((upto 10 (c::r)).length-1)
 ·have hQ:=hQ hc;rw[zah hc]at hm;have sl:=sl (p+((upto c (r.take ((upto 10 (c::r)).length-1))).length+2));rw[zaZ]at sl;have e2:((p+1+(upto c (r.take ((upto 10 (c::r)).length-1))).length:Nat):Int)+1=((p+((upto c (r.take ((upto 10 (c::r)).length-1))).length+2):Nat):Int):=by omega
  have hn : ¬ ((p+1+(upto c (r.take ((upto 10 (c::r)).length-1))).length:Nat):Int)<0:=by omega
  generalize ((p+((upto c (r.take ((upto 10 (c::r)).length-1))).length+2):Nat):Int)=z2 at *
  generalize ((p+1+(upto c (r.take ((upto 10 (c::r)).length-1))).length:Nat):Int)=z1 at *
  generalize ((p+(upto 10 (c::r)).length:Nat):Int)=z0 at *
  generalize (p:Int)=zp at *
  simp -dsimp[hr,ix,q8,hm,hn,e2,sl];exact hQ
 ·rw[zaj hc]at hm;have hX:=hX hc;have rz:=AM T p;generalize cg p=ex at *
  generalize ((p+(upto 10 (c::r)).length:Nat):Int)=z0 at *
  generalize (p:Int)=zp at *
  simp -dsimp[hr,ix,q8,hm,rz];exact hX
theorem Kg(T:kW P F g){k:Nat}(hk:2<=k)(nm kd ps pa en bl re qu:PyData){xs:List Str}{x:Str}{p c:Nat}{r:List Nat}(h:x.cps.toList.drop p=c::r)(hz:x.length<=900000){X:XQ}{Q:Val->aa->Prop}(S:aa)
 (hX:jE xs (c::r)=none->X (cg p) S) (hQ:∀ w,jE xs (c::r)=some w->Q (.d (.tuple [.str "sign",.str (glue w),.int ((p+w.length:Nat):Int)])) S) :
 W X (aD P k (F 11) [.d (cH nm kd (aM xs) ps pa en bl re qu),.d (.str x),.d (.int p)] S) Q:=by
 have hp1:=sD h;have q0:=fun y=>OE T (k:=k-1) (by omega) nm kd ps pa en bl re qu xs y S;refine W.aD T.B7 rfl (by omega) ?_;generalize cH nm kd (aM xs) ps pa en bl re qu=tg at *
 show W nX (aF (P.env (k-1)) (yH F g) [some (.d tg),some (.d (.str x)),some (.d (.int p)),none] S) (aO false S X Q);unfold yH;have hg:P.glob[g 2]?=some (.int 3):=T.g2;have rng3:lj [.d (.int 3),.d (.int 0),.d (.int (-1))]=some ([.d (.int 3),.d (.int 2),.d (.int 1)],none):=by decide +kernel
 have sl:∀ n:Nat,fU (.d (.str x)) (some (p:Int)) (some ((p:Int)+n)) S=some (.d (.str (glue ((c::r).take n))),S):=fun n=>by have:=iE (q:=p+n) h (by omega) (by omega) S;rw[zaZ]at this;rw[←this];rfl
 have s3:fU (.d (.str x)) (some (p:Int)) (some ((p:Int)+3)) S=some (.d (.str (glue ((c::r).take 3))),S):=sl 3;have s2:fU (.d (.str x)) (some (p:Int)) (some ((p:Int)+2)) S=some (.d (.str (glue ((c::r).take 2))),S):=sl 2;have s1:fU (.d (.str x)) (some (p:Int)) (some ((p:Int)+1)) S=some (.d (.str (glue ((c::r).take 1))),S):=sl 1;have hlen:∀ n:Nat,cJ .len [.d (.str (glue ((c::r).take n)))] S=some (.d (.int ((c::r).take n).length),S):=fun n=>by have hl:=drop_len h (by omega);have:=len_run (x:=glue ((c::r).take n)) (by have:(glue ((c::r).take n)).length=((c::r).take n).length:=rfl;have h2:=List.length_take_le n (c::r);have h3:=List.length_take_le' n (c::r);omega) S;exact this
 have l3:=hlen 3;have l2:=hlen 2;have l1:=hlen 1;have rz:=AM T p;have hQ3:=hQ ((c::r).take 3);have hQ2:=hQ ((c::r).take 2);have hQ1:=hQ ((c::r).take 1);unfold jE jg at *
 rw[Int.natCast_add]at hQ3 hQ2 hQ1;generalize (c::r).take 3=w3 at *
 generalize (c::r).take 2=w2 at *
 generalize (c::r).take 1=w1 at *
 simp -dsimp[hg,rng3,kU,s3,q0,l3];refine Br.intro (fun h3=>?_) fun h3=>?_
 ·simp -dsimp[s3,l3];exact hQ3 (by rw[zah (by simpa using h3)])
 ·simp -dsimp[kU,s2,q0,l2];refine Br.intro (fun h2=>?_) fun h2=>?_
  ·simp -dsimp[s2,l2];exact hQ2 (by rw[zaj (by simpa using h3),zah (by simpa using h2)])
  ·simp -dsimp[kU,s1,q0,l1];refine Br.intro (fun h1=>?_) fun h1=>?_
   ·simp -dsimp[s1,l1];exact hQ1 (by rw[zaj (by simpa using h3),zaj (by simpa using h2),zah (by simpa using h1)])
   ·simp -dsimp[rz];exact hX (by rw[zaj (by simpa using h3),zaj (by simpa using h2),zaj (by simpa using h1)])
end
theorem Ci(a:Str){d:PyData}(h:jD d):eqO (.str a) d=some (decide (d= .str a)):=by
 rcases h with rfl |⟨x,rfl⟩
 ·have e:decide (PyData.none=PyData.str a)=false:=rfl;rw[e];simp[eqO,PyData.plain,PyData.depth,PyData.eqv]
 ·rw[Cc];congr 1
  rw[Bool.eq_iff_iff,zbA,zab];exact⟨fun e=>by rw[e],fun e=>by cases e;rfl⟩
theorem TH{D:List (PyData×PyData)}{sf:Tl}(h:Tells D sf)(a:Str)(S:aa):gq (.d (.str a)) (.d (.dict D)) S=some (sf a).isSome:=by show (some (D.map vd)).bind (fun kvs=>guard' (isKey (.str a)=true) (some (bJ kvs (.str a)).isSome))=_;have hk:isKey (.str a)=true:=rfl;rw[zaE,guard_pos hk,h a,Option.isSome_map]
theorem TJ{D:List (PyData×PyData)}{sf:Tl}(h:Tells D sf){a z:Str}(hz:sf a=some z)(S:aa):cW (.d (.dict D)) (.d (.str a)) S=some (.d (.str z),S):=by show (some (D.map vd)).bind (fun kvs=>guard' (isKey (.str a)=true) ((bJ kvs (.str a)).bind fun v=>some (v,S)))=_;have hk:isKey (.str a)=true:=rfl;rw[zaE,guard_pos hk,h a,hz];rfl
section
variable {P:bU} {F g:Nat->Nat}
theorem Gv(T:kW P F g){k:Nat}(hk:3<=k)(nm kd ps pa en bl:PyData){G:TG}(hre:jD G.re)(hqu:jD G.qu){D:List (PyData×PyData)}(hD:Tells D G.sf){x:Str}{p c:Nat}{r:List Nat}(h:x.cps.toList.drop p=c::r)(hz:x.length<=900000){X:XQ}{Q:Val->aa->Prop}(S:aa)
 (hX:cP G (c::r)=none->X (cg p) S) (hQ:∀ z t m,cP G (c::r)=some (z,t,m)->Q (.d (.tuple [.str z,.str t,.int ((p+m:Nat):Int)])) S) :
 W X (aD P k (F 12) [.d (cH nm kd (aM G.xs) ps pa en bl G.re G.qu),.d (.dict D),.d (.str x),.d (.int p)] S) Q:=by
 have hp1:=sD h;have ix:=jW h (by omega) S;have q9:=Kf T (k:=k-1) (by omega) h (by omega) hz S;have q8:=AL T (k:=k-1) (by omega) h (by omega) (by omega) S;have q5:=yb T (k:=k-1) (by omega) nm kd (aM G.xs) ps pa en bl G.re G.qu S;have q6:=Kc T (k:=k-1) (by omega) nm kd (aM G.xs) ps pa en bl G.re G.qu S;have q11:=Kg T (k:=k-1) (by omega) nm kd ps pa en bl G.re G.qu (xs:=G.xs) h hz (X:=fun e s=>s=S/\X e s) (Q:=fun a s=>s=S/\Q a s) S;have q10:=Gu T (k:=k-1) (by omega) h hz (X:=fun e s=>s=S/\X e s) (Q:=fun a s=>s=S/\Q a s) S;have b1:P.glob[g 1]?=some (.str pS):=T.g1;have e5:=Ci ⟨#[c]⟩ hre;have e6:=Ci ⟨#[c]⟩ hqu;have ed:=TH hD ⟨#[c]⟩ S;have hnx:cP G (c::r)=cP G (c::r):=rfl
 conv at hnx=>
  rhs
  unfold cP;dsimp only
 refine W.aD T.B9 rfl (by omega) ?_;have sl:=iE (q:=p+(upto 10 (c::r)).length) h (by omega) (by omega) S;rw[zaZ]at sl;have e2:(c::r).take (upto 10 (c::r)).length=upto 10 (c::r):=List.prefix_iff_eq_take.mp (List.takeWhile_prefix _) |>.symm
 rw[e2]at sl;have hrs:∀ y:Str,y.length<=1000000->bO .i8 (.d (.str y)) [.d (.str " ")] S=some (.d (.str (Txt.rstripChars y " ")),S):=fun y hy=>by show guard' (y.length<=sizeLine) _=_;rw[guard_pos (by rw[zap];omega)];rfl
 have hu:=w9 10 (c::r);have hl:=drop_len h (by omega);have hr2:=hrs (glue (upto 10 (c::r))) (by show (upto 10 (c::r)).length<=_;omega);have hrv:∀ y:Str,recv .i8 S (.d (.str y))=true:=fun _=>rfl;generalize cH nm kd (aM G.xs) ps pa en bl G.re G.qu=tg at *
 show W nX (aF (P.env (k-1)) (yI F g) [some (.d tg),some (.d (.dict D)),some (.d (.str x)),some (.d (.int p)),none,none] S) (aO false S X Q);unfold yI;by_cases h1:bA c=true
 ·have hm:c∈pS.cps.toList:=by simpa[bA]using h1
  rw[zah h1]at hnx;have fin:=hQ _ _ _ hnx;generalize ((p+((c::r).takeWhile bA).length:Nat):Int)=z at *
  generalize (p:Int)=zp at *
  simp -dsimp[ix,b1,hm,q9];exact fin
 ·have hm : ¬ c∈pS.cps.toList:=by simpa[bA]using h1
  rw[zaj h1]at hnx;by_cases h2:G.re= .str ⟨#[c]⟩
  ·rw[zah h2]at hnx;have fin:=hQ _ _ _ hnx;rw[h2]at q5 e5;have e5:eqO (.str ⟨#[c]⟩) (.str ⟨#[c]⟩)=some true:=by rw[e5];simp
   generalize ((p+(upto 10 (c::r)).length:Nat):Int)=z at *
   generalize (p:Int)=zp at *
   simp -dsimp[ix,b1,hm,q5,q8,sl,hrv,hr2];exact fin
  ·rw[zaj h2]at hnx;rw[zaH h2]at e5;by_cases h3:G.qu= .str ⟨#[c]⟩
   ·rw[zah h3]at hnx;rw[zbo h3]at e6;have fin:=q10 (fun hc=>⟨rfl,hX (by rw[hnx,zaj hc])⟩) (fun hc=>⟨rfl,hQ _ _ _ (by rw[hnx,zah hc])⟩);generalize (p:Int)=zp at *
    simp -dsimp[ix,b1,hm,q5,e5,q6,e6];refine fin.LS (fun e s h=>?_) fun a s h=>?_
    ·obtain⟨rfl,h⟩:=h;simp -dsimp[pR];exact h
    ·obtain⟨rfl,h⟩:=h;simp -dsimp;exact h
   ·rw[zaj h3]at hnx;rw[zaH h3]at e6;cases hs:G.sf ⟨#[c]⟩with
    |some z=>
     rw[hs]at hnx ed;have fin:=hQ _ _ _ hnx;have ei:=TJ hD hs S;have e1:(p:Int)+1=((p+1:Nat):Int):=by omega
     generalize ((p+1:Nat):Int)=z1 at *
     generalize (p:Int)=zp at *
     simp -dsimp[ix,b1,hm,q5,e5,q6,e6,ed,ei,e1];exact fin
    |none=>
     rw[hs]at hnx ed;have fin:=q11 (fun hc=>⟨rfl,hX (by rw[hnx,hc];rfl)⟩) (fun w hw=>⟨rfl,hQ _ _ _ (by rw[hnx,hw];rfl)⟩);generalize (p:Int)=zp at *
     simp -dsimp[ix,b1,hm,q5,e5,q6,e6,ed];refine fin.LS (fun e s h=>?_) fun a s h=>?_
     ·obtain⟨rfl,h⟩:=h;simp -dsimp[pR];exact h
     ·obtain⟨rfl,h⟩:=h;simp -dsimp;exact h
end
def lu(z t:Str)(p:Nat):PyData:=.tuple [.str z,.str t,.int p]
def bL(c:Nat):Bool:=c == 32 ||c == 10
def tokF(T:TG):Nat->List Nat->Nat->List PyData×Option Nat
 | 0,_,_=>([],none)
 |_+1,[],_=>([],none)
 |n+1,c::r,p=>if bL c=true then tokF T n r (p+1)else match cP T (c::r)with
  |none=>([],some p)
  |some (z,t,m)=>(lu z t p::(tokF T n ((c::r).drop m) (p+m)).1,(tokF T n ((c::r).drop m) (p+m)).2)
def dw(T:TG)(s:List Nat)(p:Nat):List PyData×Option Nat:=tokF T s.length s p
theorem Gy{q:Nat->Bool}{c:Nat}{r:List Nat}(h:q c=true):1<=((c::r).takeWhile q).length:=by rw[zaM,zah h];simp
theorem Ea{xs:List Str}{c:Nat}{r w:List Nat}(h:jE xs (c::r)=some w):1<=w.length/\w.length<=(c::r).length/\(c::r).take w.length=w:=by
 have key:∀ n,1<=n->1<=((c::r).take n).length/\((c::r).take n).length<=(c::r).length/\(c::r).take ((c::r).take n).length=(c::r).take n:=fun n hn=>by
  rw[za7,zaf];refine⟨by omega,by omega,?_⟩;by_cases h:n<=r.length+1
  ·rw[zcc h]
  ·rw[Nat.min_eq_right (by omega),zaN (by simp),zaN (by rw[zaf];omega)]
 unfold jE at h;split at h
 ·cases h;exact key 3 (by omega)
 ·split at h
  ·cases h;exact key 2 (by omega)
  ·split at h
   ·cases h;exact key 1 (by omega)
   ·cases h
theorem nh{T:TG}{c m:Nat}{r:List Nat}{z t:Str}(hc:c≠10)(h:cP T (c::r)=some (z,t,m)):1<=m/\m<=(c::r).length:=by
 unfold cP at h;dsimp only at h;split at h
 ·rename_i hw;cases h;exact⟨Gy hw,(zb1 _).length_le⟩
 ·split at h
  ·cases h;exact⟨Gy (by simpa using hc),w9 _ _⟩
  ·split at h
   ·split at h
    ·rename_i hm;cases h;have:=(xg hm).1;have h2:=List.length_take_le' ((upto 10 (c::r)).length-1) r;rw[zaf];omega
    ·cases h
   ·split at h
    ·cases h;simp
    ·cases e:jE T.xs (c::r)with
     |none=>rw[e]at h;cases h
     |some w=>rw[e]at h;cases h;have:=Ea e;exact⟨this.1,this.2.1⟩
theorem nM{T:TG}:∀ (n k:Nat) (s:List Nat) (p:Nat),s.length<=n->s.length<=k->tokF T n s p=tokF T k s p
 | 0,k,s,p,hn,hk=>by obtain rfl:s=[]:=zbf.mp (by omega);cases k <;> rfl
 |n+1,0,s,p,hn,hk=>by obtain rfl:s=[]:=zbf.mp (by omega);rfl
 |n+1,k+1,[],p,hn,hk=>rfl
 |n+1,k+1,c::r,p,hn,hk=>by
  unfold tokF;rw[zaf]at hn hk;by_cases hg:bL c=true
  ·rw[zah hg,zah hg];exact nM n k r (p+1) (by omega) (by omega)
  ·rw[zaj hg,zaj hg];cases e:cP T (c::r)with
   |none=>rfl
   |some q=>
    obtain⟨z,t,m⟩:=q;have hc:c≠10:=fun z=>hg (by rw[z];rfl);have hm:=nh hc e;dsimp only;have hl:((c::r).drop m).length<=r.length:=by rw[zaY,zaf];omega
    rw[nM n k ((c::r).drop m) (p+m) (by omega) (by omega)]
theorem qR{T:TG}{n c p:Nat}{r:List Nat}:tokF T (n+1) (c::r) p=if bL c=true then tokF T n r (p+1)else match cP T (c::r)with
 |none=>([],some p)
 |some (z,t,m)=>(lu z t p::(tokF T n ((c::r).drop m) (p+m)).1,(tokF T n ((c::r).drop m) (p+m)).2):=rfl
theorem uw{T:TG}{p:Nat}:dw T [] p=([],none):=rfl
theorem uy{T:TG}{c p:Nat}{r:List Nat}(h:bL c=true):dw T (c::r) p=dw T r (p+1):=by unfold dw;rw[zaf,qR,zah h]
theorem yc{T:TG}{c p:Nat}{r:List Nat}(h:bL c=false)(hn:cP T (c::r)=none):dw T (c::r) p=([],some p):=by unfold dw;rw[zaf,qR,zaj (by rw[h];simp),hn]
theorem iy{T:TG}{c p m:Nat}{r:List Nat}{z t:Str}(h:bL c=false)(hn:cP T (c::r)=some (z,t,m)):dw T (c::r) p=(lu z t p::(dw T ((c::r).drop m) (p+m)).1,(dw T ((c::r).drop m) (p+m)).2):=by
 have hc:c≠10:=fun z=>by rw[z]at h;cases h
 have hm:=nh hc hn;have hl:((c::r).drop m).length<=r.length:=by rw[zaY,zaf];omega
 have e:dw T ((c::r).drop m) (p+m)=tokF T r.length ((c::r).drop m) (p+m):=nM _ _ _ _ (zal _) hl;rw[e];unfold dw;rw[zaf,qR,zaj (by rw[h];simp),hn]
theorem uz{T:TG}:∀ (n:Nat) (s:List Nat) (p:Nat),s.length<=n->(dw T s p).1.length<=s.length
 |_,[],p,h=>by simp[uw]
 | 0,c::r,p,h=>by simp at h
 |n+1,c::r,p,h=>by
  rw[zaf]at h;cases hg:bL c with
  |true=>rw[uy hg,zaf];have:=uz (T:=T) n r (p+1) (by omega);omega
  |false=>
   cases e:cP T (c::r)with
   |none=>rw[yc hg e];simp
   |some q=>
    obtain⟨z,t,m⟩:=q;have hc:c≠10:=fun z=>by rw[z]at hg;cases hg
    have hm:=nh hc e;have hl:((c::r).drop m).length+m=(c::r).length:=by rw[zaY];omega
    rw[iy hg e,zaf];have:=uz (T:=T) n ((c::r).drop m) (p+m) (by rw[zaf]at hl;omega);omega
section
variable {P:bU} {F g:Nat->Nat}
def uA:Option Nat->PyData
 |none=>.none
 |some p=>.int p
theorem OF{fl:List Str}(hf:fl.contains "place" = true){x0 x1 x2 x4 x5 x6 x7 x8:Option Val}{n p:Nat}{ds:List PyData}{S:aa}(h:S[n]?=some (.lst (ds.map Val.d))):
 fR fl (some 8) (.ret true [.frz 3,.fld "place"]) (cg p) [x0,x1,x2,some (.loc n),x4,x5,x6,x7,x8] S= .ok (.ret (.d (.tuple [.list ds,.int p]))) (S.set n .dead):=by
 unfold fR cg;have e:lV [(("place" : Str),Val.d (.int (p:Int)))]=some [(("place" : Str),PyData.int (p:Int))]:=rfl;dsimp only;rw[e];dsimp only;have e2:eH fl [(("place" : Str),PyData.int (p:Int))] (unset (some 8) [x0,x1,x2,some (.loc n),x4,x5,x6,x7,x8]) [.frz 3,.fld "place"] S=some ([.list ds,.int p],S.set n .dead):=by
  have e3:jt fl [(("place" : Str),PyData.int (p:Int))] (unset (some 8) [x0,x1,x2,some (.loc n),x4,x5,x6,x7,x8]) S (.frz 3)=some (.list ds,S.set n .dead):=by
   unfold jt;show (match S[n]? with |some (.lst xs)=>(datas xs).map fun ds=>(PyData.list ds,S.set n .dead) |_=>none)=_
   rw[h];dsimp only;rw[jc];rfl
  unfold eH;rw[e3,zaE];dsimp only;unfold eH;have e4:jt fl [(("place" : Str),PyData.int (p:Int))] (unset (some 8) [x0,x1,x2,some (.loc n),x4,x5,x6,x7,x8]) (S.set n .dead) (.fld "place")=some (.int p,S.set n .dead):=by unfold jt;dsimp only;rw[guard_pos hf];rfl
  rw[e4,zaE];rfl
 rw[e2];dsimp only;rw[zah rfl,zah (by rw[zap];simp)]
theorem Kh(T:kW P F g){k:Nat}(hk:4<=k)(nm kd:PyData){ps:List Str}{pa:Str}{en bl:PyData}(h2:∀ p∈ps,two p)(hl:ps.length<=100)(he:jD en)(hb:D9 bl){xs:List Str}{re qu:PyData}(hre:jD re)(hqu:jD qu){x:Str}(hz:x.length<=900000)(S:aa):
 aD P k (F 13) [.d (cH nm kd (aM xs) (aM ps) (.str pa) en bl re qu),.d (.str x)] S= .ok (.d (.tuple [.list (dw ⟨xs,dS ps pa en bl,re,qu⟩ x.cps.toList 0).1,uA (dw ⟨xs,dS ps pa en bl,re,qu⟩ x.cps.toList 0).2])) S:=by
 refine W.fZ (W.aD T.Ca rfl (by omega) ?_);obtain⟨D,hD,q7⟩:=Gr T (k:=k-1) (by omega) nm kd (aM xs) (re:=re) (qu:=qu) h2 hl he hb S;have q12:∀ {p c:Nat} {r:List Nat} (h:x.cps.toList.drop p=c::r) (S:aa) {X:XQ} {Q:Val->aa->Prop} (hX:cP ⟨xs,dS ps pa en bl,re,qu⟩ (c::r)=none->X (cg p) S) (hQ:∀ z t m,cP ⟨xs,dS ps pa en bl,re,qu⟩ (c::r)=some (z,t,m)->Q (.d (.tuple [.str z,.str t,.int ((p+m:Nat):Int)])) S),W X (aD P (k-1) (F 12) [.d (cH nm kd (aM xs) (aM ps) (.str pa) en bl re qu),.d (.dict D),.d (.str x),.d (.int p)] S) Q:=fun {p c r} h S {X Q} hX hQ=>Gv T (k:=k-1) (by omega) nm kd (aM ps) (.str pa) en bl (G:=⟨xs,dS ps pa en bl,re,qu⟩) hre hqu hD h hz S hX hQ;generalize cH nm kd (aM xs) (aM ps) (.str pa) en bl re qu=tg at *
 generalize (⟨xs,dS ps pa en bl,re,qu⟩:TG)=Gt at *
 generalize hR:dw Gt x.cps.toList 0=R;show W nX (aF (P.env (k-1)) (yJ F g) [some (.d tg),some (.d (.str x)),none,none,none,none,none,none,none] S) (aO false S nX _);have hlen:=len_run (x:=x) (by omega);have mk0:∀ S:aa,aU true [] S= .ok (.loc S.length) (S++[.lst []]):=fun S=>rfl;have b3:P.glob[g 3]?=some (.str " \n"):=T.g3;unfold yJ;simp -dsimp[q7,mk0];obtain⟨I,hI⟩:∃ I:Nat->ae->aa->Prop,∀ i ρ s',I i ρ s'↔∃ p acc v5 v6 v7 v8,i=x.length-p/\p<=x.length/\ρ=[some (.d tg),some (.d (.str x)),some (.d (.dict D)),some (.loc S.length),some (.d (.int (p:Nat))),v5,v6,v7,v8]/\s'=S++[.lst (acc.map Val.d)]/\acc++(dw Gt (x.cps.toList.drop p) p).1=R.1/\(dw Gt (x.cps.toList.drop p) p).2=R.2/\acc.length<=p:=⟨_,fun _ _ _=>zbU⟩;refine jV I x.length (by omega) ((hI _ _ _).mpr ⟨0,[],none,none,none,none,rfl,by omega,rfl,rfl,by rw[zbc,hR];rfl,by rw[zbc,hR],by simp⟩) ?_;intro i ρ s' hi;obtain⟨p,acc,v5,v6,v7,v8,rfl,hp,rfl,rfl,ha,hb',hac⟩:=(hI _ _ _).mp hi;have frz:qN (.loc S.length) (S++[.lst (acc.map Val.d)])= .ok (.d (.list acc)) (S++[.dead]):=by rw[Oq (ds:=acc) (oE S _ []),qO]
 have sz:(2:Nat)<=sizeLine:=by rw[zap];omega
 cases hd:x.cps.toList.drop p with
 |nil=>
  have hlt : ¬ ((p:Nat):Int)<(x.length:Int):=by have:=zbj List.length hd;rw[zaY]at this;have e:x.cps.toList.length=x.length:=rfl;rw[e,zbx]at this;omega
  rw[hd,uw]at ha hb';have ha:acc=R.1:=by simpa using ha
  have hb':none=R.2:=hb';generalize (p:Int)=zp at *
  generalize acc.map Val.d=accv at *
  simp -dsimp[hlen,hlt,frz];rw[←ha,←hb'];exact⟨rfl,rfl⟩
 |cons c r=>
  have hp1:=sD hd;have hlt:((p:Nat):Int)<(x.length:Int):=by omega
  have ix:=fun S=>jW hd (by omega) S;rw[hd]at ha hb';cases hg:bL c with
  |true=>
   have hm:c∈(" \n" : Str).cps.toList:=by unfold bL at hg;rw[za3,zbA,zbA]at hg;rcases hg with rfl |rfl <;> decide
   rw[uy hg]at ha hb';have fin:=(hI (x.length-(p+1)) _ _).mpr ⟨p+1,acc,v5,v6,v7,v8,rfl,hp1,rfl,rfl,by rw[qQ hd];exact ha,by rw[qQ hd];exact hb',by omega⟩;have e1:(p:Int)+1=((p+1:Nat):Int):=by omega
   generalize ((p+1:Nat):Int)=z1 at *
   generalize (p:Int)=zp at *
   generalize acc.map Val.d=accv at *
   simp -dsimp[hlen,hlt,ix,b3,hm,e1];exact⟨_,by omega,fin⟩
  |false=>
   have hm : ¬ c∈(" \n" : Str).cps.toList:=by
    intro h;have:c=32\/c=10:=by simpa using(show c∈[32,10]from h)
    rcases this with rfl |rfl <;> cases hg
   have q:=fun (S:aa) {X:XQ} {Q:Val->aa->Prop}=>q12 hd S (X:=X) (Q:=Q);simp -dsimp[hlen,hlt,ix,b3,hm];refine q _ (fun hn=>?_) fun z t m hn=>?_
   ·rw[yc hg hn]at ha hb';have ha:acc=R.1:=by simpa using ha
    have hb':some p=R.2:=hb';have tr:gI P.cls ["NoRead"] (some 8) (.ret true [.frz 3,.fld "place"]) (.exc (cg p) [some (.d tg),some (.d (.str x)),some (.d (.dict D)),some (.loc S.length),some (.d (.int (p:Nat))),v5,v6,v7,v8]) (S++[.lst (acc.map Val.d)])= .ok (.ret (.d (.tuple [.list acc,.int p]))) (S++[.dead]):=by rw[AD (k:=⟨"NoRead",true,["place"],["NoRead","LayError","ValueError","Exception","BaseException"]⟩) T.x0 rfl rfl,OF rfl (oE S _ []),qO]
    simp -dsimp[pR,tr];rw[←ha,←hb'];exact⟨rfl,rfl⟩
   ·rw[iy hg hn]at ha hb';have hc:c≠10:=fun z=>by rw[z]at hg;cases hg
    have hml:=nh hc hn;have hll:=drop_len hd (by omega);have ap:bO .append (.loc S.length) [.d (lu z t p)] (S++[.lst (acc.map Val.d)])=some (.d .none,S++[.lst ((acc++[lu z t p]).map Val.d)]):=by rw[YZ (oE S _ []) (by rw[zaw];omega),qO,zbB];rfl
    have rv:(recv .append (S++[.lst (acc.map Val.d)]) (.loc S.length)=true)=True:=Gf (oE S _ []);have hdm:x.cps.toList.drop (p+m)=(c::r).drop m:=by rw[←hd,List.drop_drop]
    have fin:=fun v5 v6 v7=>(hI (x.length-(p+m)) [some (.d tg),some (.d (.str x)),some (.d (.dict D)),some (.loc S.length),some (.d (.int ((p+m:Nat):Int))),v5,v6,v7,v8] (S++[.lst ((acc++[lu z t p]).map Val.d)])).mpr ⟨p+m,acc++[lu z t p],v5,v6,v7,v8,rfl,by omega,rfl,rfl,by rw[hdm,←ha];simp,by rw[hdm];exact hb',by rw[zav];simp;omega⟩;unfold lu at ap fin;generalize (acc++[PyData.tuple [PyData.str z,PyData.str t,PyData.int (p:Int)]]).map Val.d=accn at *
    generalize acc.map Val.d=accv at *
    have szm:((p+m:Nat):Int)=((p+m:Nat):Int):=rfl;generalize ((p+m:Nat):Int)=z1 at *
    generalize (p:Int)=zp at *
    simp -dsimp[rv,ap];exact⟨_,by omega,fin _ _ _⟩
end
end G
namespace G
open PySem PySem.Spec PyProof.Rows
def Zh(F g:Nat->Nat):Fn:=⟨6,6,true,DJ F g⟩
def Zi(F g:Nat->Nat):Fn:=⟨2,9,true,DK F g⟩
def Zj(F g:Nat->Nat):Fn:=⟨3,5,true,DL F g⟩
def Zk(F g:Nat->Nat):Fn:=⟨1,1,false,DM F g⟩
def Zl(F g:Nat->Nat):Fn:=⟨1,1,false,DN F g⟩
def Zm(F g:Nat->Nat):Fn:=⟨1,1,false,DQ F g⟩
def Zo(F g:Nat->Nat):Fn:=⟨1,2,false,DR F g⟩
def Zp(F g:Nat->Nat):Fn:=⟨2,2,false,DV F g⟩
def Zq(F g:Nat->Nat):Fn:=⟨1,1,false,DW F g⟩
def Zr(F g:Nat->Nat):Fn:=⟨1,2,false,DY F g⟩
def V8(F g:Nat->Nat):Fn:=⟨1,7,false,yK F g⟩
def V9(F g:Nat->Nat):Fn:=⟨1,2,false,yL F g⟩
def Wa(F g:Nat->Nat):Fn:=⟨1,1,false,yM F g⟩
def Wb(F g:Nat->Nat):Fn:=⟨1,5,false,yN F g⟩
def Wc(F g:Nat->Nat):Fn:=⟨1,4,false,yO F g⟩
def Wd(F g:Nat->Nat):Fn:=⟨2,3,false,yP F g⟩
def We(F g:Nat->Nat):Fn:=⟨2,10,false,yQ F g⟩
def Wf(F g:Nat->Nat):Fn:=⟨2,4,false,yR F g⟩
def Wg(F g:Nat->Nat):Fn:=⟨1,1,false,yS F g⟩
def TN(F:Nat->Nat):List (Str×Nat):=[("__init__",F 2),("next_sort",F 3),("next_line",F 4),("refuse",F 5),("take_spot",F 6),("is_remark",F 7),("remark_behind",F 8),("remarks_ahead",F 9),("read_group",F 10),("read_thing",F 11),("is_on_line",F 12),("read_head",F 13),("read_block",F 14),("read_ending",F 15),("read_rows",F 16)]
def TQ:List Str:=["read_from","by_lines","leaving","bad_place","spots","at_spot","last_line"]
def TR:List Str:=["spot_sort","spot_text","spot_place","spot_line","begins"]
structure cM (P:bU) (F g:Nat->Nat):Prop where
 f0:P.fns[F 0]?=some (Zh F g)
 f1:P.fns[F 1]?=some (Zi F g)
 f2:P.fns[F 2]?=some (Zj F g)
 f3:P.fns[F 3]?=some (Zk F g)
 f4:P.fns[F 4]?=some (Zl F g)
 f5:P.fns[F 5]?=some (Zm F g)
 f6:P.fns[F 6]?=some (Zo F g)
 f7:P.fns[F 7]?=some (Zp F g)
 f8:P.fns[F 8]?=some (Zq F g)
 f9:P.fns[F 9]?=some (Zr F g)
 B6:P.fns[F 10]?=some (V8 F g)
 B7:P.fns[F 11]?=some (V9 F g)
 B9:P.fns[F 12]?=some (Wa F g)
 Ca:P.fns[F 13]?=some (Wb F g)
 LJ:P.fns[F 14]?=some (Wc F g)
 LK:P.fns[F 15]?=some (Wd F g)
 LL:P.fns[F 16]?=some (We F g)
 LN:P.fns[F 17]?=some (Wf F g)
 LO:P.fns[F 18]?=some (Wg F g)
 g0:P.glob[g 0]?=some (.str " leave")
 g1:P.glob[g 1]?=some (.tuple [.str "word",.str "sign",.str "quote",.str "open"])
 g2:P.glob[g 2]?=some (.dict [(.str "(",.str ")"),(.str "[",.str "]"),(.str "{",.str "}")])
 x0:dX P.cls "NoRead" = some ⟨"NoRead",true,["place"],["NoRead","LayError","ValueError","Exception","BaseException"]⟩
 ob:fW P.obs "Reader" = some ⟨"Reader",TQ,TN F⟩
 oc:fW P.obs "Spot" = some ⟨"Spot",TR,[("__init__",F 0)]⟩
@[simp] theorem Wh(P:bU)(k:Nat):(P.env k).obs=P.obs:=rfl
@[simp] theorem Wi(P:bU)(k:Nat):(P.env k).cls=P.cls:=rfl
structure dI where
 sort:Str
 text:Str
 place:Nat
 line:Nat
 mw:Bool
structure aB where
 text:Str
 oF:Bool
 leaving:Str
 bad:Nat
 aj:List dI
def spF(s:dI):List (Str×Val):=[("spot_sort",.d (.str s.sort)),("spot_text",.d (.str s.text)),("spot_place",.d (.int (s.place:Nat))),("spot_line",.d (.int (s.line:Nat))),("begins",.d (.bool s.mw))]
def iO(s:dI):Cell:=.obj "Spot" (spF s)
def vM(n:Nat)(x:aB)(a:Nat)(l:Int):List (Str×Val):=[("read_from",.d (.str x.text)),("by_lines",.d (.bool x.oF)),("leaving",.d (.str x.leaving)),("bad_place",.d (.int (x.bad:Nat))),("spots",.loc (n+1)),("at_spot",.d (.int (a:Nat))),("last_line",.d (.int l))]
def cQ(b n:Nat):List Val:=(List.range n).map fun i=>.loc (b+i)
def af(S own:aa)(x:aB)(a:Nat)(l:Int):aa:=S++.obj "Reader" (vM S.length x a l)::.lst (cQ (S.length+2) x.aj.length)::(x.aj.map iO++own)
theorem ni(b n:Nat):(cQ b n).length=n:=by unfold cQ;simp
theorem Kl(b n:Nat){i:Nat}(h:i<n):L2.atI (cQ b n) (i:Int)=some (.loc (b+i)):=by unfold L2.atI L2.ixN;rw[zah (by omega),zah (by rw[ni];omega),zaE];show (cQ b n)[((i:Int)).toNat]?=_;unfold cQ;simp[h]
section
variable {S own:aa} {x:aB} {a:Nat} {l:Int}
theorem kH:(af S own x a l)[S.length]?=some (.obj "Reader" (vM S.length x a l)):=by unfold af;simp
theorem LY:(af S own x a l)[S.length+1]?=some (.lst (cQ (S.length+2) x.aj.length)):=by unfold af;simp
theorem vN{s:dI}{i:Nat}(h:x.aj[i]?=some s):(af S own x a l)[S.length+2+i]?=some (iO s):=by
 have hi:i<x.aj.length:=(zak.mp h).1;unfold af;rw[zaC (by omega)];have e:S.length+2+i-S.length=i+1+1:=by omega
 rw[e,zaI,zaI,zaA (by simpa using hi),zat,h];rfl
theorem fj:(af S own x a l).length=S.length+2+x.aj.length+own.length:=by unfold af;simp;omega
theorem AN{b:Nat}{m:Int}:(af S own x a l).set S.length (.obj "Reader" (vM S.length x b m))=af S own x b m:=by unfold af;simp
theorem jh{c:aa}:af S own x a l++c=af S (own++c) x a l:=by unfold af;simp
end
section
variable {P:bU} {F g:Nat->Nat} (H:cM P F g) {cl:List Cl} {S own:aa} {x:aB} {a:Nat} {l:Int}
include H
theorem cM.RY:cU cl P.obs "read_from" (.loc S.length) (af S own x a l)=some (.d (.str x.text),af S own x a l):=dY kH H.ob rfl rfl
theorem cM.at1:cU cl P.obs "by_lines" (.loc S.length) (af S own x a l)=some (.d (.bool x.oF),af S own x a l):=dY kH H.ob rfl rfl
theorem cM.at2:cU cl P.obs "leaving" (.loc S.length) (af S own x a l)=some (.d (.str x.leaving),af S own x a l):=dY kH H.ob rfl rfl
theorem cM.X3:cU cl P.obs "bad_place" (.loc S.length) (af S own x a l)=some (.d (.int (x.bad:Nat)),af S own x a l):=dY kH H.ob rfl rfl
theorem cM.AO:cU cl P.obs "spots" (.loc S.length) (af S own x a l)=some (.loc (S.length+1),af S own x a l):=dY kH H.ob rfl rfl
theorem cM.vO:cU cl P.obs "at_spot" (.loc S.length) (af S own x a l)=some (.d (.int (a:Nat)),af S own x a l):=dY kH H.ob rfl rfl
theorem cM.LZ:cU cl P.obs "last_line" (.loc S.length) (af S own x a l)=some (.d (.int l),af S own x a l):=dY kH H.ob rfl rfl
theorem cM.sp0{s:dI}{i:Nat}(h:x.aj[i]?=some s):cU cl P.obs "spot_sort" (.loc (S.length+2+i)) (af S own x a l)=some (.d (.str s.sort),af S own x a l):=dY (vN h) H.oc rfl rfl
theorem cM.sp1{s:dI}{i:Nat}(h:x.aj[i]?=some s):cU cl P.obs "spot_text" (.loc (S.length+2+i)) (af S own x a l)=some (.d (.str s.text),af S own x a l):=dY (vN h) H.oc rfl rfl
theorem cM.sp2{s:dI}{i:Nat}(h:x.aj[i]?=some s):cU cl P.obs "spot_place" (.loc (S.length+2+i)) (af S own x a l)=some (.d (.int (s.place:Nat)),af S own x a l):=dY (vN h) H.oc rfl rfl
theorem cM.X4{s:dI}{i:Nat}(h:x.aj[i]?=some s):cU cl P.obs "spot_line" (.loc (S.length+2+i)) (af S own x a l)=some (.d (.int (s.line:Nat)),af S own x a l):=dY (vN h) H.oc rfl rfl
theorem cM.sp4{s:dI}{i:Nat}(h:x.aj[i]?=some s):cU cl P.obs "begins" (.loc (S.length+2+i)) (af S own x a l)=some (.d (.bool s.mw),af S own x a l):=dY (vN h) H.oc rfl rfl
theorem cM.s5{b:Nat}:bF P.obs "at_spot" (.loc S.length) (.d (.int (b:Nat))) (af S own x a l)=some (af S own x b l):=by rw[mZ kH H.ob rfl (by show 7<1000;omega)];exact zbj some AN
theorem cM.s6{m:Int}:bF P.obs "last_line" (.loc S.length) (.d (.int m)) (af S own x a l)=some (af S own x a m):=by rw[mZ kH H.ob rfl (by show 7<1000;omega)];exact zbj some AN
theorem cM.mn{m:Str}{i:Nat}(h:(TN F).lookup m=some i):cD P.obs "Reader" m=some i:=by unfold cD;rw[H.ob];exact h
theorem cM.me{m:Str}{i:Nat}(h:(TN F).lookup m=some i)(hl:(vM S.length x a l).lookup m=none):cG P.obs "Reader" m (.loc S.length) (af S own x a l)=some i:=Gk kH hl (H.mn h)
theorem cM.m3:cG P.obs "Reader" "next_sort" (.loc S.length) (af S own x a l)=some (F 3):=H.me rfl rfl
theorem cM.m4:cG P.obs "Reader" "next_line" (.loc S.length) (af S own x a l)=some (F 4):=H.me rfl rfl
theorem cM.m5:cG P.obs "Reader" "refuse" (.loc S.length) (af S own x a l)=some (F 5):=H.me rfl rfl
theorem cM.m6:cG P.obs "Reader" "take_spot" (.loc S.length) (af S own x a l)=some (F 6):=H.me rfl rfl
theorem cM.m7:cG P.obs "Reader" "is_remark" (.loc S.length) (af S own x a l)=some (F 7):=H.me rfl rfl
theorem cM.m8:cG P.obs "Reader" "remark_behind" (.loc S.length) (af S own x a l)=some (F 8):=H.me rfl rfl
theorem cM.m9:cG P.obs "Reader" "remarks_ahead" (.loc S.length) (af S own x a l)=some (F 9):=H.me rfl rfl
theorem cM.FY:cG P.obs "Reader" "read_group" (.loc S.length) (af S own x a l)=some (F 10):=H.me rfl rfl
theorem cM.mX:cG P.obs "Reader" "read_thing" (.loc S.length) (af S own x a l)=some (F 11):=H.me rfl rfl
theorem cM.jx:cG P.obs "Reader" "is_on_line" (.loc S.length) (af S own x a l)=some (F 12):=H.me rfl rfl
theorem cM.FZ:cG P.obs "Reader" "read_head" (.loc S.length) (af S own x a l)=some (F 13):=H.me rfl rfl
theorem cM.TU:cG P.obs "Reader" "read_block" (.loc S.length) (af S own x a l)=some (F 14):=H.me rfl rfl
theorem cM.TV:cG P.obs "Reader" "read_ending" (.loc S.length) (af S own x a l)=some (F 15):=H.me rfl rfl
theorem cM.Cj:cG P.obs "Reader" "read_rows" (.loc S.length) (af S own x a l)=some (F 16):=H.me rfl rfl
omit H in
theorem nj{i:Nat}(h:i<x.aj.length):cW (.loc (S.length+1)) (.d (.int ((i:Nat):Int))) (af S own x a l)=some (.loc (S.length+2+i),af S own x a l):=sA LY (Kl _ _ h)
omit H in
theorem AQ:cJ .len [.loc (S.length+1)] (af S own x a l)=some (.d (.int x.aj.length),af S own x a l):=by have:=w6 (LY (S:=S) (own:=own) (x:=x) (a:=a) (l:=l));rw[ni]at this;exact this
end
def aB.sort(x:aB)(a:Nat):Str:=match x.aj[a]? with
 |some s=>s.sort
 |none=>""
def aB.aR(x:aB)(a:Nat)(l:Int):Int:=match x.aj[a]? with
 |some s=>(s.line:Nat)
 |none=>l+1
def aB.fF(x:aB)(a:Nat):Nat:=match x.aj[a]? with
 |some s=>s.place
 |none=>x.bad
def aB.txt(x:aB)(a:Nat):Str:=match x.aj[a]? with
 |some s=>s.text
 |none=>""
def aB.gv(x:aB)(b:Bool)(a:Nat):Bool:=match x.aj[a]? with
 |some s=>s.sort == "remark" && s.mw == b
 |none=>false
def aB.fP(x:aB)(a:Nat)(l:Int):PyData×Nat×Int:=if x.gv false a=true then(.str (x.txt a),a+1,x.aR a l)else(.none,a,l)
section
variable {P:bU} {F g:Nat->Nat} (H:cM P F g) {S own:aa} {x:aB} {a:Nat} {l:Int}
include H
theorem gG{k:Nat}(hk:1<=k):aD P k (F 3) [.loc S.length] (af S own x a l)= .ok (.d (.str (x.sort a))) (af S own x a l):=by
 refine W.kF (W.aD H.f3 rfl hk ?_);show W nX (aF (P.env (k-1)) (DM F g) [some (.loc S.length)] (af S own x a l)) (aO false _ nX _);unfold DM;have h4:=H.AO (cl:=P.cls) (S:=S) (own:=own) (x:=x) (a:=a) (l:=l);have h5:=H.vO (cl:=P.cls) (S:=S) (own:=own) (x:=x) (a:=a) (l:=l);have ln:=AQ (S:=S) (own:=own) (x:=x) (a:=a) (l:=l);cases hs:x.aj[a]? with
 |some s=>
  have ha:a<x.aj.length:=(zak.mp hs).1;have e:x.sort a=s.sort:=by unfold aB.sort;rw[hs]
  have ix:=nj (S:=S) (own:=own) (x:=x) (a:=a) (l:=l) ha;have s0:=H.sp0 (cl:=P.cls) (S:=S) (own:=own) (x:=x) (a:=a) (l:=l) hs;simp -dsimp[h4,h5,ln,ha,ix,s0,e]
 |none=>
  have ha : ¬ a<x.aj.length:=by have:=za2.mp hs;omega
  have e:x.sort a="":=by unfold aB.sort;rw[hs]
  simp -dsimp[h4,h5,ln,ha,e]
theorem xj{k:Nat}(hk:1<=k):aD P k (F 4) [.loc S.length] (af S own x a l)= .ok (.d (.int (x.aR a l))) (af S own x a l):=by
 refine W.kF (W.aD H.f4 rfl hk ?_);show W nX (aF (P.env (k-1)) (DN F g) [some (.loc S.length)] (af S own x a l)) (aO false _ nX _);unfold DN;have h4:=H.AO (cl:=P.cls) (S:=S) (own:=own) (x:=x) (a:=a) (l:=l);have h5:=H.vO (cl:=P.cls) (S:=S) (own:=own) (x:=x) (a:=a) (l:=l);have h6:=H.LZ (cl:=P.cls) (S:=S) (own:=own) (x:=x) (a:=a) (l:=l);have ln:=AQ (S:=S) (own:=own) (x:=x) (a:=a) (l:=l);cases hs:x.aj[a]? with
 |some s=>
  have ha:a<x.aj.length:=(zak.mp hs).1;have e:x.aR a l=(s.line:Nat):=by unfold aB.aR;rw[hs]
  have ix:=nj (S:=S) (own:=own) (x:=x) (a:=a) (l:=l) ha;have s0:=H.X4 (cl:=P.cls) (S:=S) (own:=own) (x:=x) (a:=a) (l:=l) hs;simp -dsimp[h4,h5,ln,ha,ix,s0,e]
 |none=>
  have ha : ¬ a<x.aj.length:=by have:=za2.mp hs;omega
  have e:x.aR a l=l+1:=by unfold aB.aR;rw[hs]
  simp -dsimp[h4,h5,h6,ln,ha,e]
theorem fL{k:Nat}(hk:1<=k){X:XQ}{Q:Val->aa->Prop}(hX:X (cg (x.fF a)) (af S own x a l)):W X (aD P k (F 5) [.loc S.length] (af S own x a l)) Q:=by
 refine W.aD H.f5 rfl hk ?_;show W nX (aF (P.env (k-1)) (DQ F g) [some (.loc S.length)] (af S own x a l)) (aO false _ X _);unfold DQ;have h3:=H.X3 (cl:=P.cls) (S:=S) (own:=own) (x:=x) (a:=a) (l:=l);have h4:=H.AO (cl:=P.cls) (S:=S) (own:=own) (x:=x) (a:=a) (l:=l);have h5:=H.vO (cl:=P.cls) (S:=S) (own:=own) (x:=x) (a:=a) (l:=l);have ln:=AQ (S:=S) (own:=own) (x:=x) (a:=a) (l:=l);have rz:∀ p ρ S,gz P.cls "NoRead" [.d (.int ((p:Nat):Int))] ρ S= .ok (.exc (cg p) ρ) S:=fun p ρ S=>xZ H.x0 rfl (by simp);cases hs:x.aj[a]? with
 |some s=>
  have ha:a<x.aj.length:=(zak.mp hs).1;have e:x.fF a=s.place:=by unfold aB.fF;rw[hs]
  rw[e]at hX;have ix:=nj (S:=S) (own:=own) (x:=x) (a:=a) (l:=l) ha;have s0:=H.sp2 (cl:=P.cls) (S:=S) (own:=own) (x:=x) (a:=a) (l:=l) hs;simp -dsimp[h4,h5,ln,ha,ix,s0,rz];exact hX
 |none=>
  have ha : ¬ a<x.aj.length:=by have:=za2.mp hs;omega
  have e:x.fF a=x.bad:=by unfold aB.fF;rw[hs]
  rw[e]at hX;simp -dsimp[h3,h4,h5,ln,ha,rz];exact hX
theorem iF{k:Nat}(hk:1<=k)(ha:a<x.aj.length)(hl:x.aj.length<=1000000):aD P k (F 6) [.loc S.length] (af S own x a l)= .ok (.d (.str (x.txt a))) (af S own x (a+1) (x.aR a l)):=by
 refine W.kF (W.aD H.f6 rfl hk ?_);show W nX (aF (P.env (k-1)) (DR F g) [some (.loc S.length),none] (af S own x a l)) (aO false _ nX _);unfold DR;have h4:=H.AO (cl:=P.cls) (S:=S) (own:=own) (x:=x) (a:=a) (l:=l);have h5:=H.vO (cl:=P.cls) (S:=S) (own:=own) (x:=x) (a:=a) (l:=l);have h5':=H.vO (cl:=[]) (S:=S) (own:=own) (x:=x) (a:=a) (l:=l);obtain⟨s,hs⟩:∃ s,x.aj[a]?=some s:=⟨_,zaW ha⟩;have e1:x.aR a l=(s.line:Nat):=by unfold aB.aR;rw[hs]
 have e2:x.txt a=s.text:=by unfold aB.txt;rw[hs]
 have ix:=nj (S:=S) (own:=own) (x:=x) (a:=a) (l:=l) ha;have s3:=H.X4 (cl:=P.cls) (S:=S) (own:=own) (x:=x) (a:=a+1) (l:=l) hs;have s1:=H.sp1 (cl:=P.cls) (S:=S) (own:=own) (x:=x) (a:=a+1) (l:=(s.line:Nat)) hs;have ag:j6 .add (.d (.int (a:Nat))) (.d (.int 1)) (af S own x a l)=some (.d (.int ((a:Int)+1)),af S own x a l):=rfl;have q5:bF P.obs "at_spot" (.loc S.length) (.d (.int ((a:Int)+1))) (af S own x a l)=some (af S own x (a+1) l):=H.s5 (b:=a+1);have q6:=H.s6 (S:=S) (own:=own) (x:=x) (a:=a+1) (l:=l) (m:=(s.line:Nat));have hf:∀ v Q,aO false (af S own x a l) nX Q (.ret v) (af S own x (a+1) (s.line:Nat))=Q v (af S own x (a+1) (s.line:Nat)):=fun v Q=>iX (by rw[fj,fj]);simp -dsimp[h4,h5,h5',ix,s1,s3,ag,q5,q6,hf,e1,e2]
theorem uB{k:Nat}(hk:2<=k){b:Bool}:aD P k (F 7) [.loc S.length,.d (.bool b)] (af S own x a l)= .ok (.d (.bool (x.gv b a))) (af S own x a l):=by
 refine W.kF (W.aD H.f7 rfl (by omega) ?_);show W nX (aF (P.env (k-1)) (DV F g) [some (.loc S.length),some (.d (.bool b))] (af S own x a l)) (aO false _ nX _);unfold DV;have h4:=H.AO (cl:=P.cls) (S:=S) (own:=own) (x:=x) (a:=a) (l:=l);have h5:=H.vO (cl:=P.cls) (S:=S) (own:=own) (x:=x) (a:=a) (l:=l);have m3:=H.m3 (S:=S) (own:=own) (x:=x) (a:=a) (l:=l);have t3:=gG H (k:=k-1) (by omega) (S:=S) (own:=own) (x:=x) (a:=a) (l:=l);have neR:("" : Str)≠"remark":=by decide +kernel
 cases hs:x.aj[a]? with
 |some s=>
  have ha:a<x.aj.length:=(zak.mp hs).1;have e:x.sort a=s.sort:=by unfold aB.sort;rw[hs]
  have e2:x.gv b a=(s.sort == "remark" && s.mw == b):=by unfold aB.gv;rw[hs]
  rw[e]at t3;have ix:=nj (S:=S) (own:=own) (x:=x) (a:=a) (l:=l) ha;have s0:=H.sp4 (cl:=P.cls) (S:=S) (own:=own) (x:=x) (a:=a) (l:=l) hs;by_cases c:s.sort="remark"
  ·simp -dsimp[h4,h5,m3,t3,ix,s0,e2,c]
  ·have c':(s.sort == "remark")=false:=by simpa using c
   simp -dsimp[h4,h5,m3,t3,ix,s0,e2,c,c']
 |none=>
  have e:x.sort a="":=by unfold aB.sort;rw[hs]
  have e2:x.gv b a=false:=by unfold aB.gv;rw[hs]
  rw[e]at t3;simp -dsimp[h4,h5,m3,t3,e2,neR]
omit H in
theorem qT{x:aB}{b:Bool}{a:Nat}(h:x.gv b a=true):a<x.aj.length:=by
 unfold aB.gv at h;split at h
 ·rename_i s hs;exact(zak.mp hs).1
 ·cases h
theorem vP{k:Nat}(hk:3<=k)(hl:x.aj.length<=1000000):aD P k (F 8) [.loc S.length] (af S own x a l)= .ok (.d (x.fP a l).1) (af S own x (x.fP a l).2.1 (x.fP a l).2.2):=by
 refine W.kF (W.aD H.f8 rfl (by omega) ?_);show W nX (aF (P.env (k-1)) (DW F g) [some (.loc S.length)] (af S own x a l)) (aO false _ nX _);unfold DW;have m6:=H.m6 (S:=S) (own:=own) (x:=x) (a:=a) (l:=l);have m7:=H.m7 (S:=S) (own:=own) (x:=x) (a:=a) (l:=l);have t7:=uB H (k:=k-1) (by omega) (S:=S) (own:=own) (x:=x) (a:=a) (l:=l) (b:=false);unfold aB.fP;cases hr:x.gv false a with
 |true=>rw[hr]at t7;have t6:=iF H (k:=k-1) (by omega) (S:=S) (own:=own) (x:=x) (a:=a) (l:=l) (qT hr) hl;have hf:∀ v Q,aO false (af S own x a l) nX Q (.ret v) (af S own x (a+1) (x.aR a l))=Q v (af S own x (a+1) (x.aR a l)):=fun v Q=>iX (by rw[fj,fj]);simp -dsimp[m6,m7,t7,t6,hf]
 |false=>rw[hr]at t7;simp -dsimp[m7,t7]
end
section
variable {X:XQ} {st:aa} {ρ:ae} {N:bz}
theorem Eb{elt:E}{tg:Tg}{ifs:Es}{own:List Nat}{xs:List PyData}(f:PyData->Option PyData)(h:∀ x∈xs,W nX (mY N elt tg ifs own ρ (.d x) st) fun o s=>o=(f x).map Val.d/\s=st):
 W nX (cY (mY N elt tg ifs own ρ) none (xs.map Val.d) st) fun ys s=>ys=(xs.filterMap f).map Val.d/\s=st:=by
 refine To (fun i ys s=>ys=((xs.take i).filterMap f).map Val.d/\s=st) ⟨rfl,rfl⟩ (fun _ _ _ _=>trivial) (fun i x ys s hx hJ=>?_) fun ys s hJ=>?_
 ·obtain⟨rfl,rfl⟩:=hJ;rw[zat]at hx;obtain⟨d,hd,rfl⟩:=zaG.mp hx;refine(h d (zag hd)).mono fun o s' ⟨e1,e2⟩=>⟨?_,e2⟩;rw[e1,List.take_succ,hd,Option.toList_some,List.filterMap_append,zbB];cases hf:f d <;> simp[hf]
 ·rw[zaw,za6]at hJ;exact hJ
theorem Ec{elt:E}{tg:Tg}{ifs:Es}{own:List Nat}{xs:List PyData}(f:PyData->PyData)(h:∀ x∈xs,W nX (mY N elt tg ifs own ρ (.d x) st) fun o s=>o=some (.d (f x))/\s=st):
 W nX (cY (mY N elt tg ifs own ρ) none (xs.map Val.d) st) fun ys s=>ys=(xs.map f).map Val.d/\s=st:=by
 have:=Eb (fun x=>some (f x)) h;refine this.mono fun ys s ⟨e1,e2⟩=>⟨?_,e2⟩;rw[e1];simp
end
section
end
section
end
section
end
section
end
section
end
section
end
theorem tO{st t own:aa}{X:XQ}{Q:Val->aa->Prop}{e:jl}{ρ:ae}(hl:t.length=st.length)(hd:aJ t)(he:(e.az.all fun p=>aI st.length p.2)=true):aO false st X Q (.exc e ρ) (t++own)=X e t:=by
 show (∃ s2,aK false st (e.az.all fun p=>aI st.length p.2) (t++own)=some s2/\X e s2)=_;have:aK false st (e.az.all fun p=>aI st.length p.2) (t++own)=some t:=by
  unfold aK;have e1:(t++own).take st.length=t:=by rw[←hl,List.take_left'];rfl
  by_cases z:(t++own).length=st.length
  ·rw[zah (.inr z)];have:own=[]:=by
    rw[zav]at z;exact zbf.mp (by omega)
   rw[this,zau]
  ·rw[zaj (by simp only[zb0,false_or];exact z),e1,zah ⟨he,.inr (hd.ok _ (by omega))⟩]
 rw[this];simp
theorem yd(n p:Nat):((cg p).az.all fun q=>aI n q.2)=true:=rfl
section
variable {S own more:aa} {x:aB} {a b:Nat} {l m:Int}
theorem gA(h:aJ (af S own x a l)):aJ (af S own x b m):=by
 rw[←AN (a:=a) (l:=l)];refine h.setC ?_;have hl:S.length+1<(af S own x a l).length:=by rw[fj];omega
 show ((vM S.length x b m).all fun p=>aI _ p.2)=true;unfold vM;simp only[zay,List.all_nil,zbE,zaa];refine⟨rfl,rfl,rfl,rfl,?_,rfl,rfl⟩;show decide _=true;rw[zab];exact hl
theorem oG(h:aJ (af S own x a l)){c:Cell}(hc:qL c=true):aJ (af S (own++[c]) x a l):=by rw[←jh];exact h.app (aJ.one hc)
theorem vQ{X:XQ}{Q:Val->aa->Prop}{d:PyData}(h:aJ (af S own x a l)):aO false (af S own x a l) X Q (.ret (.d d)) (af S (own++more) x b m)=Q (.d d) (af S own x b m):=by rw[←jh];exact JY (by rw[fj,fj]) (gA h)
theorem oH{X:XQ}{Q:Val->aa->Prop}{v:Val}:aO false (af S own x a l) X Q (.ret v) (af S own x b m)=Q v (af S own x b m):=iX (by rw[fj,fj])
theorem kX{X:XQ}{Q:Val->aa->Prop}{p:Nat}{ρ:ae}(h:aJ (af S own x a l)):aO false (af S own x a l) X Q (.exc (cg p) ρ) (af S (own++more) x b m)=X (cg p) (af S own x b m):=by rw[←jh];exact tO (by rw[fj,fj]) (gA h) (yd _ _)
theorem oJ{X:XQ}{Q:Val->aa->Prop}{p:Nat}{ρ:ae}(h:aJ (af S own x a l)):aO false (af S own x a l) X Q (.exc (cg p) ρ) (af S own x b m)=X (cg p) (af S own x b m):=by have:=kX (S:=S) (own:=own) (more:=[]) (x:=x) (a:=a) (b:=b) (l:=l) (m:=m) (X:=X) (Q:=Q) (p:=p) (ρ:=ρ) h;rw[zau]at this;exact this
def dB(S own:aa)(x:aB):Nat:=S.length+2+x.aj.length+own.length
theorem my:(af S own x a l).length=dB S own x:=fj
theorem vR{c:Cell}:(af S (own++c::more) x a l)[dB S own x]?=some c:=by have e:af S (own++c::more) x a l=af S own x a l++c::more:=jh.symm;rw[e,←my (a:=a) (l:=l)];exact kR _ _ _
theorem Cm{c d:Cell}:(af S (own++c::more) x a l).set (dB S own x) d=af S (own++d::more) x a l:=by have e:∀ c,af S (own++c::more) x a l=af S own x a l++c::more:=fun c=>jh.symm;rw[e,e,←my (a:=a) (l:=l)];simp
end
def aC(ds:List PyData):Cell:=.lst (ds.map Val.d)
def jX(rs:List Str):Cell:=aC (rs.map PyData.str)
theorem lN(ds:List PyData):qL (aC ds)=true:=by
 have:=aJ.lst ds;unfold aC;induction ds with
 |nil=>rfl
 |cons d r ih=>exact ih (aJ.lst r)
section
variable {S own:aa} {x:aB} {a:Nat} {l:Int}
theorem qU{ds:List PyData}{more:aa}:cJ .tuple [.loc (dB S own x)] (af S (own++aC ds::more) x a l)=some (.d (.tuple ds),af S (own++aC ds::more) x a l):=Ow (by rw[vR];rfl)
theorem qV{ds:List PyData}{more:aa}{d:PyData}(h:ds.length<1000000):bO .append (.loc (dB S own x)) [.d d] (af S (own++aC ds::more) x a l)=some (.d .none,af S (own++aC (ds++[d])::more) x a l):=by
 have hc:(af S (own++aC ds::more) x a l)[dB S own x]?=some (.lst (ds.map Val.d)):=by rw[vR];rfl
 rw[Au _ hc (by rw[zaw,zap];omega),Cm];unfold aC;rw[zbB];rfl
theorem oK{ds:List PyData}{more:aa}:(recv .append (af S (own++aC ds::more) x a l) (.loc (dB S own x))=true)=True:=eq_true (uo (xs:=ds.map Val.d) (by rw[vR];rfl))
theorem Ed{ds:List PyData}(h:ds.length<=1000000):aU true (ds.map Val.d) (af S own x a l)= .ok (.loc (dB S own x)) (af S (own++[aC ds]) x a l):=by rw[sr _ _ (by rw[zaw,zap];omega),jh,my];rfl
end
inductive Rs (α:Type) where
 |ok (v:α) (a:Nat) (l:Int)
 |no (p:Nat)
 |out
def mD(S own:aa)(x:aB)(X:XQ)(Q:Val->aa->Prop):Rs PyData->Prop
 | .ok v a l=>Q (.d v) (af S own x a l)
 | .no p=>∀ a l,X (cg p) (af S own x a l)
 | .out=>False
def aB.qW(x:aB):Nat->Nat->Int->List Str×Nat×Int
 | 0,a,l=>([],a,l)
 |n+1,a,l=>if x.gv true a=true then(x.txt a::(x.qW n (a+1) (x.aR a l)).1,(x.qW n (a+1) (x.aR a l)).2)else([],a,l)
def aB.ahead(x:aB)(a:Nat)(l:Int):List Str×Nat×Int:=x.qW (x.aj.length-a) a l
theorem Gz{x:aB}{a:Nat}{l:Int}(h:x.gv true a=true):x.ahead a l=(x.txt a::(x.ahead (a+1) (x.aR a l)).1,(x.ahead (a+1) (x.aR a l)).2):=by
 have ha:=qT h;unfold aB.ahead;have e:x.aj.length-a=(x.aj.length-(a+1))+1:=by omega
 rw[e,aB.qW,zah h]
theorem Km{x:aB}{a:Nat}{l:Int}(h:x.gv true a=false):x.ahead a l=([],a,l):=by
 unfold aB.ahead;cases x.aj.length-a with
 |zero=>rfl
 |succ n=>rw[aB.qW,zaj (by rw[h];exact zaP)]
theorem ye(x:aB):∀ (n a:Nat) (l:Int),(x.qW n a l).1.length<=n
 | 0,a,l=>zal _
 |n+1,a,l=>by
  rw[aB.qW];split
  ·have:=ye x n (a+1) (x.aR a l);simp;omega
  ·exact za1 _
theorem Kn{x:aB}{a:Nat}{l:Int}:(x.ahead a l).1.length<=x.aj.length:=zbw (ye x _ _ _) (Nat.sub_le _ _)
section
variable {P:bU} {F g:Nat->Nat} (H:cM P F g) {S own:aa} {x:aB} {a:Nat} {l:Int}
include H
theorem uC{k:Nat}(hk:3<=k)(hD:aJ (af S own x a l))(hl:x.aj.length<=240000):aD P k (F 9) [.loc S.length] (af S own x a l)= .ok (.d (aM (x.ahead a l).1)) (af S own x (x.ahead a l).2.1 (x.ahead a l).2.2):=by
 refine W.kF (W.aD H.f9 rfl (by omega) ?_);show W nX (aF (P.env (k-1)) (DY F g) [some (.loc S.length),none] (af S own x a l)) (aO false _ nX _);unfold DY;have mk:=Ed (S:=S) (own:=own) (x:=x) (a:=a) (l:=l) (ds:=[]) (za1 _);have mk:aU true [] (af S own x a l)= .ok (.loc (dB S own x)) (af S (own++[jX []]) x a l):=mk;obtain⟨I,hI⟩:∃ I:Nat->ae->aa->Prop,∀ j ρ s,I j ρ s↔∃ (rs:List Str) (b:Nat) (m:Int),ρ=[some (.loc S.length),some (.loc (dB S own x))]/\s=af S (own++[jX rs]) x b m/\(rs++(x.ahead b m).1,(x.ahead b m).2)=x.ahead a l/\j=x.aj.length-b:=⟨_,fun _ _ _=>zbU⟩;simp -dsimp[mk];refine jV I (x.aj.length-a) (by omega) ((hI _ _ _).mpr ⟨[],a,l,rfl,rfl,rfl,rfl⟩) (fun j ρ s hIj=>?_);obtain⟨rs,b,m,rfl,rfl,h3,rfl⟩:=(hI _ _ _).mp hIj;have m7:=H.m7 (S:=S) (own:=own++[jX rs]) (x:=x) (a:=b) (l:=m);have t7:=uB H (k:=k-1) (by omega) (S:=S) (own:=own++[jX rs]) (x:=x) (a:=b) (l:=m) (b:=true);have hlen:rs.length+(x.ahead b m).1.length<=x.aj.length:=by have h:=zbj (fun z:List Str×Nat×Int=>z.1.length) h3;have h:(rs++(x.ahead b m).1).length=(x.ahead a l).1.length:=h;rw[zav]at h;have:=Kn (x:=x) (a:=a) (l:=l);omega
 cases hr:x.gv true b with
 |true=>
  rw[hr]at t7;have hb:=qT hr;rw[Gz hr]at h3 hlen;have m6:=H.m6 (S:=S) (own:=own++[jX rs]) (x:=x) (a:=b) (l:=m);have t6:=iF H (k:=k-1) (by omega) (S:=S) (own:=own++[jX rs]) (x:=x) (a:=b) (l:=m) hb (by omega);have rv:(recv .append (af S (own++[jX rs]) x b m) (.loc (dB S own x))=true)=True:=oK (ds:=rs.map PyData.str) (more:=[]);have ap:=qV (S:=S) (own:=own) (x:=x) (a:=b+1) (l:=x.aR b m) (ds:=rs.map PyData.str) (more:=[]) (d:=.str (x.txt b)) (by rw[zaw];simp at hlen;omega);have ap:bO .append (.loc (dB S own x)) [.d (.str (x.txt b))] (af S (own++[jX rs]) x (b+1) (x.aR b m))=some (.d .none,af S (own++[jX (rs++[x.txt b])]) x (b+1) (x.aR b m)):=by unfold jX;rw[zbB];exact ap
  simp -dsimp[m7,t7,rv,m6,t6,ap];refine⟨x.aj.length-(b+1),by omega,(hI _ _ _).mpr ⟨rs++[x.txt b],b+1,_,rfl,rfl,?_,rfl⟩⟩;rw[←h3];simp
 |false=>rw[hr]at t7;rw[Km hr]at h3 hlen;have hbt:cJ .tuple [.loc (dB S own x)] (af S (own++[jX rs]) x b m)=some (.d (aM rs),af S (own++[jX rs]) x b m):=qU (ds:=rs.map PyData.str) (more:=[]);have hf:=fun Q d=>vQ (S:=S) (own:=own) (more:=[jX rs]) (x:=x) (a:=a) (l:=l) (b:=b) (m:=m) (X:=nX) (Q:=Q) (d:=d) hD;simp -dsimp[m7,t7,hbt,hf];rw[←h3];simp
end
def X5:List Str:=["word","sign","quote","open"]
def Co(s:Str):Bool:=X5.any fun z=>z == s
theorem qX(s:Str)(S:aa):gq (.d (.str s)) (.d (.tuple [.str "word",.str "sign",.str "quote",.str "open"])) S=some (Co s):=kh s X5 S
def X6(g:Nat->Nat):S:=.cX (.cmp .isin (.av "Reader" "next_sort" (.var 0) .nil) (.glob (g 1))) (.cons (.expr (.me .append (.var 6) (.cons (.av "Reader" "read_thing" (.var 0) .nil) .nil))) .nil)
def dU(th:Nat->Int->Rs PyData)(x:aB)(go:Nat->Int->Bool):Nat->List PyData->Nat->Int->Rs (List PyData)
 | 0,_,_,_=>.out
 |n+1,acc,a,l=>if(Co (x.sort a) && go a l)=true then(match th a l with
   | .ok d a' l'=>dU th x go n (acc++[d]) a' l'
   | .no p=>.no p
   | .out=>.out)else .ok acc a l
def AR(P:bU)(F:Nat->Nat)(x:aB)(k:Nat)(th:Nat->Int->Rs PyData):Prop:=∀ (S own:aa) (a:Nat) (l:Int) (X:XQ) (Q:Val->aa->Prop),aJ (af S own x a l)->mD S own x X Q (th a l)->W X (aD P k (F 11) [.loc S.length] (af S own x a l)) Q
def L4(S own:aa)(x:aB)(ρ:ae)(Q:Fl->aa->Prop):Rs (List PyData)->Prop
 | .ok ds a l=>Q (.next ρ) (af S (own++[aC ds]) x a l)
 | .no p=>∀ acc a l,Q (.exc (cg p) ρ) (af S (own++[aC acc]) x a l)
 | .out=>False
section
variable {P:bU} {F g:Nat->Nat} (H:cM P F g) {S own:aa} {x:aB} {a:Nat} {l:Int}
include H
theorem Ef{k:Nat}(hk:1<=k){th:Nat->Int->Rs PyData}(hT:AR P F x k th)(hD:aJ (af S own x a l))(n:Nat)(hn:n<=240000){acc:List PyData}(ha:acc.length+n<=500000){v1 v2 v3 v4 v5:Option Val}{Q:Fl->aa->Prop}
 (h:L4 S own x [some (.loc S.length),v1,v2,v3,v4,v5,some (.loc (dB S own x))] Q (dU th x (fun _ _=>true) n acc a l)) :
 W nX (ex (P.env k) (X6 g) [some (.loc S.length),v1,v2,v3,v4,v5,some (.loc (dB S own x))] (af S (own++[aC acc]) x a l)) Q:=by
 obtain⟨I,hI⟩:∃ I:Nat->ae->aa->Prop,∀ j ρ s,I j ρ s↔∃ (acc:List PyData) (b:Nat) (m:Int),ρ=[some (.loc S.length),v1,v2,v3,v4,v5,some (.loc (dB S own x))]/\s=af S (own++[aC acc]) x b m/\acc.length+j<=500000/\L4 S own x ρ Q (dU th x (fun _ _=>true) j acc b m):=⟨_,fun _ _ _=>zbU⟩;unfold X6;refine jV I n (by omega) ((hI _ _ _).mpr ⟨acc,a,l,rfl,rfl,ha,h⟩) (fun j ρ s hIj=>?_);clear h ha;obtain⟨acc,b,m,rfl,rfl,ha,h⟩:=(hI _ _ _).mp hIj;have m3:=H.m3 (S:=S) (own:=own++[aC acc]) (x:=x) (a:=b) (l:=m);have mX:=H.mX (S:=S) (own:=own++[aC acc]) (x:=x) (a:=b) (l:=m);have t3:=gG H (k:=k) hk (S:=S) (own:=own++[aC acc]) (x:=x) (a:=b) (l:=m);have it:=qX (x.sort b) (af S (own++[aC acc]) x b m);have g1:=H.g1;have hD':aJ (af S (own++[aC acc]) x b m):=oG (gA hD) (lN acc);cases j with
 |zero=>exact h.elim
 |succ j=>
  rw[dU]at h;cases ht:Co (x.sort b)with
  |false=>rw[ht,zaj (by simp)]at h;rw[ht]at it;simp -dsimp[m3,t3,g1,it];exact h
  |true=>
   rw[ht,zah (by rfl)]at h;rw[ht]at it;have rv:(recv .append (af S (own++[aC acc]) x b m) (.loc (dB S own x))=true)=True:=oK (ds:=acc) (more:=[]);simp -dsimp[m3,t3,g1,it,mX,rv];refine hT _ _ _ _ _ _ hD' ?_;cases hr:th b m with
   |out=>rw[hr]at h;exact h
   |no p=>rw[hr]at h;intro a' l';exact h _ _ _
   |ok d a' l'=>rw[hr]at h;have ap:=qV (S:=S) (own:=own) (x:=x) (a:=a') (l:=l') (ds:=acc) (more:=[]) (d:=d) (by omega);show W _ _ _;simp -dsimp[ap];exact⟨j,by omega,(hI _ _ _).mpr ⟨_,_,_,rfl,rfl,by rw[zav];simp;omega,h⟩⟩
end
def aB.nq(x:aB)(a:Nat)(l:Int):Nat×Int:=if(x.sort a == "part")=true then(a+1,x.aR a l)else(a,l)
def aB.nu(x:aB)(a:Nat)(l:Int):PyData×Nat×Int:=x.fP (x.nq a l).1 (x.nq a l).2
def aB.qY(x:aB)(a:Nat)(l:Int):List Str×Nat×Int:=x.ahead (x.nu a l).2.1 (x.nu a l).2.2
def jY(x:aB)(ah:List Str)(ds:List PyData)(a:Nat)(l:Int):PyData:=.tuple [aM ah,.tuple ds,.bool (x.sort a == "part"),(x.nu a l).1]
def iG(th:Nat->Int->Rs PyData)(x:aB):Nat->List PyData->Bool->List Str->Nat->Int->Rs (List PyData×List Str)
 | 0,_,_,_,_,_=>.out
 |n+1,acc,sg,ah,a,l=>if(sg && !(x.sort a == "shut"))=true then(match th a l with
   | .ok d a1 l1=>(match dU th x (fun _ _=>true) (x.aj.length+1) [d] a1 l1 with
     | .ok ds a2 l2=>iG th x n (acc++[jY x ah ds a2 l2]) (x.sort a2 == "part") (x.qY a2 l2).1 (x.qY a2 l2).2.1 (x.qY a2 l2).2.2
     | .no p=>.no p
     | .out=>.out)
   | .no p=>.no p
   | .out=>.out)else .ok (acc,ah) a l
def X7(S own:aa)(x:aB)(ρ:Bool->List Str->Option Val->ae)(Q:Fl->aa->Prop):Rs (List PyData×List Str)->Prop
 | .ok p a l=>∀ sg v garb,aJ (af S (own++aC p.1::garb) x a l)->Q (.next (ρ sg p.2 v)) (af S (own++aC p.1::garb) x a l)
 | .no p=>∀ ρ' garb a l,Q (.exc (cg p) ρ') (af S (own++garb) x a l)
 | .out=>False
def TX(g:Nat->Nat):Ss:=(.cons (.asg (.name 6) (.lst true (.cons (.av "Reader" "read_thing" (.var 0) .nil) .nil))) (.cons (.cX (.cmp .isin (.av "Reader" "next_sort" (.var 0) .nil) (.glob (g 1))) (.cons (.expr (.me .append (.var 6) (.cons (.av "Reader" "read_thing" (.var 0) .nil) .nil))) .nil)) (.cons (.asg (.name 4) (.cmp .eq (.av "Reader" "next_sort" (.var 0) .nil) (.cst (.str "part")))) (.cons (.ite (.var 4) (.cons (.expr (.av "Reader" "take_spot" (.var 0) .nil)) .nil) .nil) (.cons (.expr (.me .append (.var 3) (.cons (.tup (.cons (.var 5) (.cons (.bi .tuple (.cons (.var 6) .nil)) (.cons (.var 4) (.cons (.av "Reader" "remark_behind" (.var 0) .nil) .nil))))) .nil))) (.cons (.asg (.name 5) (.av "Reader" "remarks_ahead" (.var 0) .nil)) .nil))))))
def X8(g:Nat->Nat):S:=.cX (.and (.cons (.var 4) (.cons (.cmp .ne (.av "Reader" "next_sort" (.var 0) .nil) (.cst (.str "shut"))) .nil))) (TX g)
theorem OG{S own more:aa}{x:aB}{a b:Nat}{l m:Int}{c d:Cell}(h:aJ (af S (own++c::more) x a l))(hd:qL d=true):aJ (af S (own++d::more) x b m):=by rw[←Cm (c:=c)];exact(gA h).set hd
theorem gH{x:aB}{a:Nat}(h:x.sort a≠""):a<x.aj.length:=by
 unfold aB.sort at h;split at h
 ·rename_i s hs;exact(zak.mp hs).1
 ·exact absurd rfl h
section
variable {P:bU} {F g:Nat->Nat} (H:cM P F g) {S own:aa} {x:aB} {a:Nat} {l:Int}
include H
theorem GA{k:Nat}(hk:3<=k){th:Nat->Int->Rs PyData}(hT:AR P F x k th)(hx:x.aj.length<=232000){v1 v2:Option Val}{Q:Fl->aa->Prop}(n:Nat)(hn:n<=240000){acc:List PyData}(hacc:acc.length+n<=500000){sg:Bool}{ah:List Str}{garb:aa}{v6:Option Val}(hD:aJ (af S (own++aC acc::garb) x a l))
 (h:X7 S own x (fun sg ah v=>[some (.loc S.length),v1,v2,some (.loc (dB S own x)),some (.d (.bool sg)),some (.d (aM ah)),v]) Q (iG th x n acc sg ah a l)) :
 W nX (ex (P.env k) (X8 g) [some (.loc S.length),v1,v2,some (.loc (dB S own x)),some (.d (.bool sg)),some (.d (aM ah)),v6] (af S (own++aC acc::garb) x a l)) Q:=by
 obtain⟨I,hI⟩:∃ I:Nat->ae->aa->Prop,∀ j ρ s,I j ρ s↔∃ (acc:List PyData) (sg:Bool) (ah:List Str) (v6:Option Val) (garb:aa) (b:Nat) (m:Int),ρ=[some (.loc S.length),v1,v2,some (.loc (dB S own x)),some (.d (.bool sg)),some (.d (aM ah)),v6]/\s=af S (own++aC acc::garb) x b m/\aJ (af S (own++aC acc::garb) x b m)/\acc.length+j<=500000/\X7 S own x (fun sg ah v=>[some (.loc S.length),v1,v2,some (.loc (dB S own x)),some (.d (.bool sg)),some (.d (aM ah)),v]) Q (iG th x j acc sg ah b m):=⟨_,fun _ _ _=>zbU⟩;unfold X8;refine jV I n (by omega) ((hI _ _ _).mpr ⟨acc,sg,ah,v6,garb,a,l,rfl,rfl,hD,hacc,h⟩) (fun j ρ s hIj=>?_);clear h hacc hD;obtain⟨acc,sg,ah,v6,garb,b,m,rfl,rfl,hD,ha,h⟩:=(hI _ _ _).mp hIj;have m3:=fun own a l=>H.m3 (S:=S) (own:=own) (x:=x) (a:=a) (l:=l);have mX:=fun own a l=>H.mX (S:=S) (own:=own) (x:=x) (a:=a) (l:=l);have t3:=fun own a l=>gG H (k:=k) (by omega) (S:=S) (own:=own) (x:=x) (a:=a) (l:=l);cases j with
 |zero=>exact h.elim
 |succ j=>
  rw[iG]at h;cases sg with
  |false=>rw[zaj (by simp)]at h;simp -dsimp;exact h _ _ _ hD
  |true=>
   cases hs:(x.sort b == "shut")with
   |true=>
    rw[hs,zaj (by simp)]at h;have e:x.sort b="shut":=by simpa using hs
    simp -dsimp[m3,t3,e];exact h _ _ _ hD
   |false=>
    rw[hs,zah (show (true && !false)=true from rfl)]at h;have e:x.sort b≠"shut":=by simpa using hs
    simp -dsimp[m3,t3,e];unfold TX;simp -dsimp[mX];refine hT _ _ _ _ _ _ hD ?_;cases hr:th b m with
    |out=>rw[hr]at h;exact h
    |no p=>rw[hr]at h;intro a' l';exact h _ _ _ _
    |ok d a1 l1=>
     rw[hr]at h;dsimp only at h;show W _ _ _;simp -dsimp;rw[my,jh];refine Ef H (by omega) hT (S:=S) (own:=own++aC acc::garb) (x:=x) (a:=a1) (l:=l1) (gA hD) (x.aj.length+1) (by omega) (acc:=[d]) (by simp;omega) ?_;cases hr2:dU th x (fun _ _=>true) (x.aj.length+1) [d] a1 l1 with
     |out=>rw[hr2]at h;exact h
     |no p=>
      rw[hr2]at h;intro acc' a' l';have e:(own++aC acc::garb)++[aC acc']=own++(aC acc::garb++[aC acc']):=by simp
      rw[e];show W nX _ _;simp -dsimp;exact h _ _ _ _
     |ok ds a2 l2=>
      rw[hr2]at h;dsimp only at h;have e2:(own++aC acc::garb)++[aC ds]=own++aC acc::(garb++[aC ds]):=by simp
      have hD2:aJ (af S (own++aC acc::(garb++[aC ds])) x a2 l2):=by rw[←e2];exact oG (gA hD) (lN ds)
      have bt:∀ a l,cJ .tuple [.loc (dB S (own++aC acc::garb) x)] (af S (own++aC acc::(garb++[aC ds])) x a l)=some (.d (.tuple ds),af S (own++aC acc::(garb++[aC ds])) x a l):=fun a l=>by rw[←e2];exact qU
      have t8:=vP H (k:=k) (by omega) (S:=S) (own:=own++aC acc::(garb++[aC ds])) (x:=x) (a:=(x.nq a2 l2).1) (l:=(x.nq a2 l2).2) (by omega);have t8:aD P k (F 8) [.loc S.length] (af S (own++aC acc::(garb++[aC ds])) x (x.nq a2 l2).1 (x.nq a2 l2).2)= .ok (.d (x.nu a2 l2).1) (af S (own++aC acc::(garb++[aC ds])) x (x.nu a2 l2).2.1 (x.nu a2 l2).2.2):=t8;have m8:=fun own a l=>H.m8 (S:=S) (own:=own) (x:=x) (a:=a) (l:=l);have m6:=fun own a l=>H.m6 (S:=S) (own:=own) (x:=x) (a:=a) (l:=l);have m9:=fun own a l=>H.m9 (S:=S) (own:=own) (x:=x) (a:=a) (l:=l);have rv:∀ a l,(recv .append (af S (own++aC acc::(garb++[aC ds])) x a l) (.loc (dB S own x))=true)=True:=fun a l=>oK;have ap:=qV (S:=S) (own:=own) (x:=x) (a:=(x.nu a2 l2).2.1) (l:=(x.nu a2 l2).2.2) (ds:=acc) (more:=garb++[aC ds]) (d:=jY x ah ds a2 l2) (by omega);have hD3:aJ (af S (own++aC (acc++[jY x ah ds a2 l2])::(garb++[aC ds])) x (x.nu a2 l2).2.1 (x.nu a2 l2).2.2):=OG hD2 (lN _);have t9:=uC H (k:=k) (by omega) hD3 (by omega);have t9:aD P k (F 9) [.loc S.length] (af S (own++aC (acc++[jY x ah ds a2 l2])::(garb++[aC ds])) x (x.nu a2 l2).2.1 (x.nu a2 l2).2.2)= .ok (.d (aM (x.qY a2 l2).1)) (af S (own++aC (acc++[jY x ah ds a2 l2])::(garb++[aC ds])) x (x.qY a2 l2).2.1 (x.qY a2 l2).2.2):=t9;have fin:I j [some (.loc S.length),v1,v2,some (.loc (dB S own x)),some (.d (.bool (x.sort a2 == "part"))),some (.d (aM (x.qY a2 l2).1)),some (.loc (dB S (own++aC acc::garb) x))] (af S (own++aC (acc++[jY x ah ds a2 l2])::(garb++[aC ds])) x (x.qY a2 l2).2.1 (x.qY a2 l2).2.2):=(hI _ _ _).mpr ⟨_,_,_,_,_,_,_,rfl,rfl,gA hD3,by rw[zav];simp;omega,h⟩;unfold jY at ap t9 fin;show W nX _ _;rw[e2];cases hp:(x.sort a2 == "part")with
      |true=>
       have e:x.sort a2="part":=by simpa using hp
       have hlt:a2<x.aj.length:=gH (by rw[e];decide +kernel);have e3:x.nq a2 l2=(a2+1,x.aR a2 l2):=by unfold aB.nq;rw[hp,zah rfl]
       have t6:=iF H (k:=k) (by omega) (S:=S) (own:=own++aC acc::(garb++[aC ds])) (x:=x) (a:=a2) (l:=l2) hlt (by omega);rw[e3]at t8;rw[hp]at ap t9 fin;simp -dsimp[m3,t3,e,m6,t6,bt,m8,t8,rv,ap,m9,t9];exact⟨j,by omega,fin⟩
      |false=>
       have e:x.sort a2≠"part":=by simpa using hp
       have e3:x.nq a2 l2=(a2,l2):=by unfold aB.nq;rw[hp,zaj zaP]
       rw[e3]at t8;rw[hp]at ap t9 fin;simp -dsimp[m3,t3,e,hp,bt,m8,t8,rv,ap,m9,t9];exact⟨j,by omega,fin⟩
end
def vS:List Str:=["(","[","{"]
def yf(o:Str):Str:=if o="(" then ")" else if o="[" then "]" else "}"
def aB.Cp(x:aB):Prop:=∀ s∈x.aj,s.sort="open"->s.text∈vS
theorem TY{x:aB}(h:x.Cp){a:Nat}(hs:x.sort a="open"):x.txt a∈vS:=by
 unfold aB.sort at hs;unfold aB.txt;cases e:x.aj[a]? with
 |none=>rw[e]at hs;exact absurd hs (by decide +kernel)
 |some s=>rw[e]at hs;exact h s (zag e) hs
theorem OH:∀ o∈vS,gp [(.str "(",.str ")"),(.str "[",.str "]"),(.str "{",.str "}")] o=some (.str (yf o)):=by decide +kernel
def aB.iz(x:aB)(a:Nat)(l:Int):PyData×Nat×Int:=x.fP (a+1) (x.aR a l)
def aB.lD(x:aB)(a:Nat)(l:Int):List Str×Nat×Int:=x.ahead (x.iz a l).2.1 (x.iz a l).2.2
def oM(th:Nat->Int->Rs PyData)(x:aB)(a:Nat)(l:Int):Rs PyData:=
 match iG th x (x.aj.length+1) [] true (x.lD a l).1 (x.lD a l).2.1 (x.lD a l).2.2 with
 | .ok p a' l'=>if(x.sort a' == "shut" && x.txt a' == yf (x.txt a))=true then .ok (.tuple [.str "group",.str (x.txt a),(x.iz a l).1,.tuple p.1,aM p.2]) (a'+1) (x.aR a' l')else .no (x.fF a')
 | .no p=>.no p
 | .out=>.out
def dW(x:aB):Nat->Nat->Int->Rs PyData
 | 0,_,_=>.out
 |n+1,a,l=>if Co (x.sort a)=true then(if x.sort a="open" then oM (dW x n) x a l else .ok (.tuple [.str (x.sort a),.str (x.txt a)]) (a+1) (x.aR a l))else .no (x.fF a)
theorem mE{S own:aa}{x:aB}{X:XQ}{Q:Val->aa->Prop}{v:PyData}{a:Nat}{l:Int}:mD S own x X Q (.ok v a l)=Q (.d v) (af S own x a l):=rfl
theorem dJ{ρ:ae}{Q:Fl->aa->Prop}{e:jl}{s:aa}:cE ρ Q e s=Q (.exc e ρ) s:=rfl
section
variable {P:bU} {F g:Nat->Nat} (H:cM P F g) {S own:aa} {x:aB} {a:Nat} {l:Int}
include H
theorem TZ{k:Nat}{o:Str}(h:o∈vS)(S:aa):JZ (P.env k) (g 2) (.d (.str o)) S= .ok (.d (.str (yf o))) S:=by
 have e:(P.env k).glob (g 2)=some (.dict [(.str "(",.str ")"),(.str "[",.str "]"),(.str "{",.str "}")]):=H.g2;unfold JZ;rw[e];show (match gp _ o with |some y=>_ |none=>_)=_
 rw[OH o h]
theorem GD{k:Nat}(hk:4<=k){th:Nat->Int->Rs PyData}(hT:AR P F x (k-1) th)(hx:x.aj.length<=232000)(ho:x.Cp){X:XQ}{Q:Val->aa->Prop}(hD:aJ (af S own x a l))(hs:x.sort a="open")(h:mD S own x X Q (oM th x a l)):W X (aD P k (F 10) [.loc S.length] (af S own x a l)) Q:=by
 refine W.aD H.B6 rfl (by omega) ?_;show W nX (aF (P.env (k-1)) (yK F g) [some (.loc S.length),none,none,none,none,none,none] (af S own x a l)) (aO false _ X _);have ha:a<x.aj.length:=gH (by rw[hs];decide +kernel);have hop:=TY ho hs;have m3:=fun own a l=>H.m3 (S:=S) (own:=own) (x:=x) (a:=a) (l:=l);have m5:=fun own a l=>H.m5 (S:=S) (own:=own) (x:=x) (a:=a) (l:=l);have m6:=fun own a l=>H.m6 (S:=S) (own:=own) (x:=x) (a:=a) (l:=l);have m8:=fun own a l=>H.m8 (S:=S) (own:=own) (x:=x) (a:=a) (l:=l);have m9:=fun own a l=>H.m9 (S:=S) (own:=own) (x:=x) (a:=a) (l:=l);have t3:=fun own a l=>gG H (k:=k-1) (by omega) (S:=S) (own:=own) (x:=x) (a:=a) (l:=l);have t6:=iF H (k:=k-1) (by omega) (S:=S) (own:=own) (x:=x) (a:=a) (l:=l) ha (by omega);have t8:=vP H (k:=k-1) (by omega) (S:=S) (own:=own) (x:=x) (a:=a+1) (l:=x.aR a l) (by omega);have t8:aD P (k-1) (F 8) [.loc S.length] (af S own x (a+1) (x.aR a l))= .ok (.d (x.iz a l).1) (af S own x (x.iz a l).2.1 (x.iz a l).2.2):=t8;have mk:=fun a l=>Ed (S:=S) (own:=own) (x:=x) (a:=a) (l:=l) (ds:=[]) (za1 _);have mk:∀ a l,aU true [] (af S own x a l)= .ok (.loc (dB S own x)) (af S (own++[aC []]) x a l):=mk;have hD1:∀ a l,aJ (af S (own++[aC []]) x a l):=fun a l=>oG (gA hD) (lN []);have t9:=uC H (k:=k-1) (by omega) (hD1 (x.iz a l).2.1 (x.iz a l).2.2) (by omega);have t9:aD P (k-1) (F 9) [.loc S.length] (af S (own++[aC []]) x (x.iz a l).2.1 (x.iz a l).2.2)= .ok (.d (aM (x.lD a l).1)) (af S (own++[aC []]) x (x.lD a l).2.1 (x.lD a l).2.2):=t9;unfold yK;simp -dsimp[m6,t6,m8,t8,mk,m9,t9];refine GA H (by omega) hT hx (S:=S) (own:=own) (x:=x) (a:=(x.lD a l).2.1) (l:=(x.lD a l).2.2) (x.aj.length+1) (by omega) (acc:=[]) (by simp;omega) (garb:=[]) (hD1 _ _) ?_;unfold oM at h;cases hr:iG th x (x.aj.length+1) [] true (x.lD a l).1 (x.lD a l).2.1 (x.lD a l).2.2 with
 |out=>rw[hr]at h;exact h
 |no p=>rw[hr]at h;intro ρ' garb a' l';show W nX _ _;simp -dsimp;rw[kX hD];exact h _ _
 |ok p a' l'=>
  rw[hr]at h;dsimp only at h;intro sg v garb hD2;have h4:=H.AO (cl:=P.cls) (S:=S) (own:=own++aC p.1::garb) (x:=x) (a:=a') (l:=l');have h5:=H.vO (cl:=P.cls) (S:=S) (own:=own++aC p.1::garb) (x:=x) (a:=a') (l:=l');have gs:=fun S=>TZ H (k:=k-1) hop S;have t5:=fun (own:aa) (X:XQ) (Q:Val->aa->Prop) (hX:X (cg (x.fF a')) (af S own x a' l'))=>fL H (k:=k-1) (by omega) (S:=S) (own:=own) (x:=x) (a:=a') (l:=l') (X:=X) (Q:=Q) hX;have no:x.sort a'≠"shut"\/x.txt a'≠yf (x.txt a)->∀ h:mD S own x X Q (if(x.sort a' == "shut" && x.txt a' == yf (x.txt a))=true then .ok (.tuple [.str "group",.str (x.txt a),(x.iz a l).1,.tuple p.1,aM p.2]) (a'+1) (x.aR a' l')else .no (x.fF a')),mD S own x X Q (.no (x.fF a')):=fun hne h=>by
   rw[zaj]at h
   ·exact h
   ·intro e;rw[zaa,zbA,zbA]at e;rcases hne with z |z
    ·exact z e.1
    ·exact z e.2
  show W nX _ _;by_cases c1:x.sort a'="shut"
  ·have hlt:a'<x.aj.length:=gH (by rw[c1];decide +kernel);obtain⟨s,hsp⟩:∃ s,x.aj[a']?=some s:=⟨_,zaW hlt⟩;have e1:x.txt a'=s.text:=by unfold aB.txt;rw[hsp]
   have ix:=nj (S:=S) (own:=own++aC p.1::garb) (x:=x) (a:=a') (l:=l') hlt;have s1:=H.sp1 (cl:=P.cls) (S:=S) (own:=own++aC p.1::garb) (x:=x) (a:=a') (l:=l') hsp;by_cases c2:x.txt a'=yf (x.txt a)
   ·have t6':=iF H (k:=k-1) (by omega) (S:=S) (own:=own++aC p.1::garb) (x:=x) (a:=a') (l:=l') hlt (by omega);have bt:=qU (S:=S) (own:=own) (x:=x) (a:=a'+1) (l:=x.aR a' l') (ds:=p.1) (more:=garb);have hf:=fun Q d=>vQ (S:=S) (own:=own) (more:=aC p.1::garb) (x:=x) (a:=a) (l:=l) (b:=a'+1) (m:=x.aR a' l') (X:=X) (Q:=Q) (d:=d) hD;rw[zah (by rw[c1,c2];simp)]at h;have c3:s.text=yf (x.txt a):=by rw[←e1];exact c2
    simp -dsimp[m3,t3,c1,h4,h5,ix,s1,gs,c3,m6,t6',bt,hf];exact h
   ·have c3:s.text≠yf (x.txt a):=by rw[←e1];exact c2
    simp -dsimp[m3,t3,c1,h4,h5,ix,s1,gs,c3,m5];refine t5 _ _ _ ?_;rw[dJ];simp -dsimp;rw[kX hD];exact no (.inr c2) h _ _
  ·simp -dsimp[m3,t3,c1,m5];refine t5 _ _ _ ?_;rw[dJ];simp -dsimp;rw[kX hD];exact no (.inl c1) h _ _
theorem yg(hx:x.aj.length<=232000)(ho:x.Cp):∀ (n:Nat) {k:Nat},2 * n+4<=k->AR P F x k (dW x n)
 | 0,k,hk=>fun S own a l X Q hD h=>h.elim
 |n+1,k,hk=>fun S own a l X Q hD h=>by
  have ih:=yg hx ho n (k:=k-2) (by omega);refine W.aD H.B7 rfl (by omega) ?_;show W nX (aF (P.env (k-1)) (yL F g) [some (.loc S.length),none] (af S own x a l)) (aO false _ X _);have m3:=H.m3 (S:=S) (own:=own) (x:=x) (a:=a) (l:=l);have m5:=H.m5 (S:=S) (own:=own) (x:=x) (a:=a) (l:=l);have m6:=H.m6 (S:=S) (own:=own) (x:=x) (a:=a) (l:=l);have FY:=H.FY (S:=S) (own:=own) (x:=x) (a:=a) (l:=l);have t3:=gG H (k:=k-1) (by omega) (S:=S) (own:=own) (x:=x) (a:=a) (l:=l);have it:=qX (x.sort a) (af S own x a l);have g1:=H.g1;unfold yL;rw[dW]at h;cases ht:Co (x.sort a)with
  |false=>rw[ht,zaj (by simp)]at h;rw[ht]at it;simp -dsimp[m3,t3,g1,it,m5];refine fL H (k:=k-1) (by omega) ?_;rw[dJ];simp -dsimp;exact h _ _
  |true=>
   rw[ht,zah rfl]at h;rw[ht]at it;by_cases c:x.sort a="open"
   ·rw[zah c]at h;have it:gq (.d (.str "open")) (.d (.tuple [.str "word",.str "sign",.str "quote",.str "open"])) (af S own x a l)=some true:=c ▸ it;simp -dsimp[m3,t3,g1,it,c,FY];refine GD H (k:=k-1) (by omega) (th:=dW x n) ih hx ho hD c ?_;cases hr:oM (dW x n) x a l with
    |out=>rw[hr]at h;exact h
    |no p=>rw[hr]at h;intro a' l';rw[dJ];simp -dsimp;rw[oJ hD];exact h _ _
    |ok d a' l'=>rw[hr]at h;rw[mE];simp -dsimp;rw[oH];exact h
   ·rw[zaj c]at h;have hlt:a<x.aj.length:=gH (by intro e;rw[e]at ht;exact absurd ht (by decide +kernel));have t6:=iF H (k:=k-1) (by omega) (S:=S) (own:=own) (x:=x) (a:=a) (l:=l) hlt (by omega);simp -dsimp[m3,t3,g1,it,c,m6,t6];rw[oH];exact h
end
def aB.qZ(x:aB)(a:Nat)(l:Int):Bool:=!x.oF ||decide (x.aR a l=l)
def aB.cut(x:aB)(p q:Nat):Str:=glue ((x.text.cps.toList.drop p).take (q-p))
def aB.Eh(x:aB)(a b:Nat):Str:=x.cut (x.fF a) (x.fF (b-1)+(x.txt (b-1)).length)
def vU(th:Nat->Int->Rs PyData)(x:aB)(a:Nat)(l:Int):Rs (List PyData×Str):=match th a l with
 | .ok d a1 l1=>(match dU th x x.qZ (x.aj.length+1) [d] a1 l1 with
   | .ok ds a2 l2=>.ok (ds,x.Eh a a2) a2 l2
   | .no p=>.no p
   | .out=>.out)
 | .no p=>.no p
 | .out=>.out
structure uD (x:aB):Prop where
 Cp:x.Cp
 len:x.text.length<=900000
 many:x.aj.length<=232000
 fF:∀ s∈x.aj,s.place<=x.text.length/\s.text.length<=900000/\s.line<=900000
def X9(g:Nat->Nat):S:=.cX (.and (.cons (.cmp .isin (.av "Reader" "next_sort" (.var 0) .nil) (.glob (g 1))) (.cons (.av "Reader" "is_on_line" (.var 0) .nil) .nil))) (.cons (.expr (.me .append (.var 2) (.cons (.av "Reader" "read_thing" (.var 0) .nil) .nil))) .nil)
section
variable {P:bU} {F g:Nat->Nat} (H:cM P F g) {S own:aa} {x:aB} {a:Nat} {l:Int}
include H
theorem GG{k:Nat}(hk:2<=k):aD P k (F 12) [.loc S.length] (af S own x a l)= .ok (.d (.bool (x.qZ a l))) (af S own x a l):=by
 refine W.kF (W.aD H.B9 rfl (by omega) ?_);show W nX (aF (P.env (k-1)) (yM F g) [some (.loc S.length)] (af S own x a l)) (aO false _ nX _);unfold yM;have h1:=H.at1 (cl:=P.cls) (S:=S) (own:=own) (x:=x) (a:=a) (l:=l);have h6:=H.LZ (cl:=P.cls) (S:=S) (own:=own) (x:=x) (a:=a) (l:=l);have m4:=H.m4 (S:=S) (own:=own) (x:=x) (a:=a) (l:=l);have t4:=xj H (k:=k-1) (by omega) (S:=S) (own:=own) (x:=x) (a:=a) (l:=l);unfold aB.qZ;cases hb:x.oF with
 |false=>rw[hb]at h1;simp -dsimp[h1]
 |true=>
  rw[hb]at h1;by_cases c:x.aR a l=l
  ·simp -dsimp[h1,m4,t4,h6,c]
  ·simp -dsimp[h1,m4,t4,h6,c]
theorem GH{k:Nat}(hk:2<=k){th:Nat->Int->Rs PyData}(hT:AR P F x k th)(hD:aJ (af S own x a l))(n:Nat)(hn:n<=240000){acc:List PyData}(ha:acc.length+n<=500000){v1 v3 v4:Option Val}{Q:Fl->aa->Prop}
 (h:L4 S own x [some (.loc S.length),v1,some (.loc (dB S own x)),v3,v4] Q (dU th x x.qZ n acc a l)) :
 W nX (ex (P.env k) (X9 g) [some (.loc S.length),v1,some (.loc (dB S own x)),v3,v4] (af S (own++[aC acc]) x a l)) Q:=by
 obtain⟨I,hI⟩:∃ I:Nat->ae->aa->Prop,∀ j ρ s,I j ρ s↔∃ (acc:List PyData) (b:Nat) (m:Int),ρ=[some (.loc S.length),v1,some (.loc (dB S own x)),v3,v4]/\s=af S (own++[aC acc]) x b m/\acc.length+j<=500000/\L4 S own x ρ Q (dU th x x.qZ j acc b m):=⟨_,fun _ _ _=>zbU⟩;unfold X9;refine jV I n (by omega) ((hI _ _ _).mpr ⟨acc,a,l,rfl,rfl,ha,h⟩) (fun j ρ s hIj=>?_);clear h ha;obtain⟨acc,b,m,rfl,rfl,ha,h⟩:=(hI _ _ _).mp hIj;have m3:=H.m3 (S:=S) (own:=own++[aC acc]) (x:=x) (a:=b) (l:=m);have mX:=H.mX (S:=S) (own:=own++[aC acc]) (x:=x) (a:=b) (l:=m);have jx:=H.jx (S:=S) (own:=own++[aC acc]) (x:=x) (a:=b) (l:=m);have t3:=gG H (k:=k) (by omega) (S:=S) (own:=own++[aC acc]) (x:=x) (a:=b) (l:=m);have t12:=GG H (k:=k) hk (S:=S) (own:=own++[aC acc]) (x:=x) (a:=b) (l:=m);have it:=qX (x.sort b) (af S (own++[aC acc]) x b m);have g1:=H.g1;have hD':aJ (af S (own++[aC acc]) x b m):=oG (gA hD) (lN acc);cases j with
 |zero=>exact h.elim
 |succ j=>
  rw[dU]at h;cases ht:Co (x.sort b)with
  |false=>rw[ht,zaj (by simp)]at h;rw[ht]at it;simp -dsimp[m3,t3,g1,it];exact h
  |true=>
   cases ho:x.qZ b m with
   |false=>rw[ht,ho,zaj (by simp)]at h;rw[ht]at it;rw[ho]at t12;simp -dsimp[m3,t3,g1,it,jx,t12];exact h
   |true=>
   rw[ht,ho,zah (by rfl)]at h;rw[ht]at it;rw[ho]at t12;have rv:(recv .append (af S (own++[aC acc]) x b m) (.loc (dB S own x))=true)=True:=oK (ds:=acc) (more:=[]);simp -dsimp[m3,t3,g1,it,jx,t12,mX,rv];refine hT _ _ _ _ _ _ hD' ?_;cases hr:th b m with
   |out=>rw[hr]at h;exact h
   |no p=>rw[hr]at h;intro a' l';exact h _ _ _
   |ok d a' l'=>rw[hr]at h;have ap:=qV (S:=S) (own:=own) (x:=x) (a:=a') (l:=l') (ds:=acc) (more:=[]) (d:=d) (by omega);show W _ _ _;simp -dsimp[ap];exact⟨j,by omega,(hI _ _ _).mpr ⟨_,_,_,rfl,rfl,by rw[zav];simp;omega,h⟩⟩
end
def Ko(x:aB)(th:Nat->Int->Rs PyData):Prop:=∀ a l d a' l',th a l= .ok d a' l'->a<a'/\a'<=x.aj.length
theorem GJ{x:aB}{a:Nat}{l:Int}(h:a<=x.aj.length):a<=(x.fP a l).2.1/\(x.fP a l).2.1<=x.aj.length:=by
 unfold aB.fP;split
 ·rename_i hr;have:=qT hr;exact⟨Nat.le_succ _,this⟩
 ·exact⟨zal _,h⟩
theorem GL{x:aB}:∀ (n:Nat) {a:Nat} {l:Int},a<=x.aj.length->a<=(x.qW n a l).2.1/\(x.qW n a l).2.1<=x.aj.length
 | 0,a,l,h=>⟨zal _,h⟩
 |n+1,a,l,h=>by
  rw[aB.qW];split
  ·rename_i hr;have:=GL n (a:=a+1) (l:=x.aR a l) (qT hr);exact⟨by show a<=(x.qW n (a+1) (x.aR a l)).2.1;omega,this.2⟩
  ·exact⟨zal _,h⟩
theorem AS{x:aB}{a:Nat}{l:Int}(h:a<=x.aj.length):a<=(x.ahead a l).2.1/\(x.ahead a l).2.1<=x.aj.length:=GL _ h
theorem pT{x:aB}{th:Nat->Int->Rs PyData}(hT:Ko x th){go:Nat->Int->Bool}:∀ (n:Nat) {acc ds:List PyData} {a a':Nat} {l l':Int},a<=x.aj.length->dU th x go n acc a l= .ok ds a' l'->a<=a'/\a'<=x.aj.length
 | 0,acc,ds,a,a',l,l',h,e=>by cases e
 |n+1,acc,ds,a,a',l,l',h,e=>by
  rw[dU]at e;split at e
  ·cases hr:th a l with
   |ok d b m=>rw[hr]at e;have:=hT _ _ _ _ _ hr;have q:=pT hT n (by omega) e;exact⟨by omega,q.2⟩
   |no p=>rw[hr]at e;cases e
   |out=>rw[hr]at e;cases e
  ·cases e;exact⟨zal _,h⟩
theorem T8{x:aB}{a:Nat}{l:Int}(h:a<=x.aj.length):a<=(x.nq a l).1/\(x.nq a l).1<=x.aj.length:=by
 unfold aB.nq;split
 ·rename_i c;have e:x.sort a="part":=by simpa using c
  have:=gH (x:=x) (a:=a) (by rw[e];decide +kernel);exact⟨Nat.le_succ _,this⟩
 ·exact⟨zal _,h⟩
theorem T9{x:aB}{a:Nat}{l:Int}(h:a<=x.aj.length):a<=(x.qY a l).2.1/\(x.qY a l).2.1<=x.aj.length:=by have h1:=T8 (l:=l) h;have h2:=GJ (l:=(x.nq a l).2) h1.2;have h3:=AS (a:=(x.nu a l).2.1) (l:=(x.nu a l).2.2) h2.2;exact⟨zbw h1.1 (zbw h2.1 h3.1),h3.2⟩
theorem vW{x:aB}{th:Nat->Int->Rs PyData}(hT:Ko x th):∀ (n:Nat) {acc:List PyData} {sg:Bool} {ah:List Str} {p:List PyData×List Str} {a a':Nat} {l l':Int},a<=x.aj.length->iG th x n acc sg ah a l= .ok p a' l'->a<=a'/\a'<=x.aj.length
 | 0,acc,sg,ah,p,a,a',l,l',h,e=>by cases e
 |n+1,acc,sg,ah,p,a,a',l,l',h,e=>by
  rw[iG]at e;split at e
  ·cases hr:th a l with
   |ok d a1 l1=>
    rw[hr]at e;dsimp only at e;have h1:=hT _ _ _ _ _ hr;cases hr2:dU th x (fun _ _=>true) (x.aj.length+1) [d] a1 l1 with
    |ok ds a2 l2=>rw[hr2]at e;dsimp only at e;have h2:=pT hT _ h1.2 hr2;have h3:=T9 (l:=l2) h2.2;have q:=vW hT n h3.2 e;exact⟨by omega,q.2⟩
    |no p=>rw[hr2]at e;cases e
    |out=>rw[hr2]at e;cases e
   |no p=>rw[hr]at e;cases e
   |out=>rw[hr]at e;cases e
  ·cases e;exact⟨zal _,h⟩
theorem AU{x:aB}:∀ n:Nat,Ko x (dW x n)
 | 0=>fun a l d a' l' e=>by cases e
 |n+1=>fun a l d a' l' e=>by
  rw[dW]at e;split at e
  ·rename_i ht;have ha:a<x.aj.length:=gH (by intro z;rw[z]at ht;exact absurd ht (by decide +kernel));split at e
   ·unfold oM at e;have h1:=GJ (x:=x) (a:=a+1) (l:=x.aR a l) ha;have h2:=AS (x:=x) (a:=(x.iz a l).2.1) (l:=(x.iz a l).2.2) h1.2;have h2:(x.iz a l).2.1<=(x.lD a l).2.1/\(x.lD a l).2.1<=x.aj.length:=h2;have h1:a+1<=(x.iz a l).2.1:=h1.1;cases hr:iG (dW x n) x (x.aj.length+1) [] true (x.lD a l).1 (x.lD a l).2.1 (x.lD a l).2.2 with
    |ok p b m=>
     rw[hr]at e;dsimp only at e;have h3:=vW (AU n) _ h2.2 hr;split at e
     ·rename_i c;rw[zaa,zbA]at c;have:=gH (x:=x) (a:=b) (by rw[c.1];decide +kernel);cases e;exact⟨by omega,this⟩
     ·cases e
    |no p=>rw[hr]at e;cases e
    |out=>rw[hr]at e;cases e
   ·cases e;exact⟨Nat.lt_succ_self _,ha⟩
  ·cases e
def Ua(p:List PyData×Str):PyData:=.tuple [.tuple p.1,.str p.2]
def Rs.map{α β:Type}(f:α->β):Rs α->Rs β
 | .ok v a l=>.ok (f v) a l
 | .no p=>.no p
 | .out=>.out
section
variable {P:bU} {F g:Nat->Nat} (H:cM P F g) {S own:aa} {x:aB} {a:Nat} {l:Int}
include H
theorem Kq(hx:uD x){n k:Nat}(hk:2 * n+5<=k){X:XQ}{Q:Val->aa->Prop}(hD:aJ (af S own x a l))(h:mD S own x X Q ((vU (dW x n) x a l).map Ua)):W X (aD P k (F 13) [.loc S.length] (af S own x a l)) Q:=by
 have hT:=yg H hx.many hx.Cp n (k:=k-1) (by omega);have hB:=AU (x:=x) n;generalize dW x n=th at h hT hB;refine W.aD H.Ca rfl (by omega) ?_;show W nX (aF (P.env (k-1)) (yN F g) [some (.loc S.length),none,none,none,none] (af S own x a l)) (aO false _ X _);have h5:=H.vO (cl:=P.cls) (S:=S) (own:=own) (x:=x) (a:=a) (l:=l);have mX:=H.mX (S:=S) (own:=own) (x:=x) (a:=a) (l:=l);unfold yN;simp -dsimp[h5,mX];refine hT _ _ _ _ _ _ hD ?_;unfold vU at h;cases hr:th a l with
 |out=>rw[hr]at h;exact h
 |no p=>rw[hr]at h;intro a' l';rw[dJ];simp -dsimp;rw[oJ hD];exact h _ _
 |ok d a1 l1=>
  rw[hr]at h;dsimp only at h;have b1:=hB _ _ _ _ _ hr;rw[mE];simp -dsimp;rw[my,jh];refine GH H (by omega) hT (S:=S) (own:=own) (x:=x) (a:=a1) (l:=l1) (gA hD) (x.aj.length+1) (by have:=hx.many;omega) (acc:=[d]) (by have:=hx.many;simp;omega) ?_;cases hr2:dU th x x.qZ (x.aj.length+1) [d] a1 l1 with
  |out=>rw[hr2]at h;exact h
  |no p=>rw[hr2]at h;intro acc' a' l';show W nX _ _;simp -dsimp;rw[kX hD];exact h _ _
  |ok ds a2 l2=>
   rw[hr2]at h;dsimp only at h;have b2:=pT hB _ b1.2 hr2;have ha:a<x.aj.length:=by omega
   have hb:a2-1<x.aj.length:=by omega
   obtain⟨s,hs⟩:∃ s,x.aj[a]?=some s:=⟨_,zaW ha⟩;obtain⟨t,ht⟩:∃ s,x.aj[a2-1]?=some s:=⟨_,zaW hb⟩;have p1:=hx.fF s (zag hs);have p2:=hx.fF t (zag ht);have e0:(a2:Int)-1=((a2-1:Nat):Int):=by omega
   have q0:=H.RY (cl:=P.cls) (S:=S) (own:=own++[aC ds]) (x:=x) (a:=a2) (l:=l2);have q4:=H.AO (cl:=P.cls) (S:=S) (own:=own++[aC ds]) (x:=x) (a:=a2) (l:=l2);have q5:=H.vO (cl:=P.cls) (S:=S) (own:=own++[aC ds]) (x:=x) (a:=a2) (l:=l2);have i1:=nj (S:=S) (own:=own++[aC ds]) (x:=x) (a:=a2) (l:=l2) ha;have i2:=nj (S:=S) (own:=own++[aC ds]) (x:=x) (a:=a2) (l:=l2) hb;have s2:=H.sp2 (cl:=P.cls) (S:=S) (own:=own++[aC ds]) (x:=x) (a:=a2) (l:=l2) hs;have t2:=H.sp2 (cl:=P.cls) (S:=S) (own:=own++[aC ds]) (x:=x) (a:=a2) (l:=l2) ht;have t1:=H.sp1 (cl:=P.cls) (S:=S) (own:=own++[aC ds]) (x:=x) (a:=a2) (l:=l2) ht;have ln:=len_run (x:=t.text) (by omega) (af S (own++[aC ds]) x a2 l2);have sl:=iE (x:=x.text) (p:=s.place) (q:=t.place+t.text.length) rfl (by omega) (by have:=hx.len;omega) (af S (own++[aC ds]) x a2 l2);have bt:=qU (S:=S) (own:=own) (x:=x) (a:=a2) (l:=l2) (ds:=ds) (more:=[]);have hf:=fun Q d=>vQ (S:=S) (own:=own) (more:=[aC ds]) (x:=x) (a:=a) (l:=l) (b:=a2) (m:=l2) (X:=X) (Q:=Q) (d:=d) hD;have eh:x.Eh a a2=glue ((x.text.cps.toList.drop s.place).take (t.place+t.text.length-s.place)):=by unfold aB.Eh aB.cut aB.fF aB.txt;rw[hs,ht]
   show W nX _ _;have e9:((t.place+t.text.length:Nat):Int)=((t.place:Int)+(t.text.length:Int)):=by omega
   rw[e9]at sl;simp -dsimp[q0,q4,q5,e0,i1,i2,s2,t2,t1,ln,sl,bt,hf];rw[←eh];exact h
end
abbrev yh:=Bool->Nat->Int->Rs (List PyData×List Str)
def nv(p:List PyData×List Str):PyData:=.tuple [.tuple p.1,aM p.2]
def sF(rw:yh)(x:aB)(a:Nat)(l:Int):Rs PyData:=match rw true (x.iz a l).2.1 (x.iz a l).2.2 with
 | .ok p a' l'=>if x.sort a'="finish" then .ok (.tuple [.str "block",(x.iz a l).1,.tuple p.1,aM p.2]) (a'+1) (x.aR a' l')else .no (x.fF a')
 | .no p=>.no p
 | .out=>.out
def pU(rw:yh)(x:aB)(w:Bool)(a:Nat)(l:Int):Rs PyData:=
 if(x.sort a == "begin" && x.qZ a l)=true then sF rw x a l
 else if x.oF=false then(if x.sort a="end" then .ok (.tuple [.str "end"]) (a+1) (x.aR a l)else .no (x.fF a))
 else if(decide (x.aR a l=l) && (!x.gv false a && !(w && x.sort a == "finish")))=true then .no (x.fF a)else .ok (.tuple [.str "line"]) a l
def Yb(z:Int):Int:=if z > 0 then z else 0
def aB.kept(x:aB)(ah:List Str)(t:Str):PyData:=if(ah.any fun z=>z == x.leaving)=true then .str t else .none
def aB.vX(x:aB)(a:Nat)(l:Int):List Str×Nat×Int:=x.ahead (x.fP a l).2.1 (x.fP a l).2.2
def xn(x:aB)(line first:Int)(ah:List Str)(h:List PyData×Str)(e:PyData)(a:Nat)(l:Int):PyData:=.tuple [.int (Yb (first-line-1)),aM ah,.tuple h.1,x.kept ah h.2,e,(x.fP a l).1]
def oN(th:Nat->Int->Rs PyData)(rw:yh)(x:aB)(w:Bool):Nat->List PyData->Int->Int->List Str->Nat->Int->Rs (List PyData×List Str)
 | 0,_,_,_,_,_,_=>.out
 |n+1,acc,line,first,ah,a,l=>
  if(x.sort a == "" ||x.sort a == "finish")=true then .ok (acc,ah) a l
  else if(x.oF && (!acc.isEmpty && decide (x.aR a l=line)))=true then .no (x.fF a)
  else match vU th x a l with
   | .ok h a1 l1=>(match pU rw x w a1 l1 with
     | .ok e a2 l2=>oN th rw x w n (acc++[xn x line first ah h e a2 l2]) (x.fP a2 l2).2.2 (x.aR (x.fP a2 l2).2.1 (x.fP a2 l2).2.2) (x.vX a2 l2).1 (x.vX a2 l2).2.1 (x.vX a2 l2).2.2
     | .no p=>.no p
     | .out=>.out)
   | .no p=>.no p
   | .out=>.out
def oO(x:aB)(N:Nat):Nat->yh
 | 0,_,_,_=>.out
 |m+1,w,a,l=>oN (dW x N) (oO x N m) x w (x.aj.length+1) [] l (x.aR a l) (x.ahead a l).1 (x.ahead a l).2.1 (x.ahead a l).2.2
def Ei(P:bU)(F:Nat->Nat)(x:aB)(k:Nat)(rw:yh):Prop:=∀ (S own:aa) (w:Bool) (a:Nat) (l:Int) (X:XQ) (Q:Val->aa->Prop),aJ (af S own x a l)->mD S own x X Q ((rw w a l).map nv)->W X (aD P k (F 16) [.loc S.length,.d (.bool w)] (af S own x a l)) Q
section
variable {P:bU} {F g:Nat->Nat} (H:cM P F g) {S own:aa} {x:aB} {a:Nat} {l:Int}
include H
theorem Bl{k:Nat}(hk:4<=k){rw_:yh}(hR:Ei P F x (k-1) rw_)(hx:uD x){X:XQ}{Q:Val->aa->Prop}(hD:aJ (af S own x a l))(hs:x.sort a="begin")(h:mD S own x X Q (sF rw_ x a l)):W X (aD P k (F 14) [.loc S.length] (af S own x a l)) Q:=by
 refine W.aD H.LJ rfl (by omega) ?_;show W nX (aF (P.env (k-1)) (yO F g) [some (.loc S.length),none,none,none] (af S own x a l)) (aO false _ X _);have ha:a<x.aj.length:=gH (by rw[hs];decide +kernel);have hm:=hx.many;have m3:=fun a l=>H.m3 (S:=S) (own:=own) (x:=x) (a:=a) (l:=l);have m5:=fun a l=>H.m5 (S:=S) (own:=own) (x:=x) (a:=a) (l:=l);have m6:=fun a l=>H.m6 (S:=S) (own:=own) (x:=x) (a:=a) (l:=l);have m8:=fun a l=>H.m8 (S:=S) (own:=own) (x:=x) (a:=a) (l:=l);have Cj:=fun a l=>H.Cj (S:=S) (own:=own) (x:=x) (a:=a) (l:=l);have t3:=fun a l=>gG H (k:=k-1) (by omega) (S:=S) (own:=own) (x:=x) (a:=a) (l:=l);have t6:=iF H (k:=k-1) (by omega) (S:=S) (own:=own) (x:=x) (a:=a) (l:=l) ha (by omega);have t8:=vP H (k:=k-1) (by omega) (S:=S) (own:=own) (x:=x) (a:=a+1) (l:=x.aR a l) (by omega);have t8:aD P (k-1) (F 8) [.loc S.length] (af S own x (a+1) (x.aR a l))= .ok (.d (x.iz a l).1) (af S own x (x.iz a l).2.1 (x.iz a l).2.2):=t8;unfold yO;simp -dsimp[m6,t6,m8,t8,Cj];refine hR _ _ _ _ _ _ _ (gA hD) ?_;unfold sF at h;cases hr:rw_ true (x.iz a l).2.1 (x.iz a l).2.2 with
 |out=>rw[hr]at h;exact h
 |no p=>rw[hr]at h;intro a' l';rw[dJ];simp -dsimp;rw[oJ hD];exact h _ _
 |ok p a' l'=>
  rw[hr]at h;dsimp only at h;show mD _ _ _ _ _ (.ok (nv p) a' l');rw[mE];unfold nv;by_cases c:x.sort a'="finish"
  ·rw[zah c]at h;have hlt:a'<x.aj.length:=gH (by rw[c];decide +kernel);have t6':=iF H (k:=k-1) (by omega) (S:=S) (own:=own) (x:=x) (a:=a') (l:=l') hlt (by omega);simp -dsimp[m3,t3,c,m6,t6'];rw[oH];exact h
  ·rw[zaj c]at h;simp -dsimp[m3,t3,c,m5];refine fL H (k:=k-1) (by omega) ?_;rw[dJ];simp -dsimp;rw[oJ hD];exact h _ _
theorem Ej{k:Nat}(hk:5<=k){rw_:yh}(hR:Ei P F x (k-2) rw_)(hx:uD x){w:Bool}{X:XQ}{Q:Val->aa->Prop}(hD:aJ (af S own x a l))(h:mD S own x X Q (pU rw_ x w a l)):W X (aD P k (F 15) [.loc S.length,.d (.bool w)] (af S own x a l)) Q:=by
 refine W.aD H.LK rfl (by omega) ?_;show W nX (aF (P.env (k-1)) (yP F g) [some (.loc S.length),some (.d (.bool w)),none] (af S own x a l)) (aO false _ X _);have hm:=hx.many;have h1:=H.at1 (cl:=P.cls) (S:=S) (own:=own) (x:=x) (a:=a) (l:=l);have h6:=H.LZ (cl:=P.cls) (S:=S) (own:=own) (x:=x) (a:=a) (l:=l);have m3:=H.m3 (S:=S) (own:=own) (x:=x) (a:=a) (l:=l);have m4:=H.m4 (S:=S) (own:=own) (x:=x) (a:=a) (l:=l);have m5:=H.m5 (S:=S) (own:=own) (x:=x) (a:=a) (l:=l);have m6:=H.m6 (S:=S) (own:=own) (x:=x) (a:=a) (l:=l);have m7:=H.m7 (S:=S) (own:=own) (x:=x) (a:=a) (l:=l);have jx:=H.jx (S:=S) (own:=own) (x:=x) (a:=a) (l:=l);have TU:=H.TU (S:=S) (own:=own) (x:=x) (a:=a) (l:=l);have t3:=gG H (k:=k-1) (by omega) (S:=S) (own:=own) (x:=x) (a:=a) (l:=l);have t4:=xj H (k:=k-1) (by omega) (S:=S) (own:=own) (x:=x) (a:=a) (l:=l);have t7:=uB H (k:=k-1) (by omega) (S:=S) (own:=own) (x:=x) (a:=a) (l:=l) (b:=false);have t12:=GG H (k:=k-1) (by omega) (S:=S) (own:=own) (x:=x) (a:=a) (l:=l);unfold yP;unfold pU at h;by_cases c1:x.sort a="begin"
 ·rw[c1]at h t3;cases c2:x.qZ a l with
  |true=>
   rw[c2,zah (by decide +kernel)]at h;rw[c2]at t12;simp -dsimp[m3,t3,jx,t12,TU];refine Bl H (k:=k-1) (by omega) hR hx hD c1 ?_;cases hr:sF rw_ x a l with
   |out=>rw[hr]at h;exact h
   |no p=>rw[hr]at h;intro a' l';rw[dJ];simp -dsimp;rw[oJ hD];exact h _ _
   |ok d a' l'=>rw[hr]at h;rw[mE];simp -dsimp;rw[oH];exact h
  |false=>
   have hb:x.oF=true:=by unfold aB.qZ at c2;rw[zbh]at c2;simpa using c2.1
   have hln:x.aR a l≠l:=by unfold aB.qZ at c2;rw[zbh]at c2;simpa using c2.2
   rw[c2,zaj (by simp),zaj (by rw[hb];simp),zaj (by simp[hln])]at h;rw[c2]at t12;rw[hb]at h1;have hfi:("begin" : Str)≠"finish":=by decide +kernel
   cases w <;> simp -dsimp[m3,t3,jx,t12,h1,m4,t4,h6,hln,hfi] <;> exact h
 ·have c1':(x.sort a == "begin")=false:=by simpa using c1
  rw[c1',zaj (by simp)]at h;cases hb:x.oF with
  |false=>
   rw[hb,zah rfl]at h;rw[hb]at h1;by_cases c3:x.sort a="end"
   ·rw[zah c3]at h;have hlt:a<x.aj.length:=gH (by rw[c3];decide +kernel);have t6:=iF H (k:=k-1) (by omega) (S:=S) (own:=own) (x:=x) (a:=a) (l:=l) hlt (by omega);rw[c3]at t3;have c4:("end" : Str)≠"begin":=by decide +kernel
    simp -dsimp[m3,t3,c4,h1,m6,t6];rw[oH];exact h
   ·rw[zaj c3]at h;simp -dsimp[m3,t3,c1,h1,c3,m5];refine fL H (k:=k-1) (by omega) ?_;rw[dJ];simp -dsimp;exact h _ _
  |true=>
   rw[hb,zaj (by simp)]at h;rw[hb]at h1;have rf:mD S own x X Q (.no (x.fF a))->∀ ρ:ae,X (cg (x.fF a)) (af S own x a l):=fun h _=>h _ _;by_cases c5:x.aR a l=l
   ·cases c6:x.gv false a with
    |true=>rw[c6,zaj (by simp)]at h;rw[c6]at t7;cases w <;> simp -dsimp[m3,t3,c1,h1,m4,t4,h6,c5,m7,t7] <;> exact h
    |false=>
     rw[c6]at t7;rw[c6]at h;cases w with
     |false=>rw[zah (by simp[c5])]at h;simp -dsimp[m3,t3,c1,h1,m4,t4,h6,c5,m7,t7,m5];refine fL H (k:=k-1) (by omega) ?_;rw[dJ];simp -dsimp;exact h _ _
     |true=>
      by_cases c7:x.sort a="finish"
      ·rw[zaj (by simp[c7])]at h;rw[c7]at t3;have c8:("finish" : Str)≠"begin":=by decide +kernel
       simp -dsimp[m3,t3,c8,h1,m4,t4,h6,c5,m7,t7,m5];exact h
      ·rw[zah (by simp[c5,c7])]at h;have c8:(x.sort a == "finish")=false:=by simpa using c7
       simp -dsimp[m3,t3,c1,h1,m4,t4,h6,c5,m7,t7,m5,c7,c8];refine fL H (k:=k-1) (by omega) ?_;rw[dJ];simp -dsimp;exact h _ _
   ·rw[zaj (by simp[c5])]at h;cases w <;> simp -dsimp[m3,t3,c1,h1,m4,t4,h6,c5] <;> exact h
end
def Kr(F g:Nat->Nat):Ss:=(.cons (.asg (.name 9) (.av "Reader" "read_ending" (.var 0) (.cons (.var 1) .nil))) (.cons (.expr (.me .append (.var 2) (.cons (.tup (.cons (.bi .max2 (.cons (.cst (.int 0)) (.cons (.bin .sub (.bin .sub (.var 4) (.var 3)) (.cst (.int 1))) .nil))) (.cons (.var 5) (.cons (.var 6) (.cons (.var 8) (.cons (.var 9) (.cons (.av "Reader" "remark_behind" (.var 0) .nil) .nil))))))) .nil))) (.cons (.par 3 4 (.fld (.var 0) "last_line") (.av "Reader" "next_line" (.var 0) .nil)) (.cons (.asg (.name 5) (.av "Reader" "remarks_ahead" (.var 0) .nil)) .nil))))
def Ub(F g:Nat->Nat):Ss:=.cons (.asg (.tup (.cons (.name 6) (.cons (.name 7) .nil))) (.av "Reader" "read_head" (.var 0) .nil)) (.cons (.asg (.name 8) (.ite (.cmp .isin (.fld (.var 0) "leaving") (.var 5)) (.var 7) (.cst .none))) (Kr F g))
abbrev Uc:E:=(.and (.cons (.fld (.var 0) "by_lines") (.cons (.cmp .gt (.bi .len (.cons (.var 2) .nil)) (.cst (.int 0))) (.cons (.cmp .eq (.av "Reader" "next_line" (.var 0) .nil) (.var 3)) .nil))))
def Ud(F g:Nat->Nat):Ss:=.cons (.ite Uc (.cons (.expr (.av "Reader" "refuse" (.var 0) .nil)) .nil) .nil) (Ub F g)
theorem Ks(F g:Nat->Nat):yQ F g= .cons (.jP 2 3 4 (.lst true .nil) (.fld (.var 0) "last_line") (.av "Reader" "next_line" (.var 0) .nil)) (.cons (.asg (.name 5) (.av "Reader" "remarks_ahead" (.var 0) .nil)) (.cons (.cX (.cmp .oZ (.av "Reader" "next_sort" (.var 0) .nil) (.tup (.cons (.cst (.str "")) (.cons (.cst (.str "finish")) .nil)))) (Ud F g)) (.cons (.ret (.tup (.cons (.bi .tuple (.cons (.var 2) .nil)) (.cons (.var 5) .nil)))) .nil))):=rfl
section
variable {P:bU} {F g:Nat->Nat} (H:cM P F g) {S own:aa} {x:aB} {a:Nat} {l:Int}
include H
theorem Ku{k N:Nat}(hk:2 * N+7<=k){rw_:yh}(hR:Ei P F x (k-3) rw_)(hx:uD x){w:Bool}{X:XQ}{Q:Val->aa->Prop}(hD:aJ (af S own x a l))(h:mD S own x X Q ((oN (dW x N) rw_ x w (x.aj.length+1) [] l (x.aR a l) (x.ahead a l).1 (x.ahead a l).2.1 (x.ahead a l).2.2).map nv)):W X (aD P k (F 16) [.loc S.length,.d (.bool w)] (af S own x a l)) Q:=by
 refine W.aD H.LL rfl (by omega) ?_;show W nX (aF (P.env (k-1)) (yQ F g) [some (.loc S.length),some (.d (.bool w)),none,none,none,none,none,none,none,none] (af S own x a l)) (aO false _ X _);have hm:=hx.many;have mk:=Ed (S:=S) (own:=own) (x:=x) (a:=a) (l:=l) (ds:=[]) (za1 _);have mk:aU true [] (af S own x a l)= .ok (.loc (dB S own x)) (af S (own++[aC []]) x a l):=mk;have hDs:∀ (acc:List PyData) a l,aJ (af S (own++[aC acc]) x a l):=fun acc a l=>oG (gA hD) (lN acc);have h6:=fun (acc:List PyData) a l=>H.LZ (cl:=P.cls) (S:=S) (own:=own++[aC acc]) (x:=x) (a:=a) (l:=l);have h1:=fun (acc:List PyData) a l=>H.at1 (cl:=P.cls) (S:=S) (own:=own++[aC acc]) (x:=x) (a:=a) (l:=l);have h2:=fun (acc:List PyData) a l=>H.at2 (cl:=P.cls) (S:=S) (own:=own++[aC acc]) (x:=x) (a:=a) (l:=l);have m3:=fun (acc:List PyData) a l=>H.m3 (S:=S) (own:=own++[aC acc]) (x:=x) (a:=a) (l:=l);have m4:=fun (acc:List PyData) a l=>H.m4 (S:=S) (own:=own++[aC acc]) (x:=x) (a:=a) (l:=l);have m5:=fun (acc:List PyData) a l=>H.m5 (S:=S) (own:=own++[aC acc]) (x:=x) (a:=a) (l:=l);have m8:=fun (acc:List PyData) a l=>H.m8 (S:=S) (own:=own++[aC acc]) (x:=x) (a:=a) (l:=l);have m9:=fun (acc:List PyData) a l=>H.m9 (S:=S) (own:=own++[aC acc]) (x:=x) (a:=a) (l:=l);have FZ:=fun (acc:List PyData) a l=>H.FZ (S:=S) (own:=own++[aC acc]) (x:=x) (a:=a) (l:=l);have TV:=fun (acc:List PyData) a l=>H.TV (S:=S) (own:=own++[aC acc]) (x:=x) (a:=a) (l:=l);have t3:=fun (acc:List PyData) a l=>gG H (k:=k-1) (by omega) (S:=S) (own:=own++[aC acc]) (x:=x) (a:=a) (l:=l);have t4:=fun (acc:List PyData) a l=>xj H (k:=k-1) (by omega) (S:=S) (own:=own++[aC acc]) (x:=x) (a:=a) (l:=l);have t8:=fun (acc:List PyData) a l=>vP H (k:=k-1) (by omega) (S:=S) (own:=own++[aC acc]) (x:=x) (a:=a) (l:=l) (by omega);have t9:=fun (acc:List PyData) a l=>uC H (k:=k-1) (by omega) (hDs acc a l) (by omega);have m4':=H.m4 (S:=S) (own:=own++[aC []]) (x:=x) (a:=a) (l:=l);rw[Ks];simp -dsimp[mk,h6,m4,t4,m9,t9];obtain⟨I,hI⟩:∃ I:Nat->ae->aa->Prop,∀ j ρ s,I j ρ s↔∃ (acc:List PyData) (line first:Int) (ah:List Str) (b:Nat) (m:Int) (v6 v7 v8 v9:Option Val),ρ=[some (.loc S.length),some (.d (.bool w)),some (.loc (dB S own x)),some (.d (.int line)),some (.d (.int first)),some (.d (aM ah)),v6,v7,v8,v9]/\s=af S (own++[aC acc]) x b m/\acc.length+j<=500000/\mD S own x X Q ((oN (dW x N) rw_ x w j acc line first ah b m).map nv):=⟨_,fun _ _ _=>zbU⟩;refine jV I (x.aj.length+1) (by omega) ((hI _ _ _).mpr ⟨[],_,_,_,_,_,_,_,_,_,rfl,rfl,by simp;omega,h⟩) (fun j ρ s hIj=>?_);clear h;obtain⟨acc,line,first,ah,b,m,v6,v7,v8,v9,rfl,rfl,ha,h⟩:=(hI _ _ _).mp hIj;have it:=kh (x.sort b) ["","finish"] (af S (own++[aC acc]) x b m);have it:gq (.d (.str (x.sort b))) (.d (.tuple [.str "",.str "finish"])) (af S (own++[aC acc]) x b m)=some (x.sort b == "" ||x.sort b == "finish"):=by rw[show PyData.tuple [.str "",.str "finish"]= .tuple ((["","finish"]:List Str).map PyData.str)from rfl,it];simp[Bool.beq_comm]
 have lnF:cJ .len [.loc (dB S own x)] (af S (own++[aC acc]) x b m)=some (.d (.int (acc.length:Nat)),af S (own++[aC acc]) x b m):=by have:=w6 (S:=af S (own++[aC acc]) x b m) (n:=dB S own x) (vs:=acc.map Val.d) (by rw[vR];rfl);rw[zaw]at this;exact this
 cases j with
 |zero=>exact h.elim
 |succ j=>
  rw[oN]at h;cases c0:(x.sort b == "" ||x.sort b == "finish")with
  |true=>rw[c0,zah rfl]at h;rw[c0]at it;have bt:=qU (S:=S) (own:=own) (x:=x) (a:=b) (l:=m) (ds:=acc) (more:=[]);have hf:=fun Q d=>vQ (S:=S) (own:=own) (more:=[aC acc]) (x:=x) (a:=a) (l:=l) (b:=b) (m:=m) (X:=X) (Q:=Q) (d:=d) hD;simp -dsimp[m3,t3,it,bt,hf];exact h
  |false=>
   rw[c0,zaj (by simp)]at h;rw[c0]at it;simp -dsimp[m3,t3,it];unfold Ud;have hc:ev (P.env (k-1)) Uc [some (.loc S.length),some (.d (.bool w)),some (.loc (dB S own x)),some (.d (.int line)),some (.d (.int first)),some (.d (aM ah)),v6,v7,v8,v9] (af S (own++[aC acc]) x b m)= .ok (.d (.bool (x.oF && (!acc.isEmpty && decide (x.aR b m=line))))) (af S (own++[aC acc]) x b m):=by
    refine W.fZ ?_;cases hb:x.oF with
    |false=>rw[hb]at h1;simp -dsimp[h1]
    |true=>
     rw[hb]at h1;cases acc with
     |nil=>simp -dsimp[h1,lnF]
     |cons d r=>
      have:(0:Int)<((d::r).length:Nat):=by rw[zaf];omega
      by_cases c:x.aR b m=line
      ·simp -dsimp[h1,lnF,this,m4,t4,c]
      ·simp -dsimp[h1,lnF,this,m4,t4,c]
   rw[VX,Ou];refine W.eq hc ?_;cases c1:(x.oF && (!acc.isEmpty && decide (x.aR b m=line)))with
   |true=>rw[c1,zah rfl]at h;simp -dsimp[m5];refine fL H (k:=k-1) (by omega) ?_;rw[dJ];simp -dsimp;rw[kX hD];exact h _ _
   |false=>
    rw[c1,zaj (by simp)]at h;unfold Ub;simp -dsimp[FZ];refine Kq H hx (n:=N) (by omega) (hDs _ _ _) ?_;cases hr:vU (dW x N) x b m with
    |out=>rw[hr]at h;exact h
    |no p=>rw[hr]at h;intro a' l';rw[dJ];simp -dsimp;rw[kX hD];exact h _ _
    |ok hh a1 l1=>
     rw[hr]at h;dsimp only at h;show mD _ _ _ _ _ (.ok (Ua hh) a1 l1);rw[mE];unfold Ua;have ik:gq (.d (.str x.leaving)) (.d (aM ah)) (af S (own++[aC acc]) x a1 l1)=some (ah.any fun z=>z == x.leaving):=kh x.leaving ah _;have hend:∀ (v8:PyData),v8=x.kept ah hh.2->W nX (aF (P.env (k-1)) (Kr F g) [some (.loc S.length),some (.d (.bool w)),some (.loc (dB S own x)),some (.d (.int line)),some (.d (.int first)),some (.d (aM ah)),some (.d (.tuple hh.1)),some (.d (.str hh.2)),some (.d v8),v9] (af S (own++[aC acc]) x a1 l1)) (iD (fun ρ' s'=>∃ k',k'<j+1/\I k' ρ' s') (fun fl s1=>W nX (sC (P.env (k-1)) (.cons (.ret (.tup (.cons (.bi .tuple (.cons (.var 2) .nil)) (.cons (.var 5) .nil)))) .nil) fl s1) (aO false (af S own x a l) X Q))):=fun v8 hv8=>by
      unfold Kr;simp -dsimp[TV];refine Ej H (k:=k-1) (by omega) (by rw[show k-1-2=k-3 by omega];exact hR) hx (hDs _ _ _) ?_;cases hr2:pU rw_ x w a1 l1 with
      |out=>rw[hr2]at h;exact h
      |no p=>rw[hr2]at h;intro a' l';rw[dJ];simp -dsimp;rw[kX hD];exact h _ _
      |ok e a2 l2=>rw[hr2]at h;dsimp only at h;rw[mE];have mx:cJ .max2 [.d (.int 0),.d (.int (first-line-1))] (af S (own++[aC acc]) x a2 l2)=some (.d (.int (Yb (first-line-1))),af S (own++[aC acc]) x a2 l2):=rfl;have rv:∀ a l,(recv .append (af S (own++[aC acc]) x a l) (.loc (dB S own x))=true)=True:=fun a l=>oK (more:=[]);have ap:=qV (S:=S) (own:=own) (x:=x) (a:=(x.fP a2 l2).2.1) (l:=(x.fP a2 l2).2.2) (ds:=acc) (more:=[]) (d:=xn x line first ah hh e a2 l2) (by omega);have t9':aD P (k-1) (F 9) [.loc S.length] (af S (own++[aC (acc++[xn x line first ah hh e a2 l2])]) x (x.fP a2 l2).2.1 (x.fP a2 l2).2.2)= .ok (.d (aM (x.vX a2 l2).1)) (af S (own++[aC (acc++[xn x line first ah hh e a2 l2])]) x (x.vX a2 l2).2.1 (x.vX a2 l2).2.2):=t9 _ _ _;have fin:=(hI j [some (.loc S.length),some (.d (.bool w)),some (.loc (dB S own x)),some (.d (.int (x.fP a2 l2).2.2)),some (.d (.int (x.aR (x.fP a2 l2).2.1 (x.fP a2 l2).2.2))),some (.d (aM (x.vX a2 l2).1)),some (.d (.tuple hh.1)),some (.d (.str hh.2)),some (.d v8),some (.d e)] (af S (own++[aC (acc++[xn x line first ah hh e a2 l2])]) x (x.vX a2 l2).2.1 (x.vX a2 l2).2.2)).mpr ⟨_,_,_,_,_,_,_,_,_,_,rfl,rfl,by rw[zav];simp;omega,h⟩;unfold xn at ap t9' fin;rw[←hv8]at ap t9' fin;simp -dsimp[mx,m8,t8,rv,ap,h6,m4,t4,m9,t9'];exact⟨j,by omega,fin⟩
     unfold aB.kept at hend;cases ck:(ah.any fun z=>z == x.leaving)with
     |true=>rw[ck]at ik hend;simp -dsimp[h2,ik];exact hend _ rfl
     |false=>rw[ck]at ik hend;simp -dsimp[h2,ik];exact hend _ rfl
theorem all_rows(hx:uD x){N:Nat}:∀ (m:Nat) {k:Nat},3 * m+2 * N+7<=k->Ei P F x k (oO x N m)
 | 0,k,hk=>fun S own w a l X Q hD h=>h.elim
 |m+1,k,hk=>fun S own w a l X Q hD h=>Ku H (N:=N) (by omega) (all_rows hx m (by omega)) hx hD h
end
def jF(s:List Nat):Nat:=s.count 10
theorem Cq:∀ s:List Nat,cnt 10 s=(jF s:Nat)
 | []=>rfl
 |c::s=>by
  rw[cnt_cons,Cq s];unfold jF;rw[zcd];by_cases h:c=10
  ·rw[zah h,zah (by simpa using h)];push_cast;omega
  ·rw[zaj h,zaj (by simpa using h)];push_cast;omega
abbrev vY:=Str×Str×Nat
def jZ(q:vY):PyData:=lu q.1 q.2.1 q.2.2
def cB(x:Str)(seen p:Nat):Nat:=jF ((x.cps.toList.drop seen).take (p-seen))
def gM(x:Str):Nat->Nat->Bool->List vY->List dI
 |_,_,_,[]=>[]
 |line,seen,fst,(z,t,p)::r=>⟨z,t,p,line+cB x seen p,decide (0<cB x seen p) ||fst⟩::gM x (line+cB x seen p) p false r
def spS(S:aa)(fs:List (Str×Val)):aa:=S++[.obj "Spot" fs]
section
variable {P:bU} {F g:Nat->Nat} (H:cM P F g)
include H
theorem GP{k:Nat}(hk:1<=k)(s:dI)(S:aa):aD P k (F 0) [.loc S.length,.d (.str s.sort),.d (.str s.text),.d (.int (s.place:Nat)),.d (.int (s.line:Nat)),.d (.bool s.mw)] (S++[.obj "Spot" []])= .ok (.d .none) (S++[iO s]):=by
 refine W.kF (W.aD H.f0 rfl hk ?_);show W nX (aF (P.env (k-1)) (DJ F g) [some (.loc S.length),some (.d (.str s.sort)),some (.d (.str s.text)),some (.d (.int (s.place:Nat))),some (.d (.int (s.line:Nat))),some (.d (.bool s.mw))] (spS S [])) (aO true _ nX _);have st:∀ (f:Str) (v:Val) (fs:List (Str×Val)),TR.contains f=true->fs.length<1000->bF P.obs f (.loc S.length) v (spS S fs)=some (spS S (nD f v fs)):=fun f v fs h1 h2=>by unfold spS;rw[mZ (fs:=fs) (by simp) H.oc h1 h2];simp
 have e1:=st "spot_sort" (.d (.str s.sort)) [] rfl (by simp);have e2:=st "spot_text" (.d (.str s.text)) [("spot_sort",.d (.str s.sort))] rfl (by simp);have e3:=st "spot_place" (.d (.int (s.place:Nat))) [("spot_sort",.d (.str s.sort)),("spot_text",.d (.str s.text))] rfl (by simp);have e4:=st "spot_line" (.d (.int (s.line:Nat))) [("spot_sort",.d (.str s.sort)),("spot_text",.d (.str s.text)),("spot_place",.d (.int (s.place:Nat)))] rfl (by simp);have e5:=st "begins" (.d (.bool s.mw)) [("spot_sort",.d (.str s.sort)),("spot_text",.d (.str s.text)),("spot_place",.d (.int (s.place:Nat))),("spot_line",.d (.int (s.line:Nat)))] rfl (by simp);change bF P.obs "spot_sort" _ _ _=some (spS S [("spot_sort",.d (.str s.sort))])at e1;change bF P.obs "spot_text" _ _ _=some (spS S [("spot_sort",.d (.str s.sort)),("spot_text",.d (.str s.text))])at e2;change bF P.obs "spot_place" _ _ _=some (spS S [("spot_sort",.d (.str s.sort)),("spot_text",.d (.str s.text)),("spot_place",.d (.int (s.place:Nat)))])at e3;change bF P.obs "spot_line" _ _ _=some (spS S [("spot_sort",.d (.str s.sort)),("spot_text",.d (.str s.text)),("spot_place",.d (.int (s.place:Nat))),("spot_line",.d (.int (s.line:Nat)))])at e4;change bF P.obs "begins" _ _ _=some (S++[iO s])at e5;have hf:∀ ρ Q s',aO true (S++[.obj "Spot" []]) nX Q (.next ρ) s'=Q (.d .none) s':=fun ρ Q s'=>by show (∃ s2,aK true (S++[.obj "Spot" []]) true s'=some s2/\Q (.d .none) s2)=_;unfold aK;simp
 unfold DJ;generalize spS S [("spot_sort",.d (.str s.sort)),("spot_text",.d (.str s.text)),("spot_place",.d (.int (s.place:Nat))),("spot_line",.d (.int (s.line:Nat)))]=T4 at *
 generalize spS S [("spot_sort",.d (.str s.sort)),("spot_text",.d (.str s.text)),("spot_place",.d (.int (s.place:Nat)))]=T3 at *
 generalize spS S [("spot_sort",.d (.str s.sort)),("spot_text",.d (.str s.text))]=T2 at *
 generalize spS S [("spot_sort",.d (.str s.sort))]=T1 at *
 generalize spS S []=T0 at *
 generalize S++[iO s]=T5 at *
 simp -dsimp[e1,e2,e3,e4,e5,hf]
def fG(T:aa)(done:List dI):aa:=T++.lst (cQ (T.length+1) done.length)::done.map iO
theorem GU{k:Nat}(hk:2<=k){x:Str}(hz:x.length<=900000){tl:List vY}(hp:∀ q∈tl,q.2.2<=x.length)(hl:tl.length<=900000)(T:aa):aD P k (F 1) [.d (.str x),.d (.list (tl.map jZ))] T= .ok (.loc T.length) (fG T (gM x 0 0 true tl)):=by
 refine W.kF (W.aD H.f1 rfl (by omega) ?_);show W nX (aF (P.env (k-1)) (DK F g) [some (.d (.str x)),some (.d (.list (tl.map jZ))),none,none,none,none,none,none,none] T) (aO true _ nX _);have mk:aU true [] T= .ok (.loc T.length) (fG T []):=sr _ _ (by simp);have nm:cD P.obs "Spot" "__init__" = some (F 0):=by unfold cD;rw[H.oc];rfl
 have e0:(P.env (k-1)).obs=P.obs:=rfl;unfold DK;generalize hds:tl.map jZ=ds;simp -dsimp[mk];obtain⟨I,hI⟩:∃ I:Nat->ae->aa->Prop,∀ i ρ s,I i ρ s↔∃ (done:List dI) (line seen:Nat) (v5 v6 v7 v8:Option Val),ρ=[some (.d (.str x)),some (.d (.list ds)),some (.loc T.length),some (.d (.int (line:Nat))),some (.d (.int (seen:Nat))),v5,v6,v7,v8]/\s=fG T done/\done.length=i/\seen<=x.length/\done++gM x line seen (i == 0) (tl.drop i)=gM x 0 0 true tl:=⟨_,fun _ _ _=>zbU⟩;refine AB (xs:=ds) I ((hI _ _ _).mpr ⟨[],0,0,_,_,_,_,rfl,rfl,rfl,za1 _,rfl⟩) (fun i d ρ s hd hIi=>?_) (fun ρ s hIn=>?_)
 ·obtain⟨done,line,seen,v5,v6,v7,v8,rfl,rfl,h3,h4,h5⟩:=(hI _ _ _).mp hIi;rw[←hds,zat]at hd;obtain⟨⟨z,t,p⟩,hq,rfl⟩:=zaG.mp hd;have hi:i<tl.length:=(zak.mp hq).1;have ed:tl.drop i=(z,t,p)::tl.drop (i+1):=by
   rw[za4 hi];rw[(zak.mp hq).2]
  have hpp:p<=x.length:=hp _ (zag hq);rw[ed,gM]at h5;have sl:=iE (x:=x) (p:=seen) (q:=p) rfl h4 (by omega) (fG T done);have ct:bO .count (.d (.str (glue ((x.cps.toList.drop seen).take (p-seen))))) [.d (.str "\n")] (fG T done)=some (.d (.int (cB x seen p:Nat)),fG T done):=by show dat _ (.int (Txt.count _ "\n"))=_;have:Txt.count (glue ((x.cps.toList.drop seen).take (p-seen))) "\n" = cnt 10 (glue ((x.cps.toList.drop seen).take (p-seen))).cps.toList:=count_is _ 10;rw[this,Cq];rfl
  have hc:(fG T done)[T.length]?=some (.lst (cQ (T.length+1) done.length)):=by unfold fG;simp
  have ln:cJ .len [.loc T.length] (fG T done)=some (.d (.int (done.length:Nat)),fG T done):=by have:=w6 hc;rw[ni]at this;exact this
  have hlen:(fG T done).length=T.length+1+done.length:=by unfold fG;simp;omega
  have ini:∀ (b:Bool),(decide (0<cB x seen p) ||(i == 0))=b->aD P (k-1) (F 0) [.loc (fG T done).length,.d (.str z),.d (.str t),.d (.int (p:Nat)),.d (.int ((line:Int)+(cB x seen p:Nat))),.d (.bool b)] (fG T done++[.obj "Spot" []])= .ok (.d .none) (fG T done++[iO ⟨z,t,p,line+cB x seen p,b⟩]):=fun b _=>by
   have:=GP H (k:=k-1) (by omega) ⟨z,t,p,line+cB x seen p,b⟩ (fG T done);rw[←this];have e:((line+cB x seen p:Nat):Int)=(line:Int)+(cB x seen p:Nat):=by push_cast;rfl
   rw[←e]
  have ap:∀ sp:dI,bO .append (.loc T.length) [.loc (fG T done).length] (fG T done++[iO sp])=some (.d .none,fG T (done++[sp])):=fun sp=>by
   have hc2:(fG T done++[iO sp])[T.length]?=some (.lst (cQ (T.length+1) done.length)):=by unfold fG;simp
   rw[Au _ hc2 (by rw[ni,zap];omega)];have e:(fG T done++[iO sp]).set T.length (.lst (cQ (T.length+1) done.length++[.loc (fG T done).length]))=fG T (done++[sp]):=by rw[hlen];unfold fG;simp[cQ,List.range_succ]
   rw[e]
  have rv:(recv .append (fG T done) (.loc T.length)=true)=True:=eq_true (uo hc);have fin:∀ (b:Bool),(decide (0<cB x seen p) ||(i == 0))=b->I (i+1) [some (.d (.str x)),some (.d (.list ds)),some (.loc T.length),some (.d (.int ((line:Int)+(cB x seen p:Nat)))),some (.d (.int (p:Nat))),some (.d (.str z)),some (.d (.str t)),some (.d (.int (p:Nat))),some (.d (.int (cB x seen p:Nat)))] (fG T (done++[⟨z,t,p,line+cB x seen p,b⟩])):=fun b hb=>(hI _ _ _).mpr ⟨_,line+cB x seen p,p,_,_,_,_,by push_cast;rfl,rfl,by rw[zav,h3];rfl,hpp,by rw[hb]at h5;rw[←h5];simp⟩;unfold jZ lu;have rvc:(recv .count (fG T done) (.d (.str (glue ((x.cps.toList.drop seen).take (p-seen)))))=true)=True:=eq_true rfl;generalize cB x seen p=fd at *
  by_cases c1:0<fd
  ·have c1':(0:Int)<(fd:Nat):=by omega
   have f1:=fin true (by simp[c1]);have i1:=ini true (by simp[c1]);simp -dsimp[sl,ct,nm,rv,rvc,c1,c1',i1,ap];exact f1
  ·have c1' : ¬ (0:Int)<(fd:Nat):=by omega
   by_cases c2:done.length=0
   ·have f1:=fin true (by simp[c1];omega);have i1:=ini true (by simp[c1];omega);simp -dsimp[sl,ct,nm,rv,rvc,c1,c1',ln,c2,i1,ap];exact f1
   ·have f1:=fin false (by simp[c1];omega);have i1:=ini false (by simp[c1];omega);have c3:((done.length:Int) == 0)=false:=by simp;exact fun e=>c2 (by rw[e];rfl)
    simp -dsimp[sl,ct,nm,rv,rvc,c1,c1',ln,c2,c3,i1,ap];exact f1
 ·obtain⟨done,line,seen,v5,v6,v7,v8,rfl,rfl,h3,h4,h5⟩:=(hI _ _ _).mp hIn;have e:done=gM x 0 0 true tl:=by
   rw[←hds,zaw,zbm,gM,zau]at h5;exact h5
  subst e;simp -dsimp
end
def gB:PyData->Str
 | .str r=>r++" leave"
 |_=>"None leave"
theorem OI{S:aa}{x:aB}{a:Nat}{l:Int}(hS:aJ S):aJ (af S [] x a l):=by
 have hlen:=fj (S:=S) (own:=[]) (x:=x) (a:=a) (l:=l);have hL:([]:aa).length=0:=rfl;unfold aJ;rw[hlen,hL];unfold af;rw[List.all_append,zaa];refine⟨hS.ok _ (by omega),?_⟩;rw[zay,zay,zaa,zaa,zau];refine⟨?_,?_,?_⟩
 ·show ((vM S.length x a l).all fun p=>aI _ p.2)=true;unfold vM;simp only[zay,List.all_nil,zbE,zaa];refine⟨rfl,rfl,rfl,rfl,?_,rfl,rfl⟩;show decide _=true;rw[zab];omega
 ·show (cQ (S.length+2) x.aj.length).all (aI _)=true;unfold cQ;rw[zai];intro v hv;obtain⟨i,hi,rfl⟩:=zaz.mp hv;rw[List.mem_range]at hi;show decide _=true;rw[zab];omega
 ·rw[zai];intro c hc;obtain⟨s,_,rfl⟩:=zaz.mp hc;rfl
def j3(G:TG)(oF:Bool)(x:Str)(tl:List vY)(bad:Option Nat):aB:=⟨x,oF,gB G.re,bad.getD x.length,gM x 0 0 true tl⟩
def oR(S:aa)(fs:List (Str×Val))(r:aa):aa:=S++.obj "Reader" fs::r
theorem xo{x y:Str}(h:x.length+y.length<=16777216)(S:aa):nC (.d (.str x)) (.d (.str y)) S=some (.d (.str (x++y)),S):=by show guard' _ _=_;rw[guard_pos (by rw[zap];exact h)];rfl
section
variable {P:bU} {F g F' g':Nat->Nat} (H:cM P F g) (T:kW P F' g') (e5:F 19=F' 5) (e13:F 20=F' 13)
include H
theorem OJ{k:Nat}(hk:1<=k)(nm kd xs ps pa en bl re qu:PyData)(S:aa):aD P k (F 18) [.d (cH nm kd xs ps pa en bl re qu)] S= .ok (.d kd) S:=by refine W.fZ (W.aD H.LO rfl hk ?_);show W nX (aF (P.env (k-1)) (yS F g) [some (.d (cH nm kd xs ps pa en bl re qu))] S) (aO false S nX _);unfold yS cH;have i1:∀ S',cW (.d (.tuple [nm,kd,xs,ps,pa,en,bl,re,qu])) (.d (.int 1)) S'=some (.d kd,S'):=fun S'=>K9 (n:=1) (by simp) S';simp -dsimp[i1]
include T e5 e13
theorem OL{k:Nat}(hk:5<=k)(nm:PyData){kd:Str}{ps:List Str}{pa:Str}{en bl:PyData}(h2:∀ p∈ps,two p)(hl:ps.length<=100)(he:jD en)(hb:D9 bl){xs:List Str}{re qu:PyData}(hre:jD re)(hrl:∀ r,re= .str r->r.length<=1000)(hqu:jD qu){x:Str}(hz:x.length<=900000){tl:List vY}{bad:Option Nat}(ht:dw ⟨xs,dS ps pa en bl,re,qu⟩ x.cps.toList 0=(tl.map jZ,bad))(hp:∀ q∈tl,q.2.2<=x.length)(S:aa):
 aD P k (F 2) [.loc S.length,.d (cH nm (.str kd) (aM xs) (aM ps) (.str pa) en bl re qu),.d (.str x)] (S++[.obj "Reader" []])= .ok (.d .none) (af S [] (j3 ⟨xs,dS ps pa en bl,re,qu⟩ (kd == "lines") x tl bad) 0 (-1)):=by
 refine W.kF (W.aD H.f2 rfl (by omega) ?_);show W nX (aF (P.env (k-1)) (DL F g) [some (.loc S.length),some (.d (cH nm (.str kd) (aM xs) (aM ps) (.str pa) en bl re qu)),some (.d (.str x)),none,none] (oR S [] [])) (aO true _ nX _);have st:∀ (f:Str) (v:Val) (fs:List (Str×Val)) (r:aa),TQ.contains f=true->fs.length<1000->bF P.obs f (.loc S.length) v (oR S fs r)=some (oR S (nD f v fs) r):=fun f v fs r h1 h2=>by unfold oR;rw[mZ (fs:=fs) (by simp) H.ob h1 h2];simp
 have hlen:∀ fs r,(oR S fs r).length=S.length+1+r.length:=fun fs r=>by unfold oR;simp;omega
 generalize hG:(⟨xs,dS ps pa en bl,re,qu⟩:TG)=G at *
 have tk:=fun S'=>Kh T (k:=k-1) (by omega) nm (.str kd) (pa:=pa) h2 hl he hb (xs:=xs) hre hqu (x:=x) hz S';rw[hG,ht,←e13]at tk;have hkd:=fun S'=>OJ H (k:=k-1) (by omega) nm (.str kd) (aM xs) (aM ps) (.str pa) en bl re qu S';have hrm:=fun S'=>yb T (k:=k-1) (by omega) nm (.str kd) (aM xs) (aM ps) (.str pa) en bl re qu S';rw[←e5]at hrm;generalize cH nm (.str kd) (aM xs) (aM ps) (.str pa) en bl re qu=tg at *
 have hln:=fun S'=>len_run (x:=x) (by omega) S';have hlv:∃ rs:Str,(∀ S',cJ .str [.d re] S'=some (.d (.str rs),S'))/\(∀ S',nC (.d (.str rs)) (.d (.str " leave")) S'=some (.d (.str (gB re)),S')):=by
  rcases hre with rfl |⟨r,rfl⟩
  ·exact⟨"None",fun S'=>by rfl,fun S'=>by rfl⟩
  ·refine⟨r,fun S'=>rfl,fun S'=>?_⟩;have:=hrl r rfl;exact xo (by have:(Str.ofString " leave").length=6:=rfl;omega) S'
 obtain⟨rs,lv1,lv2⟩:=hlv;obtain⟨kb,hkb⟩:∃ kb,kb=(kd == "lines"):=⟨_,rfl⟩;rw[←hkb];obtain⟨M,hM⟩:∃ M,M=gM x 0 0 true tl:=⟨_,rfl⟩;have sp:=GU H (k:=k-1) (by omega) (x:=x) hz (tl:=tl) hp (by have:=uz (T:=G) x.cps.toList.length x.cps.toList 0 (zal _);rw[ht,zaw]at this;have hx:x.cps.toList.length=x.length:=rfl;omega) (oR S [("read_from",.d (.str x)),("by_lines",.d (.bool kb)),("leaving",.d (.str (gB re))),("bad_place",.d (.int (bad.getD x.length:Nat)))] []);rw[←hM]at sp;have esp:fG (oR S [("read_from",.d (.str x)),("by_lines",.d (.bool kb)),("leaving",.d (.str (gB re))),("bad_place",.d (.int (bad.getD x.length:Nat)))] []) M=oR S [("read_from",.d (.str x)),("by_lines",.d (.bool kb)),("leaving",.d (.str (gB re))),("bad_place",.d (.int (bad.getD x.length:Nat)))] (.lst (cQ (S.length+2) M.length)::M.map iO):=by unfold fG;rw[hlen];unfold oR;simp
 rw[esp,hlen]at sp;have sp:aD P (k-1) (F 1) [.d (.str x),.d (.list (tl.map jZ))] (oR S [("read_from",.d (.str x)),("by_lines",.d (.bool kb)),("leaving",.d (.str (gB re))),("bad_place",.d (.int (bad.getD x.length:Nat)))] [])= .ok (.loc (S.length+1)) (oR S [("read_from",.d (.str x)),("by_lines",.d (.bool kb)),("leaving",.d (.str (gB re))),("bad_place",.d (.int (bad.getD x.length:Nat)))] (.lst (cQ (S.length+2) M.length)::M.map iO)):=sp;have f0:=st "read_from" (.d (.str x)) [] [] rfl (by simp);have f1:=st "by_lines" (.d (.bool kb)) [("read_from",.d (.str x))] [] rfl (by simp);have f2:=st "leaving" (.d (.str (gB re))) [("read_from",.d (.str x)),("by_lines",.d (.bool kb))] [] rfl (by simp);have f3:=st "bad_place" (.d (.int (bad.getD x.length:Nat))) [("read_from",.d (.str x)),("by_lines",.d (.bool kb)),("leaving",.d (.str (gB re)))] [] rfl (by simp);have f4:=st "spots" (.loc (S.length+1)) [("read_from",.d (.str x)),("by_lines",.d (.bool kb)),("leaving",.d (.str (gB re))),("bad_place",.d (.int (bad.getD x.length:Nat)))] (.lst (cQ (S.length+2) M.length)::M.map iO) rfl (by simp);have f5:=st "at_spot" (.d (.int 0)) [("read_from",.d (.str x)),("by_lines",.d (.bool kb)),("leaving",.d (.str (gB re))),("bad_place",.d (.int (bad.getD x.length:Nat))),("spots",.loc (S.length+1))] (.lst (cQ (S.length+2) M.length)::M.map iO) rfl (by simp);have f6:=st "last_line" (.d (.int (-1))) [("read_from",.d (.str x)),("by_lines",.d (.bool kb)),("leaving",.d (.str (gB re))),("bad_place",.d (.int (bad.getD x.length:Nat))),("spots",.loc (S.length+1)),("at_spot",.d (.int 0))] (.lst (cQ (S.length+2) M.length)::M.map iO) rfl (by simp);change bF P.obs "read_from" _ _ _=some (oR S [("read_from",.d (.str x))] [])at f0;change bF P.obs "by_lines" _ _ _=some (oR S [("read_from",.d (.str x)),("by_lines",.d (.bool kb))] [])at f1;change bF P.obs "leaving" _ _ _=some (oR S [("read_from",.d (.str x)),("by_lines",.d (.bool kb)),("leaving",.d (.str (gB re)))] [])at f2;change bF P.obs "bad_place" _ _ _=some (oR S [("read_from",.d (.str x)),("by_lines",.d (.bool kb)),("leaving",.d (.str (gB re))),("bad_place",.d (.int (bad.getD x.length:Nat)))] [])at f3;change bF P.obs "spots" _ _ _=some (oR S [("read_from",.d (.str x)),("by_lines",.d (.bool kb)),("leaving",.d (.str (gB re))),("bad_place",.d (.int (bad.getD x.length:Nat))),("spots",.loc (S.length+1))] (.lst (cQ (S.length+2) M.length)::M.map iO))at f4;change bF P.obs "at_spot" _ _ _=some (oR S [("read_from",.d (.str x)),("by_lines",.d (.bool kb)),("leaving",.d (.str (gB re))),("bad_place",.d (.int (bad.getD x.length:Nat))),("spots",.loc (S.length+1)),("at_spot",.d (.int 0))] (.lst (cQ (S.length+2) M.length)::M.map iO))at f5;have e7:oR S (nD "last_line" (.d (.int (-1))) [("read_from",.d (.str x)),("by_lines",.d (.bool kb)),("leaving",.d (.str (gB re))),("bad_place",.d (.int (bad.getD x.length:Nat))),("spots",.loc (S.length+1)),("at_spot",.d (.int 0))]) (.lst (cQ (S.length+2) M.length)::M.map iO)=af S [] (j3 G kb x tl bad) 0 (-1):=by
  have q:(j3 G kb x tl bad).aj=M:=hM.symm;have q2:gB G.re=gB re:=by rw[←hG]
  unfold oR af;rw[q,zau];unfold vM j3;rw[q2];rfl
 rw[e7]at f6;have hf:∀ ρ Q s',aO true (S++[.obj "Reader" []]) nX Q (.next ρ) s'=Q (.d .none) s':=fun ρ Q s'=>by show (∃ s2,aK true (S++[.obj "Reader" []]) true s'=some s2/\Q (.d .none) s2)=_;unfold aK;simp
 unfold DL;generalize j3 G kb x tl bad=Xr at *
 have e0:oR S [] []=S++[.obj "Reader" []]:=rfl;generalize af S [] Xr 0 (-1)=T7 at *
 generalize oR S [("read_from",.d (.str x)),("by_lines",.d (.bool kb)),("leaving",.d (.str (gB re))),("bad_place",.d (.int (bad.getD x.length:Nat))),("spots",.loc (S.length+1)),("at_spot",.d (.int 0))] (.lst (cQ (S.length+2) M.length)::M.map iO)=T6 at *
 generalize oR S [("read_from",.d (.str x)),("by_lines",.d (.bool kb)),("leaving",.d (.str (gB re))),("bad_place",.d (.int (bad.getD x.length:Nat))),("spots",.loc (S.length+1))] (.lst (cQ (S.length+2) M.length)::M.map iO)=T5 at *
 generalize oR S [("read_from",.d (.str x)),("by_lines",.d (.bool kb)),("leaving",.d (.str (gB re))),("bad_place",.d (.int (bad.getD x.length:Nat)))] (.lst (cQ (S.length+2) M.length)::M.map iO)=T4' at *
 generalize oR S [("read_from",.d (.str x)),("by_lines",.d (.bool kb)),("leaving",.d (.str (gB re))),("bad_place",.d (.int (bad.getD x.length:Nat)))] []=T4 at *
 generalize oR S [("read_from",.d (.str x)),("by_lines",.d (.bool kb)),("leaving",.d (.str (gB re)))] []=T3 at *
 generalize oR S [("read_from",.d (.str x)),("by_lines",.d (.bool kb))] []=T2 at *
 generalize oR S [("read_from",.d (.str x))] []=T1 at *
 generalize oR S [] []=T0 at *
 generalize tl.map jZ=ds at *
 have g0:=H.g0;have kbc:(kd="lines"/\kb=true)\/(kd≠"lines"/\kb=false):=by
  by_cases c:kd="lines"
  ·exact .inl ⟨c,by rw[hkb,c];rfl⟩
  ·exact .inr ⟨c,by rw[hkb];simpa using c⟩
 rcases kbc with⟨ck,rfl⟩|⟨ck,rfl⟩
 ·cases bad with
  |none=>have hbad:kK (.d (uA none)) (.d .none)=some true:=rfl;simp -dsimp[f0,hkd,ck,f1,hrm,lv1,g0,lv2,f2,tk,hbad,hln];have f3:bF P.obs "bad_place" (.loc S.length) (.d (.int (x.length:Nat))) T3=some T4:=f3;simp -dsimp[f3,sp,f4,f5,f6,hf]
  |some b=>have hbad:kK (.d (uA (some b))) (.d .none)=some false:=rfl;simp -dsimp[f0,hkd,ck,f1,hrm,lv1,g0,lv2,f2,tk,hbad];have f3:bF P.obs "bad_place" (.loc S.length) (.d (.int (b:Nat))) T3=some T4:=f3;unfold uA;simp -dsimp[f3,sp,f4,f5,f6,hf]
 ·have ck2:=hkb.symm;cases bad with
  |none=>have hbad:kK (.d (uA none)) (.d .none)=some true:=rfl;simp -dsimp[f0,hkd,ck2,f1,hrm,lv1,g0,lv2,f2,tk,hbad,hln];have f3:bF P.obs "bad_place" (.loc S.length) (.d (.int (x.length:Nat))) T3=some T4:=f3;simp -dsimp[f3,sp,f4,f5,f6,hf]
  |some b=>have hbad:kK (.d (uA (some b))) (.d .none)=some false:=rfl;simp -dsimp[f0,hkd,ck2,f1,hrm,lv1,g0,lv2,f2,tk,hbad];have f3:bF P.obs "bad_place" (.loc S.length) (.d (.int (b:Nat))) T3=some T4:=f3;unfold uA;simp -dsimp[f3,sp,f4,f5,f6,hf]
def mF(N m:Nat)(x:aB):Rs PyData:=match oO x N m false 0 (-1)with
 | .ok p a l=>if(!(x.sort a == "") ||decide (x.bad<x.text.length))=true then .no (x.fF a)else .ok (nv p) a l
 | .no p=>.no p
 | .out=>.out
def Ue(S:aa)(X:XQ)(Q:Val->aa->Prop):Rs PyData->Prop
 | .ok v _ _=>Q (.d v) S
 | .no p=>X (cg p) S
 | .out=>False
theorem Kv{N m k:Nat}(hk:3 * m+2 * N+9<=k)(nm:PyData){kd:Str}{ps:List Str}{pa:Str}{en bl:PyData}(h2:∀ p∈ps,two p)(hl:ps.length<=100)(he:jD en)(hb:D9 bl){xs:List Str}{re qu:PyData}(hre:jD re)(hrl:∀ r,re= .str r->r.length<=1000)(hqu:jD qu){x:Str}(hz:x.length<=900000){tl:List vY}{bad:Option Nat}(ht:dw ⟨xs,dS ps pa en bl,re,qu⟩ x.cps.toList 0=(tl.map jZ,bad))(hp:∀ q∈tl,q.2.2<=x.length){S:aa}(hS:aJ S)(hX:uD (j3 ⟨xs,dS ps pa en bl,re,qu⟩ (kd == "lines") x tl bad)){X:XQ}{Q:Val->aa->Prop}(h:Ue S X Q (mF N m (j3 ⟨xs,dS ps pa en bl,re,qu⟩ (kd == "lines") x tl bad))):
 W X (aD P k (F 17) [.d (cH nm (.str kd) (aM xs) (aM ps) (.str pa) en bl re qu),.d (.str x)] S) Q:=by
 refine W.aD H.LN rfl (by omega) ?_;show W nX (aF (P.env (k-1)) (yR F g) [some (.d (cH nm (.str kd) (aM xs) (aM ps) (.str pa) en bl re qu)),some (.d (.str x)),none,none] S) (aO false S X Q);have ini:=OL H T e5 e13 (k:=k-1) (by omega) nm (kd:=kd) h2 hl he hb hre hrl hqu hz ht hp S;have hx:(j3 ⟨xs,dS ps pa en bl,re,qu⟩ (kd == "lines") x tl bad).text=x:=rfl;generalize cH nm (.str kd) (aM xs) (aM ps) (.str pa) en bl re qu=tg at *
 generalize j3 ⟨xs,dS ps pa en bl,re,qu⟩ (kd == "lines") x tl bad=R at *
 have nm':cD P.obs "Reader" "__init__" = some (F 2):=H.mn rfl;have Cj:=H.Cj (S:=S) (own:=[]) (x:=R) (a:=0) (l:=-1);have ty:lQ S (.d (.str x)) [.str]=some true:=rfl;unfold yR;simp -dsimp[ty,nm',ini,Cj];have hD:=OI (S:=S) (x:=R) (a:=0) (l:=-1) hS;refine all_rows H hX (N:=N) m (k:=k-1) (by omega) S [] false 0 (-1) _ _ hD ?_;unfold mF at h;have hf:∀ (Q:Val->aa->Prop) d b l,aO false S X Q (.ret (.d d)) (af S [] R b l)=Q (.d d) S:=fun Q d b l=>by unfold af;exact uu
 have he':∀ p ρ b l,aO false S X Q (.exc (cg p) ρ) (af S [] R b l)=X (cg p) S:=fun p ρ b l=>by unfold af;exact tO (t:=S) rfl hS (yd _ _)
 cases hr:oO R N m false 0 (-1)with
 |out=>rw[hr]at h;exact h
 |no p=>rw[hr]at h;intro a l;rw[dJ];simp -dsimp;rw[he'];exact h
 |ok p a l=>
  rw[hr]at h;dsimp only at h;show mD _ _ _ _ _ (.ok (nv p) a l);rw[mE];have m3:=H.m3 (S:=S) (own:=[]) (x:=R) (a:=a) (l:=l);have m5:=H.m5 (S:=S) (own:=[]) (x:=R) (a:=a) (l:=l);have t3:=gG H (k:=k-1) (by omega) (S:=S) (own:=[]) (x:=R) (a:=a) (l:=l);have h3:=H.X3 (cl:=P.cls) (S:=S) (own:=[]) (x:=R) (a:=a) (l:=l);have ln:=len_run (x:=x) (by omega) (af S [] R a l);rw[hx]at h;by_cases c1:R.sort a=""
  ·by_cases c2:R.bad<x.length
   ·rw[zah (by simp[c2])]at h;simp -dsimp[m3,t3,c1,h3,ln,c2,m5];refine fL H (k:=k-1) (by omega) ?_;rw[dJ];simp -dsimp;rw[he'];exact h
   ·rw[zaj (by simp[c1];omega)]at h;simp -dsimp[m3,t3,c1,h3,ln,c2];rw[hf];exact h
  ·rw[zah (by simp[c1])]at h;simp -dsimp[m3,t3,c1,m5];refine fL H (k:=k-1) (by omega) ?_;rw[dJ];simp -dsimp;rw[he'];exact h
end
mutual
inductive Cr where
 |leaf (w t:Str)
 |Yc (o:Str) (fP:Option Str) (ps:Ek) (last:List Str)
inductive AV where
 |nil
 |cons (x:Cr) (r:AV)
inductive Ek where
 |nil
 |cons (ah:List Str) (xs:AV) (sg:Bool) (rem:Option Str) (r:Ek)
end
def Cr.hd:Cr->Str×Str
 | .leaf w t=>(w,t)
 | .Yc o _ _ _=>("group",o)
mutual
def Cr.dp:Cr->Nat
 | .leaf _ _=>0
 | .Yc _ _ ps _=>ps.dp+1
def AV.dp:AV->Nat
 | .nil=>0
 | .cons x r=>max x.dp r.dp
def Ek.dp:Ek->Nat
 | .nil=>0
 | .cons _ xs _ _ r=>max xs.dp r.dp
end
def kY:Int->List dI->Int
 |l,[]=>l
 |_,s::r=>kY (s.line:Nat) r
theorem vZ:∀ (u v:List dI) (l:Int),kY l (u++v)=kY (kY l u) v
 | [],_,_=>rfl
 |s::u,v,_=>vZ u v _
section
end
mutual
inductive Rw where
 |mk (bl:Nat) (ah:List Str) (t:Cr) (ts:AV) (kept:Option Str) (en:En) (fP:Option Str)
inductive En where
 |fin
 |line
 |block (fP:Option Str) (rows:L5) (last:List Str)
inductive L5 where
 |nil
 |cons (r:Rw) (rs:L5)
end
mutual
def Rw.td:Rw->Nat
 | .mk _ _ t ts _ en _=>max (max t.dp ts.dp) en.td
def En.td:En->Nat
 | .block _ rows _=>rows.td
 |_=>0
def L5.td:L5->Nat
 | .nil=>0
 | .cons r rs=>max r.td rs.td
end
end G
namespace G
open PySem PySem.Spec PyProof.Rows Builtin.Str PySem.StrLaws
theorem oQ{c:Nat}(h:bL c=true):c=32\/c=10:=by unfold bL at h;rw[za3,zbA,zbA]at h;exact h
theorem AW{c:Nat}(h:bL c=true):bA c=false:=by rcases oQ h with rfl |rfl <;> decide +kernel
inductive Tok (G:TG):Str->List Nat->Prop
 |word {t:List Nat}:t≠[]->(∀ c∈t,bA c=true)->Tok G "word" t
 |one {c:Nat} {z:Str}:bA c=false->bL c=false->G.re≠.str ⟨#[c]⟩->G.qu≠.str ⟨#[c]⟩->G.sf ⟨#[c]⟩=some z->z≠"remark"->Tok G z [c]
 |sign {t:List Nat}:jg G.xs t=true->Tok G "sign" t
 |oS {c:Nat} {u:List Nat}:G.re= .str ⟨#[c]⟩->bA c=false->bL c=false->10∉u->(c::u).getLast?≠some 32->Tok G "remark" (c::u)
 |quote {c:Nat} {u:List Nat}:G.qu= .str ⟨#[c]⟩->G.re≠.str ⟨#[c]⟩->bA c=false->bL c=false->c∉u->10∉u->Tok G "quote" (c::(u++[c]))
structure nN (G:TG):Prop where
 JU:∀ (u:List Nat) (d:Nat),u≠[]->jg G.xs (u++[d])=true->jg G.xs u=true
 len:∀ u,jg G.xs u=true->1<=u.length/\u.length<=3
 pool:∀ u c,jg G.xs u=true->c∈u->bA c=false/\bL c=false/\G.re≠.str ⟨#[c]⟩/\G.qu≠.str ⟨#[c]⟩/\G.sf ⟨#[c]⟩=none
def ny(G:TG)(t:List Nat)(d:Nat):Bool:=(bA (t.getLast?.getD 0) && bA d) ||jg G.xs (t++[d])
def Behind(G:TG)(z:Str)(t R:List Nat):Prop:=if z="remark" then(∃ k,R=List.replicate k 32)\/∃ k R',R=List.replicate k 32++10::R' else R=[]\/∃ d R',R=d::R'/\(bL d=true\/ny G t d=false)
theorem Kw{G:TG}(h:nN G){u:List Nat}(hu:u≠[]):∀ (v:List Nat),jg G.xs (u++v)=true->jg G.xs u=true:=by
 intro v;induction hn:v.length generalizing v with
 |zero=>intro hi;obtain rfl:v=[]:=zbf.mp hn;simpa using hi
 |succ n ih=>
  intro hi;have hv:v≠[]:=fun e=>by rw[e]at hn;cases hn
  rw[←zb9 hv,←zbp]at hi;exact ih v.dropLast (by simp[hn]) (h.JU _ _ (by simp[hu]) hi)
theorem yi{G:TG}(h:nN G){t R:List Nat}(ht:t≠[])(hb:R=[]\/∃ d R',R=d::R'/\(bL d=true\/ny G t d=false)){n:Nat}(hn:jg G.xs ((t++R).take n)=true)(hl:t.length<n):(t++R).take n=t:=by
 rcases hb with rfl |⟨d,R',rfl,hd⟩
 ·rw[zau,zaN (by omega)]
 ·exfalso;have e:(t++d::R').take n=(t++[d])++R'.take (n-t.length-1):=by
   rw[List.take_append,zaN (by omega)];obtain⟨k,hk⟩:∃ k,n-t.length=k+1:=⟨n-t.length-1,by omega⟩;rw[hk,List.take_succ_cons];simp
  rw[e]at hn;have hs:=Kw h (u:=t++[d]) (by simp) _ hn;rcases hd with hd |hd
  ·have:=(h.pool _ d hs (by simp)).2.1;rw[hd]at this;cases this
  ·unfold ny at hd;rw[hs]at hd;simp at hd
theorem GV{G:TG}(h:nN G){t R:List Nat}(hi:jg G.xs t=true)(hb:R=[]\/∃ d R',R=d::R'/\(bL d=true\/ny G t d=false)):jE G.xs (t++R)=some t:=by
 obtain⟨l1,l3⟩:=h.len t hi;have ht:t≠[]:=fun e=>by rw[e]at l1;simp at l1
 have at_:∀ n,n=t.length->(t++R).take n=t:=fun n hn=>by subst hn;simp
 unfold jE;by_cases h3:t.length=3
 ·rw[at_ 3 h3.symm,zah hi]
 ·by_cases c3:jg G.xs ((t++R).take 3)=true
  ·rw[zah c3,yi h ht hb c3 (by omega)]
  ·rw[zaj c3];by_cases h2:t.length=2
   ·rw[at_ 2 h2.symm,zah hi]
   ·by_cases c2:jg G.xs ((t++R).take 2)=true
    ·rw[zah c2,yi h ht hb c2 (by omega)]
    ·rw[zaj c2,at_ 1 (by omega),zah hi]
theorem El{t R:List Nat}(ht:∀ c∈t,bA c=true)(hR:R=[]\/∃ d R',R=d::R'/\bA d=false):(t++R).takeWhile bA=t:=by
 induction t with
 |nil=>
  rcases hR with rfl |⟨d,R',rfl,hd⟩
  ·rfl
  ·rw[List.nil_append,zaM,zaj (by rw[hd];simp)]
 |cons a t ih=>rw[zaL,zaM,zah (ht a zac),ih fun c hc=>ht c (zae _ hc)]
theorem upto_app{c:Nat}{u R:List Nat}(h:c∉u):upto c (u++c::R)=u:=by
 unfold upto;induction u with
 |nil=>simp
 |cons a u ih=>rw[zas,not_or]at h;rw[zaL,zaM,zah (by simpa using fun e=>h.1 e.symm),ih h.2]
theorem yj{c k d:Nat}(h:c≠d):c∉List.replicate k d:=fun z=>h (List.eq_of_mem_replicate z)
theorem nO{G:TG}:∀ (g:List Nat) (R:List Nat) (p:Nat),(∀ c∈g,bL c=true)->dw G (g++R) p=dw G R (p+g.length)
 | [],R,p,h=>rfl
 |c::g,R,p,h=>by rw[zaL,uy (h c zac),nO g R (p+1) fun d hd=>h d (zae _ hd),zaf,show p+1+g.length=p+(g.length+1)by omega]
theorem Kx{G:TG}(h:nN G){z:Str}{t R:List Nat}(ht:Tok G z t)(hb:Behind G z t R)(p:Nat):dw G (t++R) p=(lu z (glue t) p::(dw G R (p+t.length)).1,(dw G R (p+t.length)).2):=by
 cases ht with
 |word hne hw=>
  cases t with
  |nil=>exact absurd rfl hne
  |cons c r=>
  have hc:=hw c zac;have hg:bL c=false:=by
   cases e:bL c with
   |false=>rfl
   |true=>rw[AW e]at hc;cases hc
  unfold Behind at hb;rw[zaj (by decide)]at hb;have tw:((c::r)++R).takeWhile bA=c::r:=El hw (by
   rcases hb with hb |⟨d,R',hb,hd⟩
   ·exact .inl hb
   ·refine .inr ⟨d,R',hb,?_⟩;rcases hd with hd |hd
    ·exact AW hd
    ·unfold ny at hd;rw[zbh,Bool.and_eq_false_iff]at hd;rcases hd.1 with q |q
     ·have hl:bA ((c::r).getLast?.getD 0)=true:=by
       rw[zbJ (by simp)];exact hw _ (List.getLast_mem _)
      rw[hl]at q;cases q
     ·exact q)
  have hn:cP G ((c::r)++R)=some (("word" : Str),glue (c::r),(c::r).length):=by rw[zaL]at tw⊢;unfold cP;dsimp only;rw[zah hc,tw]
  rw[zaL]at hn⊢;rw[iy hg hn];have e:(c::(r++R)).drop (c::r).length=R:=by rw[zaf,zce,zcf];rfl
  rw[e]
 |one hw hg hr hq hs hz=>
  rename_i c;have hn:cP G (c::R)=some (z,⟨#[c]⟩,1):=by unfold cP;dsimp only;rw[zaj (by rw[hw];simp),zaj hr,zaj hq,hs]
  show dw G (c::R) p=_;rw[iy hg hn];rfl
 |sign hi=>
  unfold Behind at hb;rw[zaj (by decide)]at hb;have hsa:=GV h hi hb;obtain⟨l1,l3⟩:=h.len t hi;cases t with
  |nil=>simp at l1
  |cons c r=>
  obtain⟨p1,p2,p3,p4,p5⟩:=h.pool _ c hi zac;have hn:cP G (c::(r++R))=some (("sign" : Str),glue (c::r),(c::r).length):=by rw[zaL]at hsa;unfold cP;dsimp only;rw[zaj (by rw[p1];simp),zaj p3,zaj p4,p5];dsimp only;rw[hsa];rfl
  rw[zaL,iy p2 hn];have e:(c::(r++R)).drop (c::r).length=R:=by rw[zaf,zce,zcf];rfl
  rw[e]
 |oS hr hw hg hu hl=>
  rename_i c u;unfold Behind at hb;rw[zah rfl]at hb;have hc:c≠10:=fun e=>by rw[e]at hg;cases hg
  obtain⟨k,R',hR,hup⟩:∃ k R',R=List.replicate k 32++R'/\upto 10 ((c::u)++R)=(c::u)++List.replicate k 32:=by
   rcases hb with⟨k,rfl⟩|⟨k,R',rfl⟩
   ·refine⟨k,[],by simp,uv ?_⟩;simp only[zaL,zas,zaX,not_or];exact⟨fun e=>hc e.symm,hu,yj (by decide)⟩
   ·refine⟨k,10::R',rfl,?_⟩;rw[←zbp];refine upto_app ?_;simp only[zaL,zas,zaX,not_or];exact⟨fun e=>hc e.symm,hu,yj (by decide)⟩
  have hn:cP G (c::(u++R))=some (("remark" : Str),glue (c::u),(c::u).length+k):=by rw[zaL]at hup;unfold cP;dsimp only;rw[zaj (by rw[hw];simp),zah hr,hup,yu hl];simp;omega
  rw[zaL,iy hg hn];have e:(c::(u++R)).drop ((c::u).length+k)=R':=by
   rw[hR];have:c::(u++(List.replicate k 32++R'))=((c::u)++List.replicate k 32)++R':=by simp
   rw[this,zcf (by simp;omega)]
  rw[e,hR,nO (List.replicate k 32) R' _ fun d hd=>by rw[List.eq_of_mem_replicate hd];rfl,List.length_replicate,Nat.add_assoc]
 |quote hq hr hw hg hu h10=>
  rename_i c u;have hc:c≠10:=fun e=>by rw[e]at hg;cases hg
  have hn:cP G (c::(u++[c]++R))=some (("quote" : Str),glue (c::(u++[c])),(c::(u++[c])).length):=by
   have hline:u.length+1<=(upto 10 (c::(u++[c]++R))).length-1:=by
    have e:upto 10 (c::(u++[c]++R))=c::(u++[c]++upto 10 R):=by
     have key:∀ (w R:List Nat),10∉w->upto 10 (w++R)=w++upto 10 R:=by
      intro w R;induction w with
      |nil=>intro _;rfl
      |cons a w ih=>intro hw;rw[zas,not_or]at hw;unfold upto;rw[zaL,zaM,zah (by simpa using fun e=>hw.1 e.symm)];exact zbj _ (ih hw.2)
     have:=key (c::(u++[c])) R (by simp only[zas,zaX,zbi,or_false,not_or];exact⟨fun e=>hc e.symm,h10,fun e=>hc e.symm⟩);simpa using this
    rw[e];simp only[zaf,zav,zbx];omega
   have htk:(u++[c]++R).take ((upto 10 (c::(u++[c]++R))).length-1)=u++c::R.take ((upto 10 (c::(u++[c]++R))).length-1-(u.length+1)):=by rw[List.take_append,zaN (by simpa using hline)];simp
   unfold cP;dsimp only;rw[zaj (by rw[hw];simp),zaj hr,zah hq,htk,upto_app hu,zah (by simp)];have e2:(c::(u++[c]++R)).take (u.length+2)=c::(u++[c]):=by
    rw[List.take_succ_cons];congr 1
    exact List.take_left' (by simp)
   rw[e2];simp
  rw[show c::(u++[c])++R=c::(u++[c]++R)by simp,iy hg hn];have e:(c::(u++[c]++R)).drop (c::(u++[c])).length=R:=by rw[zaf,zce,zcf];simp
  rw[e]
end G
namespace G
open PySem PySem.Spec PyProof.Rows
theorem dz(a b:Str):(a++b).cps.toList=a.cps.toList++b.cps.toList:=by show (a.cps++b.cps).toList=_;simp
theorem cF(a:Str):a.cps.toList.length=a.length:=by unfold Str.length;simp
theorem Cs(a b:List Nat):jF (a++b)=jF a+jF b:=by unfold jF;exact List.count_append
def lf(g:Str):Nat:=jF g.cps.toList
def Wj(g:Str):Prop:=∀ c∈g.cps.toList,bL c=true
def lineAt(ss:List dI)(n:Nat):Nat:=(kY (-1) ss+n).toNat
def spN(ss:List dI)(n:Nat)(z x:Str)(p:Nat):dI:=⟨z,x,p,lineAt ss n,decide (0<n)⟩
inductive Wr (t:TG):Str->List dI->Nat->Option (Str×Str)->Prop
 |nil:Wr t "" [] 1 none
 |gap {out:Str} {ss:List dI} {n:Nat} {la:Option (Str×Str)} {g:Str}:Wr t out ss n la->Wj g->g.cps.toList≠[]->(∀ y,la=some y->y.1="remark"->0<lf g)->Wr t (out++g) ss (n+lf g) none
 |tok {out:Str} {ss:List dI} {n:Nat} {la:Option (Str×Str)} {z x:Str}:Wr t out ss n la->Tok t z x.cps.toList->(z="open"->x∈vS)->x.length<=900000->(∀ y,la=some y->y.1≠"remark"/\∃ d r,x.cps.toList=d::r/\ny t y.2.cps.toList d=false)->Wr t (out++x) (ss++[spN ss n z x out.length]) 0 (some (z,x))
def Zs(t:TG):Option (Str×Str)->List Nat->Prop
 |none,_=>True
 |some y,R=>Behind t y.1 y.2.cps.toList R
def iU(s:dI):vY:=(s.sort,s.text,s.place)
theorem yl:∀ (g:List Nat),(∀ c∈g,bL c=true)->0<jF g->∃ k r,g=List.replicate k 32++10::r
 | [],_,h=>by unfold jF at h;simp at h
 |c::g,hg,h=>by
  rcases oQ (hg c zac)with rfl |rfl
  ·have h2:0<jF g:=by
    unfold jF at h⊢;rw[zcd]at h;simpa using h
   obtain⟨k,r,e⟩:=yl g (fun d hd=>hg d (zae _ hd)) h2;exact⟨k+1,r,by rw[e];rfl⟩
  ·exact⟨0,g,rfl⟩
theorem Ug{t:TG}(hG:nN t){z:Str}{u:List Nat}(h:Tok t z u):u≠[]:=by
 cases h with
 |word h _=>exact h
 |one=>simp
 |sign h=>intro e;have:=(hG.len u h).1;rw[e]at this;simp at this
 |oS=>simp
 |quote=>simp
theorem Ky{t:TG}(hG:nN t){z:Str}{u:List Nat}(h:Tok t z u):jF u=0:=by
 have key:10∉u:=by
  cases h with
  |word _ h=>exact fun m=>absurd (h 10 m) (by decide +kernel)
  |one hw hg=>rename_i c _ _ _ _;intro m;rw[zaB]at m;subst m;exact absurd hg (by decide +kernel)
  |sign h=>exact fun m=>absurd (hG.pool u 10 h m).2.1 (by decide +kernel)
  |oS _ hw hg h _=>
   intro m;rcases zas.mp m with e |m
   ·rw[←e]at hg;exact absurd hg (by decide +kernel)
   ·exact h m
  |quote _ _ hw hg _ h=>
   intro m;rcases zas.mp m with e |m
   ·rw[←e]at hg;exact absurd hg (by decide +kernel)
   ·rcases zaX.mp m with m |m
    ·exact h m
    ·rw[zaB]at m;rw[←m]at hg;exact absurd hg (by decide +kernel)
 exact List.count_eq_zero.mpr key
theorem OM{t:TG}{y:Str×Str}{g R:List Nat}(hg:∀ c∈g,bL c=true)(hn:g≠[])(hr:y.1="remark"->0<jF g):Behind t y.1 y.2.cps.toList (g++R):=by
 unfold Behind;by_cases c:y.1="remark"
 ·rw[zah c];obtain⟨k,r,e⟩:=yl g hg (hr c);exact .inr ⟨k,r++R,by rw[e];simp⟩
 ·rw[zaj c];cases g with
  |nil=>exact absurd rfl hn
  |cons d r=>exact .inr ⟨d,r++R,rfl,.inl (hg d zac)⟩
theorem Uh{t:TG}(hG:nN t){out:Str}{ss:List dI}{n:Nat}{la:Option (Str×Str)}(h:Wr t out ss n la):∀ R,Zs t la R->dw t (out.cps.toList++R) 0=((ss.map iU).map jZ++(dw t R out.length).1,(dw t R out.length).2):=by
 induction h with
 |nil=>exact fun R _=>rfl
 |gap h hg hn hr ih=>
  rename_i out ss n la g;intro R _;rw[dz,zbp,ih (g.cps.toList++R),nO _ _ _ hg]
  ·have:(out++g).length=out.length+g.cps.toList.length:=by rw[←cF,dz,zav,cF]
   rw[this]
  ·cases la with
   |none=>trivial
   |some y=>exact OM hg hn (hr y rfl)
 |tok h ht ho hl hp ih=>
  rename_i out ss n la z x;intro R hR;rw[dz,zbp,ih (x.cps.toList++R),Kx hG ht hR]
  ·have e1:(out++x).length=out.length+x.cps.toList.length:=by rw[←cF,dz,zav,cF]
   have e2:glue x.cps.toList=x:=by unfold glue;simp
   rw[e1,zbB,zbB,zbp];show _=((ss.map iU).map jZ++([jZ (iU (spN ss n z x out.length))]++_),_);have e3:jZ (iU (spN ss n z x out.length))=lu z (glue x.cps.toList) out.length:=by rw[e2];rfl
   rw[e3];rfl
  ·cases la with
   |none=>trivial
   |some y=>obtain⟨h1,d,r,h2,h3⟩:=hp y rfl;show Behind t y.1 y.2.cps.toList _;unfold Behind;rw[zaj h1,h2];exact .inr ⟨d,r++R,rfl,.inr h3⟩
theorem Ui{t:TG}(hG:nN t){out:Str}{ss:List dI}{n:Nat}{la:Option (Str×Str)}(h:Wr t out ss n la):dw t out.cps.toList 0=((ss.map iU).map jZ,none):=by
 have:=Uh hG h [] (by
  cases la with
  |none=>trivial
  |some y=>
   show Behind t y.1 y.2.cps.toList [];unfold Behind;split
   ·exact .inl ⟨0,rfl⟩
   ·exact .inl rfl)
 rw[zau]at this;rw[this,uw,zau]
def seenOf(ss:List dI):Nat:=match ss.getLast? with
 |some s=>s.place
 |none=>0
theorem ym(x:Str):∀ (l:List vY) (line seen:Nat) (fst:Bool) (q:vY),gM x line seen fst (l++[q])=gM x line seen fst l++[match (gM x line seen fst l).getLast? with
 |some s=>⟨q.1,q.2.1,q.2.2,s.line+cB x s.place q.2.2,decide (0<cB x s.place q.2.2)⟩
 |none=>⟨q.1,q.2.1,q.2.2,line+cB x seen q.2.2,decide (0<cB x seen q.2.2) ||fst⟩]
 | [],line,seen,fst,(z,t,p)=>rfl
 |(z',t',p')::l,line,seen,fst,q=>by
  rw[zaL,gM,ym x l,gM];cases hl:gM x (line+cB x seen p') p' false l with
  |nil=>simp
  |cons s r=>
   have e:∀ a:dI,(a::s::r).getLast?=(s::r).getLast?:=fun a=>by simp[List.getLast?_cons]
   rw[e];cases hg:(s::r).getLast? with
   |none=>simp at hg
   |some w=>rfl
theorem tP(l:Int)(ss:List dI)(s:dI):kY l (ss++[s])=(s.line:Nat):=by rw[vZ];rfl
theorem tQ{l:Int}:∀ {ss:List dI} {s:dI},ss.getLast?=some s->kY l ss=(s.line:Nat):=fun {ss s} h=>by
 have:ss=ss.dropLast++[s]:=by
  have hne:ss≠[]:=by intro e;rw[e]at h;cases h
  have:=zb9 hne;rw[zbJ hne]at h;cases h;exact this.symm
 rw[this,tP]
structure WrF (t:TG) (out:Str) (ss:List dI) (n:Nat):Prop where
 aj:∀ X R:Str,X=out++R->gM X 0 0 true (ss.map iU)=ss
 Em:jF (out.cps.toList.drop (seenOf ss))+(if ss=[]then 1 else 0)=n
 seen:seenOf ss<=out.length
 fF:∀ s∈ss,s.place+s.text.length<=out.length/\s.text.length<=900000/\(s.sort="open"->s.text∈vS)/\s.line<=out.length
 many:ss.length<=out.length
 line:∀ s,ss.getLast?=some s->s.line+n<=out.length
theorem AX(a:Str):a++("" : Str)=a:=by show (⟨a.cps++#[]⟩:Str)=a;simp
theorem j4(a b:Str):(a++b).length=a.length+b.length:=by rw[←cF,dz,zav,cF,cF]
theorem lI(a b c:Str):(a++b)++c=a++(b++c):=by show (⟨(a.cps++b.cps)++c.cps⟩:Str)=⟨a.cps++(b.cps++c.cps)⟩;rw[Array.append_assoc]
theorem GW:∀ s:List Nat,jF s<=s.length:=fun s=>List.count_le_length
theorem Kz{t:TG}(hG:nN t){out:Str}{ss:List dI}{n:Nat}{la:Option (Str×Str)}(h:Wr t out ss n la):WrF t out ss n:=by
 induction h with
 |nil=>exact⟨fun X R _=>rfl,rfl,zal _,(fun s hs=>by cases hs),zal _,(fun s hs=>by cases hs)⟩
 |gap h hg hn hr ih=>
  rename_i out ss n la g;have el:=j4 out g;refine⟨fun X R e=>ih.aj X (g++R) (by rw[e,lI]),?_,by have:=ih.seen;omega,fun s hs=>?_,by have:=ih.many;omega,fun s hs=>?_⟩
  ·have:=ih.Em;rw[dz,zbK (by rw[cF];exact ih.seen),Cs];unfold lf;omega
  ·have:=ih.fF s hs;exact⟨by omega,this.2.1,this.2.2.1,by omega⟩
  ·have h1:=ih.line s hs;have h2:lf g<=g.length:=by unfold lf;rw[←cF];exact GW _
   omega
 |tok h ht ho hl hp ih=>
  rename_i out ss n la z x;have el:=j4 out x;have hx:1<=x.length:=by
   have:=Ug hG ht;rw[←cF];cases hc:x.cps.toList with
   |nil=>exact absurd hc this
   |cons _ _=>simp
  have hlf:=Ky hG ht;have hsp:(spN ss n z x out.length).line<=out.length:=by
   show lineAt ss n<=_;unfold lineAt;cases hs:ss.getLast? with
   |none=>have:ss=[]:=List.getLast?_eq_none_iff.mp hs;subst this;have:=ih.Em;rw[zah rfl]at this;have h2:=GW (out.cps.toList.drop (seenOf []));rw[zaY,cF]at h2;show ((-1:Int)+n).toNat<=_;omega
   |some s=>rw[tQ hs];have:=ih.line s hs;omega
  have hso:seenOf (ss++[spN ss n z x out.length])=out.length:=by unfold seenOf;rw[List.getLast?_append];rfl
  refine⟨fun X R e=>?_,?_,by rw[hso];omega,fun s hs=>?_,by rw[zav];have:=ih.many;simp;omega,fun s hs=>?_⟩
  ·have h1:=ih.aj X (x++R) (by rw[e,lI]);rw[zbB];show gM X 0 0 true (ss.map iU++[(z,x,out.length)])=_;rw[ym,h1];congr 2
   have hf:∀ p,p<=out.length->cB X p out.length=jF (out.cps.toList.drop p):=fun p hp=>by
    unfold cB;have:X.cps.toList=out.cps.toList++(x++R).cps.toList:=by rw[e,lI,dz]
    rw[this,zbK (by rw[cF];exact hp),List.take_append_of_le_length (by rw[zaY,cF];exact zal _),zaN (by rw[zaY,cF];exact zal _)]
   have hfe:=ih.Em;have hse:=ih.seen;unfold seenOf at hfe hse;cases hs:ss.getLast? with
   |none=>
    have e0:ss=[]:=List.getLast?_eq_none_iff.mp hs;subst e0;rw[zah rfl]at hfe;dsimp only;rw[hf 0 (za1 _)];unfold spN lineAt;have:n=jF (out.cps.toList.drop 0)+1:=hfe.symm;congr 1
    ·show _=((-1:Int)+n).toNat;omega
    ·simp;omega
   |some s=>
    rw[hs]at hfe hse;have e0:ss≠[]:=by intro e;rw[e]at hs;cases hs
    rw[zaj e0]at hfe;dsimp only at hfe hse⊢;rw[hf s.place hse];unfold spN lineAt;rw[tQ hs];have:n=jF (out.cps.toList.drop s.place):=by omega
    congr 1
    ·omega
    ·rw[this]
  ·have lc:=cF out;rw[hso,zaj (by simp),dz,zbK (by omega),Cs,hlf,List.drop_of_length_le (by omega)];rfl
  ·rcases zaX.mp hs with hs |hs
   ·have:=ih.fF s hs;exact⟨by omega,this.2.1,this.2.2.1,by omega⟩
   ·rw[zaB]at hs;subst hs;exact⟨by show out.length+x.length<=_;omega,hl,ho,by omega⟩
  ·rw[List.getLast?_append]at hs;have hs:spN ss n z x out.length=s:=by simpa using hs
   subst hs;omega
structure Pm where
 f:Str
 a:Str
 c:Str
 sq:Bool
 pa:Nat
 en:Nat
 rk:Nat
def aH(c:Nat):Str:=⟨#[c]⟩
def sub(p:Pm)(z:Nat):Str:=
 if z=40 then aH (if p.sq then 91 else 40)else if z=41 then aH (if p.sq then 93 else 41)else if z=44 then aH p.pa else if z=59 then aH p.en else if z=82 then aH p.rk
 else if z=102 then p.f else if z=97 then p.a else if z=99 then p.c else aH z
def iZ(z:Nat):Str:=if z=40 then "open" else if z=41 then "shut" else if z=44 then "part" else if z=59 then "end" else if z=82 then "remark" else if z=123 then "begin" else if z=125 then "finish" else "word"
def mG(z:Nat):Bool:=[102,97,99,98,103,104].contains z
def jO(b:Bool)(z:Nat):Bool:=[40,41,44,82,123,125].contains z ||mG z ||(b && z == 59)
def Uj(l:Option Nat)(z:Nat):Bool:=match l with
 |none=>true
 |some y=>y != 82 && !(mG y && mG z)
def Ct(b:Bool):Option Nat->List Nat->Bool
 |_,[]=>true
 |l,z::r=>if bL z=true then(l != some 82 ||z == 10) && Ct b none r else jO b z && Uj l z && Ct b (some z) r
def bE(p:Pm):List Nat->Str
 | []=>""
 |z::r=>sub p z++bE p r
def nA(p:Pm):List Nat->Nat->Int->Nat->List dI
 | [],_,_,_=>[]
 |z::r,pl,l,n=>if bL z=true then nA p r (pl+(sub p z).length) l (n+if z=10 then 1 else 0)else⟨iZ z,sub p z,pl,(l+n).toNat,decide (0<n)⟩::nA p r (pl+(sub p z).length) ((l+n).toNat:Nat) 0
def iJ(p:Pm):List Nat->Nat->Nat
 | [],n=>n
 |z::r,n=>iJ p r (n+(sub p z).length)
def oU(p:Pm)(b:Bool):TG:=⟨["-"],dS [if p.sq then "[]" else "()"] (aH p.pa) (if b then .str (aH p.en)else .none) (.str "{}"),.str (aH p.rk),.none⟩
def kI(w:Str):Bool:=!w.cps.toList.isEmpty && (w.cps.toList.all fun c=>bA c && decide (c<128)) && decide (w.length<=3)
structure fN (p:Pm):Prop where
 f:kI p.f=true
 a:kI p.a=true
 c:kI p.c=true
 pa:p.pa∈[44,59,58,124]
 en:p.en∈[44,59,58,124]
 pe:p.pa≠p.en
 rk:p.rk∈[35,33,64]
theorem GX(p:Pm)(h:fN p)(b:Bool):nN (oU p b):=by
 have one:∀ u,jg ["-"] u=true->u=[45]:=fun u hu=>by
  unfold jg at hu;simp only[zbn,List.any_nil,zbD,zbA]at hu;have:("-" : Str).cps.toList=(glue u).cps.toList:=by rw[hu]
  have e1:("-" : Str).cps.toList=[45]:=by decide +kernel
  have e2:(glue u).cps.toList=u:=by unfold glue;simp
  rw[e1,e2]at this;exact this.symm
 have facts:∀ sq:Bool,∀ pa∈[44,59,58,124],∀ en∈[44,59,58,124],∀ b:Bool,dS [if sq then "[]" else "()"] (aH pa) (if b then .str (aH en)else .none) (.str "{}") ⟨#[45]⟩=none:=by decide +kernel
 refine⟨fun u d hu hx=>?_,fun u hu=>?_,fun u c hu hc=>?_⟩
 ·have:=one _ hx;cases u with
  |nil=>exact absurd rfl hu
  |cons x r=>have:=zbj List.length this;simp at this
 ·rw[one u hu];decide
 ·rw[one u hu,zaB]at hc;subst hc;refine⟨by decide +kernel,by decide +kernel,?_,(fun e=>by cases e),facts _ _ h.pa _ h.en _⟩;have:∀ m∈[35,33,64],(PyData.str (aH m))≠.str ⟨#[45]⟩:=by decide +kernel
  exact this _ h.rk
theorem ON{p:Pm}(h:fN p){b:Bool}{z:Nat}(hz:z∈[40,41,44,59,123,125])(hb:z=59->b=true):∃ c,sub p z=aH c/\bA c=false/\bL c=false/\(oU p b).re≠.str ⟨#[c]⟩/\(oU p b).sf ⟨#[c]⟩=some (iZ z)/\(iZ z="open"->aH c∈vS):=by
 obtain⟨f,a,c,sq,pa,en,mk⟩:=p;have facts:∀ sq:Bool,∀ pa∈[44,59,58,124],∀ en∈[44,59,58,124],pa≠en->∀ mk∈[35,33,64],∀ b:Bool,∀ z∈[40,41,44,59,123,125],(z=59->b=true)->∀ c∈[if z=40 then(if sq then 91 else 40)else if z=41 then(if sq then 93 else 41)else if z=44 then pa else if z=59 then en else z],bA c=false/\bL c=false/\PyData.str (aH mk)≠.str ⟨#[c]⟩/\dS [if sq then "[]" else "()"] (aH pa) (if b then .str (aH en)else .none) (.str "{}") ⟨#[c]⟩=some (iZ z)/\(iZ z="open"->aH c∈vS):=by decide +kernel
 refine⟨if z=40 then(if sq then 91 else 40)else if z=41 then(if sq then 93 else 41)else if z=44 then pa else if z=59 then en else z,?_,facts sq pa h.pa en h.en h.pe mk h.rk b z hz hb _ (zaB.mpr rfl)⟩;simp only[zas,zbi,or_false]at hz;rcases hz with rfl |rfl |rfl |rfl |rfl |rfl <;> rfl
theorem AY{p:Pm}(h:fN p){z:Nat}(hz:mG z=true):iZ z="word"/\kI (sub p z)=true:=by
 have hz:z∈[102,97,99,98,103,104]:=by simpa[mG]using hz
 simp only[zas,zbi,or_false]at hz;rcases hz with rfl |rfl |rfl |rfl |rfl |rfl
 ·exact⟨by decide +kernel,h.f⟩
 ·exact⟨by decide +kernel,h.a⟩
 ·exact⟨by decide +kernel,h.c⟩
 all_goals exact⟨by decide +kernel,by show kI (aH _)=true;decide +kernel⟩
theorem AZ{w:Str}(h:kI w=true):w.cps.toList≠[]/\(∀ c∈w.cps.toList,bA c=true)/\w.length<=3/\∀ c∈w.cps.toList,c<128:=by unfold kI at h;simp only[zaa,zaK,zai,zab]at h;exact⟨fun e=>by rw[e]at h;simp at h,fun c hc=>(h.1.2 c hc).1,h.2,fun c hc=>(h.1.2 c hc).2⟩
theorem oV{p:Pm}(h:fN p){b:Bool}{z:Nat}(hz:jO b z=true):Tok (oU p b) (iZ z) (sub p z).cps.toList/\(iZ z="open"->sub p z∈vS)/\(sub p z).length<=3/\(∃ d r,(sub p z).cps.toList=d::r/\bA d=mG z)/\bA ((sub p z).cps.toList.getLast?.getD 0)=mG z/\(iZ z="remark"->z=82):=by
 by_cases hw:mG z=true
 ·obtain⟨h1,h2⟩:=AY h hw;obtain⟨q1,q2,q3,q4⟩:=AZ h2;refine⟨by rw[h1];exact .word q1 q2,fun e=>by rw[h1]at e;exact absurd e (by decide +kernel),q3,?_,?_,fun e=>by rw[h1]at e;exact absurd e (by decide +kernel)⟩
  ·cases hc:(sub p z).cps.toList with
   |nil=>exact absurd hc q1
   |cons d r=>exact⟨d,r,rfl,by rw[hw];exact q2 d (by rw[hc];exact zac)⟩
  ·rw[hw];rw[zbJ q1];exact q2 _ (List.getLast_mem q1)
 ·have hw:mG z=false:=by simpa using hw
  by_cases hr:z=82
  ·subst hr;have e:sub p 82=aH p.rk:=rfl;have facts:∀ m∈[35,33,64],bA m=false/\bL m=false/\[m].getLast?≠some 32:=by decide +kernel
   obtain⟨q1,q2,q3⟩:=facts _ h.rk;rw[e];refine⟨.oS (c:=p.rk) (u:=[]) rfl q1 q2 (by simp) q3,fun e=>absurd e (by decide +kernel),by show (1:Nat)<=3;omega,⟨p.rk,[],rfl,by rw[hw];exact q1⟩,by rw[hw];exact q1,fun _=>rfl⟩
  ·have hm:z∈[40,41,44,59,123,125]/\(z=59->b=true):=by
    unfold jO at hz;rw[hw,zbD]at hz;simp at hz;rcases hz with hz |hz
    ·rcases hz with rfl |rfl |rfl |rfl |rfl |rfl
     ·simp
     ·simp
     ·simp
     ·exact absurd rfl hr
     ·simp
     ·simp
    ·exact⟨by rw[hz.2];decide,fun _=>hz.1⟩
   obtain⟨c,e,q1,q2,q3,q4,q5⟩:=ON h hm.1 hm.2;have hk:iZ z≠"remark":=by have hm:=hm.1;simp only[zas,zbi,or_false]at hm;rcases hm with rfl |rfl |rfl |rfl |rfl |rfl <;> decide +kernel
   rw[e];exact⟨.one q1 q2 q3 (fun e=>by cases e) q4 hk,q5,by show (1:Nat)<=3;omega,⟨c,[],rfl,by rw[hw];exact q1⟩,by rw[hw];exact q1,fun e=>absurd e hk⟩
theorem OO{p:Pm}{b:Bool}{t:List Nat}{d:Nat}(ht:t≠[])(h:(bA (t.getLast?.getD 0) && bA d)=false):ny (oU p b) t d=false:=by
 unfold ny;rw[h,zb7];show jg ["-"] _=false;unfold jg;simp only[zbn,List.any_nil,zbD];rw[zaQ];intro e;have:("-" : Str).cps.toList=(glue (t++[d])).cps.toList:=by rw[e]
 have e1:("-" : Str).cps.toList=[45]:=by decide +kernel
 have e2:(glue (t++[d])).cps.toList=t++[d]:=by unfold glue;simp
 rw[e1,e2]at this;have:=zbj List.length this;have h0:0<t.length:=List.length_pos_iff.mpr ht;rw[zav,List.length_singleton,List.length_singleton]at this;omega
def L6(p:Pm)(l:Option Nat):Option (Str×Str):=l.map fun z=>(iZ z,sub p z)
theorem xq{p:Pm}{z:Nat}(h:bL z=true):sub p z=aH z:=by rcases oQ h with rfl |rfl <;> rfl
theorem Uk{z:Nat}(h:bL z=true):lf (aH z)=if z=10 then 1 else 0:=by rcases oQ h with rfl |rfl <;> rfl
theorem Eo{p:Pm}(h:fN p){b:Bool}:∀ (t:List Nat) (l:Option Nat) (out:Str) (ss:List dI) (n:Nat),(∀ z,l=some z->jO b z=true)->Ct b l t=true->Wr (oU p b) out ss n (L6 p l)->∃ n' la,Wr (oU p b) (out++bE p t) (ss++nA p t out.length (kY (-1) ss) n) n' la
 | [],l,out,ss,n,_,_,w=>⟨n,L6 p l,by rw[bE,nA,zau,AX];exact w⟩
 |z::r,l,out,ss,n,hl,ho,w=>by
  rw[Ct]at ho;rw[bE,nA,←lI];by_cases g:bL z=true
  ·rw[zah g,zaa]at ho;rw[zah g];have w1:Wr (oU p b) (out++sub p z) ss (n+lf (sub p z)) none:=by
    rw[xq g];refine .gap w (fun c hc=>?_) (by simp[aH]) (fun y hy hr=>?_)
    ·have:c∈[z]:=hc;rw[zaB]at this;subst this;exact g
    ·cases l with
     |none=>cases hy
     |some q=>
      have hy:y=(iZ q,sub p q):=by simpa[L6]using hy.symm
      subst hy;have hq:=(oV h (hl q rfl)).2.2.2.2.2 hr;subst hq;have:z=10:=by simpa using ho.1
      subst this
      decide +kernel
   have ih:=Eo h r none _ _ _ (fun z e=>by cases e) ho.2 w1;rw[j4]at ih;rw[xq g]at ih⊢;rw[Uk g]at ih;exact ih
  ·have g':bL z=false:=by simpa using g
   rw[zaj g,zaa,zaa]at ho;rw[zaj g];obtain⟨⟨o1,o2⟩,o3⟩:=ho;obtain⟨t1,t2,t3,⟨d,u,t4,t5⟩,t6,t7⟩:=oV h o1;have w1:Wr (oU p b) (out++sub p z) (ss++[spN ss n (iZ z) (sub p z) out.length]) 0 (some (iZ z,sub p z)):=by
    refine .tok w t1 t2 (by omega) (fun y hy=>?_);cases l with
    |none=>cases hy
    |some q=>
     have hy:y=(iZ q,sub p q):=by simpa[L6]using hy.symm
     subst hy;obtain⟨q1,q2,q3,⟨d',u',q4,q5⟩,q6,q7⟩:=oV h (hl q rfl);unfold Uj at o2;simp only[zaa,zbX,ne_eq,zaK]at o2;refine⟨fun e=>o2.1 (q7 e),d,u,t4,OO (by show (sub p q).cps.toList≠[];rw[q4];simp) ?_⟩;show (bA ((sub p q).cps.toList.getLast?.getD 0) && bA d)=false;rw[q6,t5];exact o2.2
   have ih:=Eo h r (some z) _ _ _ (fun q e=>by cases e;exact o1) o3 w1;rw[tP,j4,zbp]at ih;exact ih
theorem Ul{p:Pm}(h:fN p){b:Bool}{t:List Nat}(ho:Ct b none t=true):∃ n la,Wr (oU p b) (bE p t) (nA p t 0 (-1) 1) n la:=by
 obtain⟨n,la,w⟩:=Eo h (b:=b) t none "" [] 1 (fun z e=>by cases e) ho .nil;refine⟨n,la,?_⟩;have e:("" : Str)++bE p t=bE p t:=by show (⟨#[]++(bE p t).cps⟩:Str)=_;simp
 rw[e,List.nil_append]at w;exact w
theorem sG(p:Pm):∀ (t:List Nat) (n:Nat),iJ p t n=n+(bE p t).length
 | [],n=>rfl
 |z::r,n=>by rw[iJ,sG p r,bE,j4];omega
def dZ(N m:Nat)(x:aB):Rs PyData:=match oO x N m false 0 (-1)with
 | .ok p a l=>if(!(x.sort a == ""))=true then .no (x.fF a)else .ok (nv p) a l
 | .no p=>.no p
 | .out=>.out
theorem OP{N m:Nat}{x:aB}(h : ¬ x.bad<x.text.length):mF N m x=dZ N m x:=by
 unfold mF dZ;cases oO x N m false 0 (-1)with
 |ok p a l=>dsimp only;rw[zaH h,zbD]
 |no p=>rfl
 |out=>rfl
mutual
def jG:PyData->Bool
 | .none=>true
 | .bool _=>true
 | .int i=>decide (i.natAbs<1000)
 | .str _=>true
 | .tuple xs=>pV xs
 |_=>false
def pV:List PyData->Bool
 | []=>true
 |d::r=>jG d && pV r
end
mutual
def fD:PyData->List Str
 | .str x=>[x]
 | .tuple xs=>kZ xs
 |_=>[]
def kZ:List PyData->List Str
 | []=>[]
 |d::r=>fD d++kZ r
end
mutual
def ly:PyData->Nat
 | .tuple xs=>yT xs+1
 |_=>1
def yT:List PyData->Nat
 | []=>0
 |d::r=>ly d+yT r
end
def gO:Rs PyData->Option (List Str ⊕ Nat)
 | .ok d _ _=>if(jG d && (Nat.ble d.depth 40 && Nat.ble (ly d) 1000))=true then some (.inl (fD d))else none
 | .no n=>some (.inr n)
 | .out=>none
def gh(p:Pm)(b:Bool)(X:Str)(t:List Nat):aB:=⟨X,!b,gB (.str (aH p.rk)),iJ p t 0,nA p t 0 (-1) 1⟩
def aN(t:List Nat):List Nat:=t.filter (· != 94)
def p0:Pm:=⟨"f","a","c",false,44,59,82⟩
def mH(p:Pm)(s:Str):Str:=match s.cps.toList with
 | [z]=>sub p z
 |_=>s
def jH(p:Pm)(b:Bool)(t:List Nat):Option (List Str ⊕ Nat):=if t.contains 94=true then some (.inr (iJ p (upto 94 t) 0))else(gO (dZ 6 4 (gh p0 b "" t))).map fun
 | .inl l=>.inl (l.map (mH p))
 | .inr n=>.inr n
def fE:List Str:=("R\na;" : Str)::("a; R\n" : Str)::("a; b; R\nc;" : Str)::("a { R\n b; R\n R\n } R\nR\n" : Str)::("f(R\n);" : Str)::("f(R\n R\n R\n);" : Str)::("f(R\n R\n a, R\n R\n b R\n R\n);" : Str)::("f(a, R\n);" : Str)::("f(a R\n);" : Str)::("f(g(a R\n) R\n);" : Str)::("^{ R" : Str)::("a ^R\n;" : Str)::("a\n^R\n;" : Str)::("a ^R\n{ b; }" : Str)::("f() ^R\n;" : Str)::("f(a R\n^, b);" : Str)::("f(a\nR\n^, b);" : Str)::("f(a\nR\n);" : Str)::("f(a R\n^b);" : Str)::("f(a\nR\n^b);" : Str)::("f(g(a) R\n^, b);" : Str)::("f(a, R\n^, b);" : Str)::("f(R\n^, a);" : Str)::("f(a R\nR\n^g());" : Str)::("f(g(R\na R\n), R\nh(R\n) R\n);" : Str)::("a { R\n^;" : Str)::("a { b; } R\n^;" : Str)::("a; R\n^;" : Str)::("R\n^}" : Str)::("a { R\n^" : Str)::("a { b ^R\n; }" : Str)::("f(a^; R\n" : Str)::("a ^R" : Str)::("R\n" : Str)::("a; R\n\nR\n^)" : Str)::("f(R\n^{ a;" : Str)::("f(R\n^" : Str)::[]
def dG:List Str:=("R\na" : Str)::("a R\n" : Str)::("a R\nb" : Str)::("a\nR\nb R\n R\n" : Str)::("a { R\n b R\n R\n } R\nR" : Str)::("a { b } R\nc" : Str)::("a { b R\n}" : Str)::("f(R\n R\n a, R\n b R\n R\n) b R\n" : Str)::("f(a\nR\n)" : Str)::("f(g(a R\n) R\n)" : Str)::("a R\n^{" : Str)::("a R\n^{ b }" : Str)::("f(a R\n^, b)" : Str)::("f(a\nR\n^, b)" : Str)::("f(a R\n^b)" : Str)::("f(R\n^, a)" : Str)::("a { b } ^c R\n" : Str)::("a { R\n } R\n R\n^}" : Str)::("f(a,\nR\n b\n) { R\n c R\n}" : Str)::("f(a) R\n^) b" : Str)::("R" : Str)::("R\n\nR" : Str)::("a\n^{ R" : Str)::("a { R\n^" : Str)::("f(a R\n^" : Str)::("a { b { c } R\n } R" : Str)::("a { b { c } } R" : Str)::("a { b { c } ^b } R" : Str)::("a ^} R" : Str)::[]
def jI(b:Bool):List Str:=if b then fE else dG
theorem sL(f a c:Str)(pa en:Nat)(X:Str):(fE.map fun s=>gO (dZ 6 4 (gh ⟨f,a,c,false,pa,en,35⟩ true X (aN s.cps.toList))))=fE.map fun s=>jH ⟨f,a,c,false,pa,en,35⟩ true s.cps.toList:=by kernel_rfl
theorem sM(f a c:Str)(pa en:Nat)(X:Str):(fE.map fun s=>gO (dZ 6 4 (gh ⟨f,a,c,false,pa,en,33⟩ true X (aN s.cps.toList))))=fE.map fun s=>jH ⟨f,a,c,false,pa,en,33⟩ true s.cps.toList:=by kernel_rfl
theorem sN(f a c:Str)(pa en:Nat)(X:Str):(fE.map fun s=>gO (dZ 6 4 (gh ⟨f,a,c,false,pa,en,64⟩ true X (aN s.cps.toList))))=fE.map fun s=>jH ⟨f,a,c,false,pa,en,64⟩ true s.cps.toList:=by kernel_rfl
theorem uE(f a c:Str)(pa en:Nat)(X:Str):(fE.map fun s=>gO (dZ 6 4 (gh ⟨f,a,c,true,pa,en,35⟩ true X (aN s.cps.toList))))=fE.map fun s=>jH ⟨f,a,c,true,pa,en,35⟩ true s.cps.toList:=by kernel_rfl
theorem uF(f a c:Str)(pa en:Nat)(X:Str):(fE.map fun s=>gO (dZ 6 4 (gh ⟨f,a,c,true,pa,en,33⟩ true X (aN s.cps.toList))))=fE.map fun s=>jH ⟨f,a,c,true,pa,en,33⟩ true s.cps.toList:=by kernel_rfl
theorem uG(f a c:Str)(pa en:Nat)(X:Str):(fE.map fun s=>gO (dZ 6 4 (gh ⟨f,a,c,true,pa,en,64⟩ true X (aN s.cps.toList))))=fE.map fun s=>jH ⟨f,a,c,true,pa,en,64⟩ true s.cps.toList:=by kernel_rfl
theorem rA(f a c:Str)(pa en:Nat)(X:Str):(dG.map fun s=>gO (dZ 6 4 (gh ⟨f,a,c,false,pa,en,35⟩ false X (aN s.cps.toList))))=dG.map fun s=>jH ⟨f,a,c,false,pa,en,35⟩ false s.cps.toList:=by kernel_rfl
theorem rC(f a c:Str)(pa en:Nat)(X:Str):(dG.map fun s=>gO (dZ 6 4 (gh ⟨f,a,c,false,pa,en,33⟩ false X (aN s.cps.toList))))=dG.map fun s=>jH ⟨f,a,c,false,pa,en,33⟩ false s.cps.toList:=by kernel_rfl
theorem rD(f a c:Str)(pa en:Nat)(X:Str):(dG.map fun s=>gO (dZ 6 4 (gh ⟨f,a,c,false,pa,en,64⟩ false X (aN s.cps.toList))))=dG.map fun s=>jH ⟨f,a,c,false,pa,en,64⟩ false s.cps.toList:=by kernel_rfl
theorem sO(f a c:Str)(pa en:Nat)(X:Str):(dG.map fun s=>gO (dZ 6 4 (gh ⟨f,a,c,true,pa,en,35⟩ false X (aN s.cps.toList))))=dG.map fun s=>jH ⟨f,a,c,true,pa,en,35⟩ false s.cps.toList:=by kernel_rfl
theorem sP(f a c:Str)(pa en:Nat)(X:Str):(dG.map fun s=>gO (dZ 6 4 (gh ⟨f,a,c,true,pa,en,33⟩ false X (aN s.cps.toList))))=dG.map fun s=>jH ⟨f,a,c,true,pa,en,33⟩ false s.cps.toList:=by kernel_rfl
theorem sQ(f a c:Str)(pa en:Nat)(X:Str):(dG.map fun s=>gO (dZ 6 4 (gh ⟨f,a,c,true,pa,en,64⟩ false X (aN s.cps.toList))))=dG.map fun s=>jH ⟨f,a,c,true,pa,en,64⟩ false s.cps.toList:=by kernel_rfl
theorem Um(p:Pm)(h:p.rk∈[35,33,64])(b:Bool){s:Str}(hs:s∈jI b)(X:Str):gO (dZ 6 4 (gh p b X (aN s.cps.toList)))=jH p b s.cps.toList:=by
 obtain⟨f,a,c,sq,pa,en,mk⟩:=p;simp only[zas,zbi,or_false]at h;cases b <;> cases sq <;> rcases h with rfl |rfl |rfl
 ·exact zaO.mp (rA f a c pa en X) s hs
 ·exact zaO.mp (rC f a c pa en X) s hs
 ·exact zaO.mp (rD f a c pa en X) s hs
 ·exact zaO.mp (sO f a c pa en X) s hs
 ·exact zaO.mp (sP f a c pa en X) s hs
 ·exact zaO.mp (sQ f a c pa en X) s hs
 ·exact zaO.mp (sL f a c pa en X) s hs
 ·exact zaO.mp (sM f a c pa en X) s hs
 ·exact zaO.mp (sN f a c pa en X) s hs
 ·exact zaO.mp (uE f a c pa en X) s hs
 ·exact zaO.mp (uF f a c pa en X) s hs
 ·exact zaO.mp (uG f a c pa en X) s hs
end G
namespace G
open PySem PySem.Spec PyProof.Rows PySem.Builtin.Str
def gW(d:PyData):List Nat:=d.shown.cps.toList
def uH(r:List Nat):Prop:=r=[]\/∃ t,r=44::t\/r=41::t
def GZ(c:Nat):Bool:=c == 45 ||(decide (48<=c) && decide (c<=57))
theorem Uo(i:Int):gW (.int i)=(toString i).toList.map Char.toNat:=by unfold gW;rw[PyData.shown_int];exact signs_ofString _
theorem int_num(i:Int):∀ c∈gW (.int i),GZ c=true:=fun c hc=>by
 rw[Uo]at hc;obtain⟨ch,hm,rfl⟩:=zaz.mp hc;unfold GZ;rcases int_sign i ch hm with h |rfl
 ·have:=digit_range h;simp[this.1,this.2]
 ·rfl
theorem A3(q:Nat):∀ (l:List Nat) (acc:Array Nat),(l.foldl (fun out c=>out++(reprChar q c).toArray) acc).toList=acc.toList++l.flatMap (reprChar q)
 | [],acc=>by simp
 |c::l,acc=>by rw[List.foldl_cons,A3 q l,List.flatMap_cons];simp
theorem Uq(x:Str):gW (.str x)=reprQuote x::(x.cps.toList.flatMap (reprChar (reprQuote x))++[reprQuote x]):=by unfold gW;rw[PyData.shown_str];unfold reprText;show ((x.cps.foldl (fun out c=>out++(reprChar (reprQuote x) c).toArray) #[reprQuote x]).push (reprQuote x)).toList=_;rw[Array.toList_push,←Array.foldl_toList,A3];simp
theorem KA(x:Str):reprQuote x=34\/reprQuote x=39:=by
 unfold reprQuote;split
 ·exact .inl rfl
 ·exact .inr rfl
def dM:List PyData->List Nat
 | []=>[]
 |d::r=>44::32::(gW d++dM r)
theorem Ep(x:PyData):∀ xs:List PyData,(Str.join ", " (PyData.shownAll (x::xs))).cps.toList=gW x++dM xs:=by
 intro xs;induction xs generalizing x with
 |nil=>show (Str.join ", " [x.shown]).cps.toList=_;rw[join_one,dM,zau];rfl
 |cons y r ih=>show (Str.join ", " (x.shown::y.shown::PyData.shownAll r)).cps.toList=_;rw[join_cons_cons,zb3,zb3];have:=ih y;change (Str.join ", " (y.shown::PyData.shownAll r)).cps.toList=_ at this;rw[this,dM];show (gW x++[44,32])++_=_;simp
def mJ(xs:List PyData):List Nat:=if xs.isEmpty=true then [44,41]else [41]
theorem G0:∀ xs:List PyData,gW (.tuple xs)=(match xs with | []=>[40,41] |x::r=>40::(gW x++(dM r++mJ r)))
 | []=>by unfold gW;rw[PyData.shown_tuple];rfl
 |x::r=>by
  unfold gW;rw[PyData.shown_tuple,zb3,zb3];have:=Ep x r;rw[this];show [40]++_++_=_;cases r with
  |nil=>simp[mJ,dM];rfl
  |cons y r=>simp[mJ,gW];rfl
theorem OQ:gW .none=[78,111,110,101]:=by unfold gW;rw[PyData.shown_none];rfl
theorem OR(b:Bool):gW (.bool b)=if b=true then [84,114,117,101]else [70,97,108,115,101]:=by unfold gW;rw[PyData.shown_bool];cases b <;> rfl
theorem KC(xs:List PyData)(r:List Nat):uH (dM xs++(mJ xs++r)):=by
 cases xs with
 |nil=>exact .inr ⟨41::r,.inl rfl⟩
 |cons x l=>exact .inr ⟨_,.inl (by rw[dM];rfl)⟩
def eN(m:Nat)(l:List Nat):Nat:=(TL.spl [39,m,39] 0 [] l).length
theorem Cu(S:List Nat):∀ (l acc acc':List Nat),(TL.spl S 0 acc l).length=(TL.spl S 0 acc' l).length
 | [],acc,acc'=>by rw[TL.spl_nil,TL.spl_nil];rfl
 |c::r,acc,acc'=>by
  by_cases h:TL.pre S (c::r)=true
  ·rw[TL.spl_hit h,TL.spl_hit h];rfl
  ·have h:TL.pre S (c::r)=false:=by simpa using h
   rw[TL.spl_miss h,TL.spl_miss h];exact Cu S r _ _
theorem G1{x y:Str}(hy:TL.tl y≠[]):Txt.count x y+1=((TL.spl (TL.tl y) 0 [] (TL.tl x)).length:Nat):=by obtain⟨f,g,hn⟩:=PySem.StrLaws.occ_tight x y (TL.len1 hy);have key:=TL.parts_spl hy _ 0 f (za1 _) g hn;rw[zbc]at key;rw[←key,zaw];have:=len_partsBetween x (occurrences x y 0 x.length (x.length+1)) y.length;have e:partsBetween x (occurrences x y 0 x.length (x.length+1)) y.length=PySem.StrLaws.partsFrom x y.length 0 (occurrences x y 0 x.length (x.length+1)):=PySem.StrLaws.partsBetween_eq _ _ _;rw[←e,this];unfold Txt.count;push_cast;rfl
section
variable {m:Nat} {c d:Nat} {r:List Nat}
theorem OS:eN m []=1:=by unfold eN;rw[TL.spl_nil];rfl
theorem i6(h:TL.pre [39,m,39] (c::r)=false):eN m (c::r)=eN m r:=by unfold eN;rw[TL.spl_miss h];exact Cu _ _ _ _
theorem rE(h:c≠39):eN m (c::r)=eN m r:=i6 (TL.pre_of_head _ _ h)
theorem j5:∀ (p:List Nat),(∀ c∈p,c≠39)->eN m (p++r)=eN m r
 | [],_=>rfl
 |c::p,h=>by rw[zaL,rE (h c zac)];exact j5 p fun c hc=>h c (zae _ hc)
theorem OT:eN m (39::m::39::r)=eN m r+1:=by unfold eN;have e:TL.spl [39,m,39] 0 [] (39::m::39::r)=[]::TL.spl [39,m,39] 2 [] (m::39::r):=TL.spl_hit (TL.pre_self [39,m,39] r);rw[e,zaf,TL.spl_pass];rfl
theorem sH(h:d≠m):TL.pre [39,m,39] (39::d::r)=false:=by show ((39::d::r).take 3 == [39,m,39])=false;rw[zaQ];intro e;have:(39::d::r.take 1)=[39,m,39]:=e;injection this with _ e;injection e with e _;exact h e
theorem G2(h:d≠39):TL.pre [39,m,39] (39::c::d::r)=false:=by show ((39::c::d::r).take 3 == [39,m,39])=false;rw[zaQ];intro e;have:[39,c,d]=[39,m,39]:=e;injection this with _ e;injection e with _ e;injection e with e _;exact h e
theorem xr(h:uH r)(h1:m≠44)(h2:m≠41):eN m (39::r)=eN m r:=by
 rcases h with rfl |⟨t,rfl |rfl⟩
 ·refine i6 ?_;show ([39] == [39,m,39])=false;rw[zaQ];intro e;injection e with _ e;cases e
 ·exact i6 (sH (Ne.symm h1))
 ·exact i6 (sH (Ne.symm h2))
end
def wc(c:Nat):Bool:=decide (c<128) && (reprChar 39 c == [c]) && c != 39
def qc(x:Str):Bool:=x.cps.toList.all wc
theorem G3{x:Str}(h:qc x=true):gW (.str x)=39::(x.cps.toList++[39]):=by
 have ha:=zai.mp h;have hq:reprQuote x=39:=by
  rcases KA x with q |q
  ·unfold reprQuote at q;split at q
   ·rename_i hc;rw[zaa]at hc;have hm:39∈x.cps.toList:=by simpa using hc.1
    have:=ha 39 hm;exact absurd this (by decide)
   ·cases q
  ·exact q
 rw[Uq,hq];congr 1
 congr 1
 have:∀ l:List Nat,(∀ c∈l,wc c=true)->l.flatMap (reprChar 39)=l:=fun l=>by
  induction l with
  |nil=>exact fun _=>rfl
  |cons c l ih=>intro h;rw[List.flatMap_cons,ih fun c hc=>h c (zae _ hc)];have:=h c zac;unfold wc at this;simp only[zaa,zbA]at this;rw[this.1.2];rfl
 exact this _ ha
section
variable {m:Nat} (h39:m≠39) (h44:m≠44) (h41:m≠41)
include h39 h44 h41
theorem cut_str{x:Str}(h:qc x=true){r:List Nat}(hr:uH r):eN m (gW (.str x)++r)=eN m r+if x=aH m then 1 else 0:=by
 have ha:=zai.mp h;have hn:∀ c∈x.cps.toList,c≠39:=fun c hc e=>by have:=ha c hc;unfold wc at this;simp only[zaa,zbX,ne_eq]at this;exact this.2 e
 have hx:∀ l,x.cps.toList=l->(x=aH m↔l=[m]):=fun l hl=>by
  constructor
  ·intro e;rw[←hl,e];rfl
  ·intro e;rw[←hl]at e;cases x;simp only at e;unfold aH;congr 1
   exact zbT.mp e
 rw[G3 h];cases hc:x.cps.toList with
 |nil=>rw[zaj (by rw[hx _ hc];simp)];show eN m (39::39::r)=_;rw[i6 (sH (Ne.symm h39)),xr hr h44 h41];rfl
 |cons c l=>
  rw[hc]at hn;cases l with
  |nil=>
   show eN m (39::c::39::r)=_;by_cases e:c=m
   ·subst e;rw[zah (by rw[hx _ hc]),OT]
   ·rw[zaj (by rw[hx _ hc];simpa using e),i6 (sH e),rE (hn c zac),xr hr h44 h41];rfl
  |cons d u=>
   rw[zaj (by rw[hx _ hc];simp)];have e:39::((c::d::u)++[39])++r=39::c::d::(u++39::r):=by simp
   rw[e,i6 (G2 (hn d (by simp)))];have e2:c::d::(u++39::r)=(c::d::u)++39::r:=rfl;rw[e2,j5 _ hn,xr hr h44 h41];rfl
end
def lA(m:Nat)(l:List Str):Nat:=l.countP fun s=>decide (s=aH m)
theorem A4(m:Nat)(a b:List Str):lA m (a++b)=lA m a+lA m b:=List.countP_append
theorem Et(xs:List PyData):∀ c∈mJ xs,c≠39:=by unfold mJ;split <;> decide
theorem G4(xs:List PyData)(r:List Nat):uH (mJ xs++r):=by
 unfold mJ;split
 ·exact .inr ⟨_,.inl rfl⟩
 ·exact .inr ⟨_,.inr rfl⟩
section
variable {m:Nat} (h39:m≠39) (h44:m≠44) (h41:m≠41)
include h39 h44 h41
mutual
theorem Eu:∀ (d:PyData),jG d=true->(∀ s∈fD d,qc s=true)->∀ {r:List Nat},uH r->eN m (gW d++r)=eN m r+lA m (fD d)
 | .none,_,_,r,_=>by rw[OQ,j5 _ (by decide)];rfl
 | .bool b,_,_,r,_=>by rw[OR,j5 _ (by cases b <;> decide)];rfl
 | .int i,_,_,r,_=>by rw[j5 _ fun c hc e=>by have:=int_num i c hc;rw[e]at this;revert this;decide];rfl
 | .str x,_,h,r,hr=>by rw[cut_str h39 h44 h41 (h x (by rw[fD];exact zac)) hr,fD];unfold lA;rw[List.countP_singleton];simp only[zab]
 | .tuple [],_,_,r,_=>by rw[G0];show eN m ([40,41]++r)=_;rw[j5 _ (by decide)];rfl
 | .tuple (x::xs),hk,h,r,hr=>by
   rw[jG,pV,zaa]at hk;rw[fD,kZ]at h⊢;rw[G0];show eN m (40::(gW x++(dM xs++mJ xs))++r)=_;have e:40::(gW x++(dM xs++mJ xs))++r=40::(gW x++(dM xs++(mJ xs++r))):=by simp
   rw[e,rE (by decide),Eu x hk.1 (fun s hs=>h s (za0 _ hs)) (KC xs r),G5 xs hk.2 (fun s hs=>h s (zbQ _ hs)) (G4 xs r),j5 _ (Et xs),A4];omega
 | .list _,hk,_,_,_=>by simp[jG]at hk
 | .dict _,hk,_,_,_=>by simp[jG]at hk
theorem G5:∀ (ds:List PyData),pV ds=true->(∀ s∈kZ ds,qc s=true)->∀ {r:List Nat},uH r->eN m (dM ds++r)=eN m r+lA m (kZ ds)
 | [],_,_,r,_=>rfl
 |d::ds,hk,h,r,hr=>by
  rw[pV,zaa]at hk;rw[kZ]at h⊢;have e:dM (d::ds)++r=44::32::(gW d++(dM ds++r)):=by rw[dM];simp
  have hr2:uH (dM ds++r):=by
   cases ds with
   |nil=>exact hr
   |cons x l=>exact .inr ⟨_,.inl (by rw[dM];rfl)⟩
  rw[e,rE (by decide),rE (by decide),Eu d hk.1 (fun s hs=>h s (za0 _ hs)) hr2,G5 ds hk.2 (fun s hs=>h s (zbQ _ hs)) hr,A4];omega
end
theorem Bm{d:PyData}(hk:jG d=true)(h:∀ s∈fD d,qc s=true):Txt.count d.shown ⟨#[39,m,39]⟩=(lA m (fD d):Nat):=by have c:=G1 (x:=d.shown) (y:=⟨#[39,m,39]⟩) (by show [39,m,39]≠[];simp);have k:=Eu h39 h44 h41 d hk h (r:=[]) (.inl rfl);rw[zau,OS]at k;have k:(TL.spl [39,m,39] 0 [] (TL.tl d.shown)).length=1+lA m (fD d):=k;have c:Txt.count d.shown ⟨#[39,m,39]⟩+1=((TL.spl [39,m,39] 0 [] (TL.tl d.shown)).length:Nat):=c;rw[k]at c;omega
end
mutual
theorem G6:∀ (d:PyData),jG d=true->(∀ s∈fD d,qc s=true/\s.length<=10)->iw d=true/\sz d+2<=110 * ly d
 | .none,_,_=>by simp[iw,sz,ly]
 | .bool _,_,_=>by simp[iw,sz,ly]
 | .int i,hk,_=>by
   rw[jG,zab]at hk;have h1:i.natAbs.log2<=10:=by
    by_cases h0:i.natAbs=0
    ·rw[h0];decide
    ·have:=(Nat.log2_lt h0 (k:=11)).mpr (by omega);omega
   have hn:ly (.int i)=1:=by simp[ly]
   rw[iw,sz,hn,zab];omega
 | .str x,_,h=>by
   obtain⟨h1,h2⟩:=h x (by rw[fD];exact zac);have hn:ly (.str x)=1:=by simp[ly]
   rw[iw,sz,hn];refine⟨zai.mpr fun c hc=>?_,by omega⟩;have:=zai.mp h1 c hc;unfold wc at this;simp only[zaa]at this;exact this.1.1
 | .tuple xs,hk,h=>by rw[jG]at hk;rw[fD]at h;obtain⟨h1,h2⟩:=Cv xs hk h;rw[iw,sz,ly];exact⟨h1,by omega⟩
 | .list _,hk,_=>by simp[jG]at hk
 | .dict _,hk,_=>by simp[jG]at hk
theorem Cv:∀ (ds:List PyData),pV ds=true->(∀ s∈kZ ds,qc s=true/\s.length<=10)->gJ ds=true/\kQ ds<=110 * yT ds
 | [],_,_=>by simp[gJ,kQ]
 |d::ds,hk,h=>by rw[pV,zaa]at hk;rw[kZ]at h;obtain⟨h1,h2⟩:=G6 d hk.1 fun s hs=>h s (za0 _ hs);obtain⟨h3,h4⟩:=Cv ds hk.2 fun s hs=>h s (zbQ _ hs);rw[gJ,kQ,yT,h1,h3];exact⟨rfl,by omega⟩
end
def Ew(s:Str):Bool:=match s.cps.toList with
 | [z]=>jO true z
 |l=>l.all wc && decide (l.length<=10)
def Ur(b:Bool)(t:List Nat):Bool:=t.contains 94 ||match gO (dZ 6 4 (gh p0 b "" t))with
 |some (.inl l)=>l.all Ew && decide (l.countP (fun s=>decide (s=aH 82))=t.count 82)
 |_=>false
theorem rH:∀ b,∀ s∈jI b,Ct b none (aN s.cps.toList)=true/\s.cps.toList.length<=60/\Ur b s.cps.toList=true/\∀ z∈s.cps.toList,z=94\/bL z=true\/jO b z=true:=by decide +kernel
theorem uI:∀ c<128,bA c=true->wc c=true/\c≠94/\c∉[35,33,64]:=by decide +kernel
theorem yn{p:Pm}(h:fN p){z:Nat}(hz:jO true z=true):qc (sub p z)=true/\(sub p z=aH p.rk↔z=82)/\94∉(sub p z).cps.toList/\(z≠82->p.rk∉(sub p z).cps.toList):=by
 by_cases hw:mG z=true
 ·obtain⟨h1,h2⟩:=AY h hw;obtain⟨q1,q2,q3,q4⟩:=AZ h2;have hm:p.rk∉(sub p z).cps.toList:=fun hc=>(uI _ (q4 _ hc) (q2 _ hc)).2.2 h.rk;refine⟨zai.mpr fun c hc=>(uI c (q4 c hc) (q2 c hc)).1,⟨fun e=>?_,fun e=>by rw[e]at hw;exact absurd hw (by decide)⟩,fun hc=>(uI _ (q4 _ hc) (q2 _ hc)).2.1 rfl,fun _=>hm⟩;exact absurd (by rw[e];exact zaB.mpr rfl) hm
 ·have hw:mG z=false:=by simpa using hw
  have hm:z∈[40,41,44,59,82,123,125]:=by unfold jO at hz;rw[hw,zbD]at hz;simp at hz;simp only[zas,zbi,or_false];omega
  obtain⟨f,a,c,sq,pa,en,mk⟩:=p;have facts:∀ sq:Bool,∀ pa∈[44,59,58,124],∀ en∈[44,59,58,124],∀ mk∈[35,33,64],∀ z∈[40,41,44,59,82,123,125],∀ c∈[if z=40 then(if sq then 91 else 40)else if z=41 then(if sq then 93 else 41)else if z=44 then pa else if z=59 then en else if z=82 then mk else z],wc c=true/\(c=mk↔z=82)/\c≠94:=by decide +kernel
  obtain⟨f1,f2,f3⟩:=facts sq pa h.pa en h.en mk h.rk z hm _ (zaB.mpr rfl);have e:sub ⟨f,a,c,sq,pa,en,mk⟩ z=aH (if z=40 then(if sq then 91 else 40)else if z=41 then(if sq then 93 else 41)else if z=44 then pa else if z=59 then en else if z=82 then mk else z):=by simp only[zas,zbi,or_false]at hm;rcases hm with rfl |rfl |rfl |rfl |rfl |rfl |rfl <;> rfl
  rw[e];generalize (if z=40 then(if sq then 91 else 40)else if z=41 then(if sq then 93 else 41)else if z=44 then pa else if z=59 then en else if z=82 then mk else z)=d at *
  refine⟨?_,?_,?_,?_⟩
  ·show [d].all wc=true;rw[zay,f1];rfl
  ·rw[←f2];show aH d=aH mk↔d=mk;unfold aH;simp
  ·show 94∉[d];simpa using Ne.symm f3
  ·intro h82;show mk∉[d];rw[zaB];exact fun e=>h82 (f2.mp e.symm)
theorem KD{p:Pm}{s:Str}{z:Nat}(h:s.cps.toList=[z]):mH p s=sub p z:=by unfold mH;rw[h]
theorem G7{p:Pm}{s:Str}(h:∀ z,s.cps.toList≠[z]):mH p s=s:=by
 unfold mH;split
 ·rename_i z hz;exact absurd hz (h z)
 ·rfl
theorem Ey{p:Pm}(h:fN p){s:Str}(hs:Ew s=true):qc (mH p s)=true/\(mH p s).length<=10/\(mH p s=aH p.rk↔s=aH 82):=by
 have xu:∀ {x y:Str},x.cps.toList=y.cps.toList->x=y:=fun {x y} e=>by
  cases x;cases y;congr 1
  exact zbT.mp e
 unfold Ew at hs;split at hs
 ·rename_i z hz;rw[KD hz];obtain⟨f1,f2,_⟩:=yn h hs;refine⟨f1,by have:=(oV h hs).2.2.1;omega,?_⟩;rw[f2];have e:s=aH z:=xu hz;rw[e];unfold aH;simp
 ·rename_i l hl;have hn:∀ z,s.cps.toList≠[z]:=fun z e=>hl z e;simp only[zaa,zab]at hs;rw[G7 hn];exact⟨hs.1,by rw[←cF];exact hs.2,⟨fun e=>absurd (by rw[e];rfl) (hn p.rk),fun e=>absurd (by rw[e];rfl) (hn 82)⟩⟩
theorem A5{p:Pm}(h:fN p):∀ (l:List Str),l.all Ew=true->(∀ s∈l.map (mH p),qc s=true/\s.length<=10)/\lA p.rk (l.map (mH p))=l.countP fun s=>decide (s=aH 82)
 | [],_=>⟨(fun s hs=>by cases hs),rfl⟩
 |s::l,ha=>by
  rw[zay,zaa]at ha;obtain⟨f1,f2,f3⟩:=Ey h ha.1;obtain⟨i1,i2⟩:=A5 h l ha.2;refine⟨fun x hx=>?_,?_⟩
  ·rw[zaR]at hx;rcases zas.mp hx with rfl |hx
   ·exact⟨f1,f2⟩
   ·exact i1 x hx
  ·unfold lA at i2⊢;rw[zaR,List.countP_cons,List.countP_cons,i2];simp only[zab,f3]
theorem A6{p:Pm}(h:fN p){b:Bool}{s:Str}(hs:s∈jI b)(X:Str):
 (94∈s.cps.toList->dZ 6 4 (gh p b X (aN s.cps.toList))= .no (iJ p (upto 94 s.cps.toList) 0))/\
 (94∉s.cps.toList->∃ d a l,dZ 6 4 (gh p b X (aN s.cps.toList))= .ok d a l/\jG d=true/\d.depth<=40/\ly d<=1000/\(∀ s∈fD d,qc s=true/\s.length<=10)/\lA p.rk (fD d)=(aN s.cps.toList).count 82):=by
 have he:=Um p h.rk b hs X;obtain⟨_,_,hk,_⟩:=rH b s hs;generalize s.cps.toList=t at *
 unfold jH at he;refine⟨fun hc=>?_,fun hc=>?_⟩
 ·rw[zah (by simpa using hc)]at he;generalize dZ 6 4 (gh p b X (aN t))=r at *
  cases r with
  |ok d a l=>unfold gO at he;dsimp only at he;split at he <;> cases he
  |no n=>cases he;rfl
  |out=>cases he
 ·have hoff:aN t=t:=by
   unfold aN;rw[List.filter_eq_self];intro z hz;rw[zbX];intro e;rw[e]at hz;exact hc hz
  have hcf:t.contains 94=false:=by simpa using hc
  rw[hcf,zaj zaP]at he;unfold Ur at hk;rw[hcf,zb7]at hk;rw[hoff]at he⊢;generalize gO (dZ 6 4 (gh p0 b "" t))=q at *
  generalize dZ 6 4 (gh p b X t)=r at *
  cases q with
  |none=>cases hk
  |some q=>
   cases q with
   |inr n=>cases hk
   |inl l=>
    simp only[zaa,zab]at hk;obtain⟨m1,m2⟩:=A5 h l hk.1;cases r with
    |ok d a l'=>
     unfold gO at he;dsimp only at he;split at he
     ·rename_i hd;rw[zaa,zaa]at hd;have hst:fD d=l.map (mH p):=by
       injection he with he;injection he with he
      rw[←hst]at m1 m2;exact⟨d,a,l',rfl,hd.1,Nat.le_of_ble_eq_true hd.2.1,Nat.le_of_ble_eq_true hd.2.2,m1,by rw[m2,hk.2]⟩
     ·cases he
    |no n=>cases he
    |out=>cases he
theorem Cy(p:Pm):∀ t:List Nat,(bE p t).cps.toList=t.flatMap fun z=>(sub p z).cps.toList
 | []=>rfl
 |z::r=>by rw[bE,dz,Cy p r,List.flatMap_cons]
theorem pW{p:Pm}(h:fN p){b:Bool}{z:Nat}(hz:z=94\/bL z=true\/jO b z=true):(z=94->(sub p z).cps.toList=[94])/\(z≠94->94∉(sub p z).cps.toList)/\(z≠82->z≠94->p.rk∉(sub p z).cps.toList):=by
 rcases hz with rfl |hz |hz
 ·exact⟨(fun _=>rfl),(fun e=>absurd rfl e),fun _ e=>absurd rfl e⟩
 ·have hm:p.rk∈[35,33,64]:=h.rk;rcases oQ hz with rfl |rfl
  ·refine⟨(fun e=>by cases e),(fun _=>by show 94∉[32];decide),fun _ _=>?_⟩;show p.rk∉[32];rw[zaB];intro e;rw[e]at hm;revert hm;decide
  ·refine⟨(fun e=>by cases e),(fun _=>by show 94∉[10];decide),fun _ _=>?_⟩;show p.rk∉[10];rw[zaB];intro e;rw[e]at hm;revert hm;decide
 ·have hz':jO true z=true:=by
   unfold jO at hz⊢;cases b with
   |true=>exact hz
   |false=>simp at hz⊢;exact .inl hz
  obtain⟨_,_,f3,f4⟩:=yn h hz';refine⟨fun e=>?_,fun _=>f3,fun h1 _=>f4 h1⟩;rw[e]at hz';exact absurd hz' (by decide)
section
variable {p:Pm} (h:fN p) {b:Bool}
include h
theorem A7:∀ (t:List Nat),(∀ z∈t,z=94\/bL z=true\/jO b z=true)->(94∈(bE p t).cps.toList↔94∈t)
 | [],_=>by rw[Cy];rfl
 |z::r,hz=>by
  have ih:=A7 r fun y hy=>hz y (zae _ hy);obtain⟨m1,m2,_⟩:=pW h (hz z zac);rw[bE,dz,zaX,ih,zas];by_cases e:z=94
  ·rw[m1 e];simp[e]
  ·have:=m2 e;constructor
   ·rintro (q |q)
    ·exact absurd q this
    ·exact .inr q
   ·rintro (q |q)
    ·exact absurd q.symm e
    ·exact .inr q
theorem yo:∀ (t:List Nat),(∀ z∈t,z=94\/bL z=true\/jO b z=true)->upto 94 (bE p t).cps.toList=(bE p (upto 94 t)).cps.toList
 | [],_=>rfl
 |z::r,hz=>by
  have ih:=yo r fun y hy=>hz y (zae _ hy);obtain⟨m1,m2,_⟩:=pW h (hz z zac);rw[bE,dz];unfold upto at ih⊢;by_cases e:z=94
  ·rw[m1 e,e];rfl
  ·have hne:(z != 94)=true:=by simpa using e
   rw[List.takeWhile_append_of_pos fun c hc=>by rw[zbX];intro q;rw[q]at hc;exact m2 e hc];rw[ih,zaM,hne];show _=(bE p (z::_)).cps.toList;rw[bE,dz]
theorem A8:∀ (t:List Nat),(∀ z∈t,z=94\/bL z=true\/jO b z=true)->(bE p t).cps.toList.filter (· != 94)=(bE p (aN t)).cps.toList
 | [],_=>rfl
 |z::r,hz=>by
  have ih:=A8 r fun y hy=>hz y (zae _ hy);obtain⟨m1,m2,_⟩:=pW h (hz z zac);rw[bE,dz,List.filter_append,ih];unfold aN;by_cases e:z=94
  ·rw[m1 e,e];rfl
  ·have hne:(z != 94)=true:=by simpa using e
   rw[zb6,hne,zah rfl,bE,dz];congr 1
   rw[List.filter_eq_self];intro c hc;rw[zbX];intro q;rw[q]at hc;exact m2 e hc
theorem A9:∀ (t:List Nat),(∀ z∈t,z=94\/bL z=true\/jO b z=true)->(bE p (aN t)).cps.toList.count p.rk=(aN t).count 82
 | [],_=>rfl
 |z::r,hz=>by
  have ih:=A9 r fun y hy=>hz y (zae _ hy);obtain⟨m1,m2,m3⟩:=pW h (hz z zac);unfold aN at ih⊢;by_cases e:z=94
  ·rw[zb6,e];exact ih
  ·have hne:(z != 94)=true:=by simpa using e
   rw[zb6,hne,zah rfl,bE,dz,List.count_append,ih,zcd];by_cases e2:z=82
   ·subst e2;have:(sub p 82).cps.toList=[p.rk]:=rfl;rw[this];simp;omega
   ·rw[List.count_eq_zero.mpr (m3 e2 e)];have:(z == 82)=false:=by simpa using e2
    rw[this];simp
end
theorem nQ(c:Nat):∀ l:List Nat,PySem.StrLaws.replL [c] [] l=l.filter (· != c)
 | []=>PySem.StrLaws.replL_nil
 |d::l=>by
  by_cases e:d=c
  ·subst e;rw[PySem.StrLaws.replL_hit (by simp) (by simp)];show _=_;rw[List.nil_append];have:(d::l).drop [d].length=l:=rfl;rw[this,nQ d l];simp
  ·rw[PySem.StrLaws.replL_miss (by simpa using e),nQ c l];have:(d != c)=true:=by simpa using e
   rw[zb6,this,zah rfl]
theorem yq(c:Nat):∀ l:List Nat,cnt c l=(l.count c:Nat)
 | []=>rfl
 |d::l=>by
  rw[cnt_cons,yq c l,zcd];by_cases e:d=c
  ·subst e;simp;omega
  ·have:(d == c)=false:=by simpa using e
   rw[this];simp[e]
end G
namespace G
open PySem PySem.Spec PyProof.Rows
section
end
def Us(b:Cell)(N:Int):Prop:=∃ a m n y3 y4 y5 y6:Int,b= .lst [.d (.int a),.d (.int m),.d (.int n),.d (.int y3),.d (.int y4),.d (.int y5),.d (.int y6)]/\0<=a/\0<=m/\m<2305843009213693951/\0<=n/\n<=N
section
variable {P:bU} {ti oi k p:Nat} {S:aa} {b:Cell} {M:Int} {X:XQ} {Q:Val->aa->Prop}
theorem Us.ix(hb:S[p]?=some b)(hx:Us b M){i:Nat}(hi:i<7):∃ z:Int,cW (.loc p) (.d (.int (i:Nat))) S=some (.d (.int z),S):=by
 obtain⟨a,m,n,y3,y4,y5,y6,rfl,_⟩:=hx;have h:∀ v,L2.atI [Val.d (.int a),.d (.int m),.d (.int n),.d (.int y3),.d (.int y4),.d (.int y5),.d (.int y6)] (i:Int)=some v->cW (.loc p) (.d (.int (i:Nat))) S=some (v,S):=fun v e=>sA hb e;match i,hi with
 | 0,_=>exact⟨_,h _ rfl⟩
 | 1,_=>exact⟨_,h _ rfl⟩
 | 2,_=>exact⟨_,h _ rfl⟩
 | 3,_=>exact⟨_,h _ rfl⟩
 | 4,_=>exact⟨_,h _ rfl⟩
 | 5,_=>exact⟨_,h _ rfl⟩
 | 6,_=>exact⟨_,h _ rfl⟩
end
structure L7 where
 ways:List Str
 lines:List PyData
 text:Str
 start:Nat
 oS:PyData
section
end
@[simp] theorem aab(P:bU)(k:Nat):(P.env k).obs=P.obs:=rfl
@[simp] theorem aac(P:bU)(k:Nat):(P.env k).cls=P.cls:=rfl
section
end
section
end
section
end
def nats(ls:List Nat):List PyData:=ls.map fun i=>PyData.int (i:Nat)
section
end
def nL(ns:List Nat):List Val:=(nats ns).map Val.d
section
end
section
end
section
end
section
end
section
end
section
end
section
end
section
end
section
end
section
end
section
end
section
end
section
end
def L7.all(p:L7):List PyData:=p.lines++[.tuple [.str p.text,p.oS]]
section
end
section
end
section
end
def kG:Nat->Nat
 | 0=>5
 |d+1=>14+3 * (5+3 * kG d)
section
end
section
end
theorem G8{p:Str}(h:p.cps.size=2):two p:=by
 obtain⟨a⟩:=p;obtain⟨l⟩:=a;match l,h with
 | [x,y],_=>exact⟨x,y,rfl⟩
section
end
abbrev Tk:=Str×Str×Str
@[reducible] def tk1(g z t:Str):Tk:=(g,z,t)
section
end
def gi(b:Cell)(N:Int)(y:Int):Prop:=∃ a m n:Int,b= .lst [.d (.int a),.d (.int m),.d (.int n),.d (.int y),.d (.int 0)]/\0<=a/\0<=m/\m<2305843009213693951/\0<=n/\n<=N
theorem gi.dat{b:Cell}{N:Int}{y:Int}(h:gi b N y):qL b=true:=by obtain⟨a,m,n,rfl,_⟩:=h;rfl
theorem gi.weaken{b:Cell}{N N':Int}{y:Int}(h:gi b N y)(hn:N<=N'):gi b N' y:=by obtain⟨a,m,n,rfl,h1,h2,h3,h4,h5⟩:=h;exact⟨a,m,n,rfl,h1,h2,h3,h4,by omega⟩
theorem G9{P:bU}{ti:Nat}(hP:P.fns[ti]?=some kq)(k:Nat)(p:Nat)(many:Int)(hm:0<many)(hm2:many<2 ^ 60)(st:aa)(b:Cell)(N:Int)(hb:st[p]?=some b){y:Int}(hbox:gi b N y)(hN:N+1<=gK):∃ d b',aD P (k+1) ti [.loc p,.d (.int many)] st= .ok (.d d) (st.set p b')/\gi b' (N+1) y/\∃ r,d= .int r/\0<=r/\r<many:=by
 obtain⟨a,m,n,rfl,ha,hm0,hm1,hn0,hn1⟩:=hbox;rw[vD hP _ _ rfl];have e0:fq kq.ns [.loc p,.d (.int many)]=[some (.loc p),some (.d (.int many)),none,none]:=rfl;rw[e0];have i0:cW (.loc p) (.d (.int 0)) st=some (.d (.int a),st):=sA hb rfl;by_cases ha0:0<a
 ·refine⟨.int (a % many),.lst [.d (.int (a / many)),.d (.int m),.d (.int n),.d (.int y),.d (.int 0)],?_,⟨_,_,_,rfl,Int.ediv_nonneg ha (by omega),hm0,hm1,hn0,by omega⟩,_,rfl,zbt _ (by omega),zbg _ hm⟩;have s0:jr (.loc p) (.d (.int 0)) (.d (.int (a / many))) st=some (st.set p (.lst [.d (.int (a / many)),.d (.int m),.d (.int n),.d (.int y),.d (.int 0)])):=Ga (j:=0) hb rfl;have e:aF (P.env k) kq.body [some (.loc p),some (.d (.int many)),none,none] st= .ok (.ret (.d (.int (a % many)))) (st.set p (.lst [.d (.int (a / many)),.d (.int m),.d (.int n),.d (.int y),.d (.int 0)])):=by simp[kq,D0,i0,jd _ _ _ hm,ul _ _ _ hm (by omega),s0,ha0]
  rw[e];exact w5 _ _ _ _
 ·have i2:cW (.loc p) (.d (.int 2)) st=some (.d (.int n),st):=sA hb rfl;have s2:jr (.loc p) (.d (.int 2)) (.d (.int (n+1))) st=some (st.set p (.lst [.d (.int a),.d (.int m),.d (.int (n+1)),.d (.int y),.d (.int 0)])):=Ga (j:=2) hb rfl;have hb1:(st.set p (.lst [.d (.int a),.d (.int m),.d (.int (n+1)),.d (.int y),.d (.int 0)]))[p]?=some (.lst [.d (.int a),.d (.int m),.d (.int (n+1)),.d (.int y),.d (.int 0)]):=l9 hb;have j1:cW (.loc p) (.d (.int 1)) (st.set p (.lst [.d (.int a),.d (.int m),.d (.int (n+1)),.d (.int y),.d (.int 0)]))=some (.d (.int m),st.set p (.lst [.d (.int a),.d (.int m),.d (.int (n+1)),.d (.int y),.d (.int 0)])):=sA hb1 rfl;have j2:cW (.loc p) (.d (.int 2)) (st.set p (.lst [.d (.int a),.d (.int m),.d (.int (n+1)),.d (.int y),.d (.int 0)]))=some (.d (.int (n+1)),st.set p (.lst [.d (.int a),.d (.int m),.d (.int (n+1)),.d (.int y),.d (.int 0)])):=sA hb1 rfl;have hN':n+1<=gK:=by omega
  generalize hst1:st.set p (.lst [.d (.int a),.d (.int m),.d (.int (n+1)),.d (.int y),.d (.int 0)])=st1 at *
  generalize hn':n+1=n1 at *
  have B:gK * gK * 65537<2 ^ 900:=by decide +kernel
  have B0:gK<2 ^ 900:=by decide +kernel
  have p1:0<=65537 * n1/\65537 * n1<=65537 * gK:=⟨by omega,by omega⟩;have p2:0<=65537 * n1 * n1/\65537 * n1 * n1<=65537 * gK * gK:=⟨Int.mul_nonneg p1.1 (by omega),Int.mul_le_mul p1.2 hN' (by omega) (by omega)⟩;have q1:=je 65537 n1 st1 (by decide) (by decide +kernel) (by omega) (zaV hN' (by decide +kernel));have q2:=je (65537 * n1) n1 st1 p1.1 (zaV p1.2 (by decide +kernel)) (by omega) (zaV hN' (by decide +kernel));generalize hx2:65537 * n1 * n1=x2 at *
  have p3:0<=m+x2+11/\m+x2+11<=2305843009213693951+65537 * gK * gK+11:=⟨by omega,by omega⟩;have q3:=je (m+x2+11) 48271 st1 p3.1 (zaV p3.2 (by decide +kernel)) (by decide) (by decide +kernel);have r3:=jd ((m+x2+11) * 48271) 2305843009213693921 st1 (by decide);have p4:0<=(m+x2+11) * 48271 % 2305843009213693921/\(m+x2+11) * 48271 % 2305843009213693921<2305843009213693921:=⟨zbt _ (by decide),zbg _ (by decide)⟩;generalize (m+x2+11) * 48271 % 2305843009213693921=x4 at *
  have r4:=jd x4 1000003 st1 (by decide);have p5:0<=x4 % 1000003/\x4 % 1000003<1000003:=⟨zbt _ (by decide),zbg _ (by decide)⟩;generalize x4 % 1000003=x5 at *
  have q5:=je 99991 n1 st1 (by decide) (by decide +kernel) (by omega) (zaV hN' (by decide +kernel));have p6:0<=x5+99991 * n1/\x5+99991 * n1<=1000003+99991 * gK:=⟨by omega,by omega⟩;have q6:=je x4 (x5+99991 * n1) st1 p4.1 (Int.lt_trans p4.2 (by decide +kernel)) p6.1 (zaV p6.2 (by decide +kernel));generalize hx6:x5+99991 * n1=x6 at *
  have r6:=jd (x4 * x6) 2305843009213693907 st1 (by decide);generalize x4 * x6 % 2305843009213693907=x7 at *
  have d1:=ul x7 97 st1 (by decide) (by decide);have d2:=ul x7 1000033 st1 (by decide) (by decide);have r7:=jd (x7 / 97+x7 / 1000033) many st1 hm;refine⟨.int ((x7 / 97+x7 / 1000033) % many),.lst [.d (.int a),.d (.int m),.d (.int n1),.d (.int y),.d (.int 0)],?_,⟨_,_,_,rfl,ha,hm0,hm1,by omega,by omega⟩,_,rfl,zbt _ (by omega),zbg _ hm⟩;have e:aF (P.env k) kq.body [some (.loc p),some (.d (.int many)),none,none] st= .ok (.ret (.d (.int ((x7 / 97+x7 / 1000033) % many)))) st1:=by simp[kq,D0,i0,i2,s2,j1,j2,ha0,hn',q1,q2,hx2,q3,r3,r4,q5,hx6,q6,r6,d1,d2,r7]
  rw[e,←hst1];exact w5 _ _ _ _
theorem Zt{P:bU}{ti oi:Nat}(hP:P.fns[ti]?=some kq)(hO:P.fns[oi]?=some (Cd ti))(k:Nat)(p:Nat)(ds:List PyData)(h0:ds≠[])(hl:ds.length<=1000000)(st:aa)(b:Cell)(N:Int)(hb:st[p]?=some b){y:Int}(hbox:gi b N y)(hN:N+1<=gK):∃ d b',aD P (k+2) oi [.loc p,.d (.list ds)] st= .ok (.d d) (st.set p b')/\gi b' (N+1) y/\d∈ds:=by
 have hp:0<ds.length:=List.length_pos_iff.mpr h0;obtain⟨d,b',e,h1,r,rfl,h2,h3⟩:=G9 hP k p (ds.length:Int) (by omega) (by omega) st b N hb hbox hN;have hr:r.toNat<ds.length:=by omega
 refine⟨ds[r.toNat],b',?_,h1,List.getElem_mem hr⟩;rw[vD hO _ _ rfl];have e0:fq (Cd ti).ns [.loc p,.d (.list ds)]=[some (.loc p),some (.d (.list ds))]:=rfl;have ea:L2.atI ds r=some ds[r.toNat]:=by unfold L2.atI L2.ixN;rw[zah h2,zah (by omega)];simp[hr]
 have ex:aF (P.env (k+1)) (Cd ti).body [some (.loc p),some (.d (.list ds))] st= .ok (.ret (.d ds[r.toNat])) (st.set p b'):=by simp[Cd,XH,e,ea]
 rw[e0,ex];exact w5 _ _ _ _
section
variable {P:bU} {ti oi k p:Nat} {S:aa} {b:Cell} {M:Int} {X:XQ} {Q:Val->aa->Prop}
theorem Cz{m:Int}(hP:P.fns[ti]?=some kq)(hk:1<=k)(hb:S[p]?=some b){y:Int}(hx:gi b M y)(hM:M+1<=gK)(hm:0<m)(hm2:m<2 ^ 60)(h:∀ r b',0<=r->r<m->gi b' (M+1) y->Q (.d (.int r)) (S.set p b')):W X (aD P k ti [.loc p,.d (.int m)] S) Q:=by obtain⟨k,rfl⟩:∃ j,k=j+1:=⟨k-1,by omega⟩;obtain⟨d,b',e,h1,r,rfl,h2,h3⟩:=G9 hP k p m hm hm2 S b M hb hx hM;exact W.eq e (h r b' h2 h3 h1)
theorem wg{ds:List PyData}(hP:P.fns[ti]?=some kq)(hO:P.fns[oi]?=some (Cd ti))(hk:2<=k)(hb:S[p]?=some b){y:Int}(hx:gi b M y)(hM:M+1<=gK)(h0:ds≠[])(hl:ds.length<=1000000)(h:∀ d∈ds,∀ b',gi b' (M+1) y->Q (.d d) (S.set p b')):W X (aD P k oi [.loc p,.d (.list ds)] S) Q:=by obtain⟨k,rfl⟩:∃ j,k=j+2:=⟨k-2,by omega⟩;obtain⟨d,b',e,h1,h2⟩:=Zt hP hO k p ds h0 hl S b M hb hx hM;exact W.eq e (h d h2 b' h1)
end
def KG:Ss:=(.cons (.asg (.name 2) (.ite (.cmp .lt (.var 1) (.bi .len (.cons (.var 0) .nil))) (.ix (.var 0) (.var 1)) (.cst (.int 0)))) (.cons (.asg (.name 3) (.bin .mod (.bin .mul (.bin .add (.bin .add (.bin .mod (.var 2) (.cst (.int 2305843009213693951))) (.bin .mul (.bin .mul (.cst (.int 7919)) (.var 1)) (.var 1))) (.cst (.int 3))) (.cst (.int 48271))) (.cst (.int 2305843009213693921)))) (.cons (.ret (.lst true (.cons (.ite (.cmp .ge (.bi .abs (.cons (.var 2) .nil)) (.bin .pow (.cst (.int 10)) (.cst (.int 18)))) (.bi .abs (.cons (.var 2) .nil)) (.cst (.int 0))) (.cons (.var 3) (.cons (.cst (.int 0)) (.cons (.cst (.int 0)) (.cons (.cst (.int 0)) .nil))))))) .nil)))
def Ut:Fn:=⟨2,4,true,KG⟩
theorem Wk{P:bU}{bi:Nat}(hB:P.fns[bi]?=some (Ut))(k:Nat)(ns:List Int)(j:Nat)(hj:j<=100)(st:aa):∃ b,aD P (k+1) bi [.bW ns,.d (.int j)] st= .ok (.loc st.length) (st++[b])/\gi b 0 0:=by
 rw[vD hB _ _ rfl];have e0:fq (Ut).ns [.bW ns,.d (.int j)]=[some (.bW ns),some (.d (.int j)),none,none]:=rfl;rw[e0];obtain⟨c,st1⟩:∃ c:Int,ex (P.env k) (.asg (.name 2) (.ite (.cmp .lt (.var 1) (.bi .len (.cons (.var 0) .nil))) (.ix (.var 0) (.var 1)) (.cst (.int 0)))) [some (.bW ns),some (.d (.int j)),none,none] st= .ok (.next [some (.bW ns),some (.d (.int j)),some (.d (.int c)),none]) st:=by
  have ln:cJ .len [.bW ns] st=some (.d (.int ns.length),st):=rfl;by_cases h:(j:Int)<ns.length
  ·obtain⟨c,hc⟩:∃ c,L2.atI ns j=some c:=by
    unfold L2.atI L2.ixN;rw[zah (by omega),zah h,zaE];exact⟨_,zaW (by omega)⟩
   refine⟨c,?_⟩;have hix:cW (.bW ns) (.d (.int j)) st=some (.d (.int c),st):=by show (L2.atI ns j).bind _=_;rw[hc];rfl
   have h':j<ns.length:=by omega
   simp[ln,h',hix]
  ·refine⟨0,?_⟩;have h' : ¬ j<ns.length:=by omega
   simp[ln,h']
 show ∃ b,JD true st (aF (P.env k) (KG) _ _)=_/\_;unfold KG;rw[JR st1];have m0:=jd c 2305843009213693951 st (by decide);have p0:0<=c % 2305843009213693951/\c % 2305843009213693951<2305843009213693951:=⟨zbt _ (by decide),zbg _ (by decide)⟩;generalize c % 2305843009213693951=x0 at *
 have p1:0<=7919 * (j:Int)/\7919 * (j:Int)<=791900:=by omega
 have q1:=je 7919 j st (by decide) (by decide +kernel) (by omega) (zaV (show (j:Int)<=100 by omega) (by decide +kernel));have q2:=je (7919 * (j:Int)) j st p1.1 (zaV p1.2 (by decide +kernel)) (by omega) (zaV (show (j:Int)<=100 by omega) (by decide +kernel));have p2:0<=7919 * (j:Int) * j/\7919 * (j:Int) * j<=791900 * 100:=⟨Int.mul_nonneg p1.1 (by omega),Int.mul_le_mul p1.2 (by omega) (by omega) (by omega)⟩;generalize hx2:7919 * (j:Int) * j=x2 at *
 have p3:0<=x0+x2+3/\x0+x2+3<=2305843009213693951+791900 * 100+3:=by omega
 have q3:=je (x0+x2+3) 48271 st p3.1 (zaV p3.2 (by decide +kernel)) (by decide) (by decide +kernel);have m3:=jd ((x0+x2+3) * 48271) 2305843009213693921 st (by decide);have p4:0<=(x0+x2+3) * 48271 % 2305843009213693921/\(x0+x2+3) * 48271 % 2305843009213693921<2305843009213693921:=⟨zbt _ (by decide),zbg _ (by decide)⟩;generalize (x0+x2+3) * 48271 % 2305843009213693921=x4 at *
 have ab:cJ .abs [.d (.int c)] st=some (.d (.int (if c<0 then -c else c)),st):=rfl;have pw:=VW st;have hab:0<=(if c<0 then -c else c):=by split <;> omega
 generalize (if c<0 then -c else c)=ac at *
 have e:aF (P.env k) (.cons (.asg (.name 3) (.bin .mod (.bin .mul (.bin .add (.bin .add (.bin .mod (.var 2) (.cst (.int 2305843009213693951))) (.bin .mul (.bin .mul (.cst (.int 7919)) (.var 1)) (.var 1))) (.cst (.int 3))) (.cst (.int 48271))) (.cst (.int 2305843009213693921)))) (.cons (.ret (.lst true (.cons (.ite (.cmp .ge (.bi .abs (.cons (.var 2) .nil)) (.bin .pow (.cst (.int 10)) (.cst (.int 18)))) (.bi .abs (.cons (.var 2) .nil)) (.cst (.int 0))) (.cons (.var 3) (.cons (.cst (.int 0)) (.cons (.cst (.int 0)) (.cons (.cst (.int 0)) .nil))))))) .nil)) [some (.bW ns),some (.d (.int j)),some (.d (.int c)),none] st= .ok (.ret (.loc st.length)) (st++[.lst [.d (.int (if 1000000000000000000<=ac then ac else 0)),.d (.int x4),.d (.int 0),.d (.int 0),.d (.int 0)]]):=by
  have mk:∀ a:Int,aU true [.d (.int a),.d (.int x4),.d (.int 0),.d (.int 0),.d (.int 0)] st= .ok (.loc st.length) (st++[.lst [.d (.int a),.d (.int x4),.d (.int 0),.d (.int 0),.d (.int 0)]]):=fun a=>sr st _ (by rw[zap];simp);by_cases h:1000000000000000000<=ac
  ·simp[m0,q1,q2,q3,m3,ab,pw,h,mk]
  ·simp[m0,q1,q2,q3,m3,ab,pw,h,mk]
 rw[e];refine⟨_,rfl,_,_,_,rfl,by split <;> omega,p4.1,by omega,Int.le_refl _,Int.le_refl _⟩
section
end
end G
namespace K11
open PySem PySem.Spec PyProof.Rows G
theorem Zu:cM bq rF rG:=⟨rfl,rfl,rfl,rfl,rfl,rfl,rfl,rfl,rfl,rfl,rfl,rfl,rfl,rfl,rfl,rfl,rfl,rfl,rfl,rfl,rfl,rfl,rfl,rfl,rfl⟩
theorem Zv:kW bq (fun n=>n+1) tG:=⟨rfl,rfl,rfl,rfl,rfl,rfl,rfl,rfl,rfl,rfl,rfl,rfl,rfl,rfl,rfl,rfl,rfl,rfl,rfl⟩
def wj(p:Pm):Str:=if p.sq then "[]" else "()"
def L8(p:Pm)(b:Bool):PyData:=if b then .str (aH p.en)else .none
def eW(p:Pm)(b:Bool):PyData:=cH (.str "tt") (.str (if b then "ends" else "lines")) (aM ["-"]) (aM [wj p]) (.str (aH p.pa)) (L8 p b) (.str "{}") (.str (aH p.rk)) .none
theorem sJ{p:Pm}(h:fN p){b:Bool}:∀ (t:List Nat),(∀ z∈t,z=94\/bL z=true\/jO b z=true)->(bE p t).length<=3 * t.length
 | [],_=>zal _
 |z::r,hz=>by
  have ih:=sJ h r fun y hy=>hz y (zae _ hy);have h1:(sub p z).length<=3:=by
   rcases hz z zac with rfl |q |q
   ·show (1:Nat)<=3;omega
   ·rw[xq q];show (1:Nat)<=3;omega
   ·exact(oV h q).2.2.1
  rw[bE,j4,zaf];omega
section
variable {p:Pm} (h:fN p) {b:Bool} {s:Str} (hs:s∈jI b)
include h hs
theorem Uu:(∀ z∈aN s.cps.toList,z=94\/bL z=true\/jO b z=true)/\(bE p (aN s.cps.toList)).length<=180:=by obtain⟨_,h2,_,h4⟩:=rH b s hs;have h5:∀ z∈aN s.cps.toList,z=94\/bL z=true\/jO b z=true:=fun z hz=>h4 z ((List.mem_filter.mp hz).1);refine⟨h5,?_⟩;have h6:=sJ h _ h5;have h7:(aN s.cps.toList).length<=s.cps.toList.length:=List.length_filter_le _ _;omega
theorem Hf{k:Nat}(hk:33<=k){S:aa}(hS:aJ S){X:XQ}{Q:Val->aa->Prop}(hq:Ue S X Q (dZ 6 4 (gh p b (bE p (aN s.cps.toList)) (aN s.cps.toList)))):W X (aD bq k 32 [.d (eW p b),.d (.str (bE p (aN s.cps.toList)))] S) Q:=by
 have hcB:((if b then("ends" : Str)else "lines") == "lines") = !b:=by cases b <;> decide +kernel
 obtain⟨ho,_,_,_⟩:=rH b s hs;obtain⟨_,hl⟩:=Uu h hs;obtain⟨n,la,w⟩:=Ul h ho;have ff:=Kz (GX p h b) w;have tk:=Ui (GX p h b) w;have hsp:gM (bE p (aN s.cps.toList)) 0 0 true ((nA p (aN s.cps.toList) 0 (-1) 1).map iU)=nA p (aN s.cps.toList) 0 (-1) 1:=ff.aj _ "" (AX _).symm;have eX:j3 (oU p b) ((if b then("ends" : Str)else "lines") == "lines") (bE p (aN s.cps.toList)) ((nA p (aN s.cps.toList) 0 (-1) 1).map iU) none=gh p b (bE p (aN s.cps.toList)) (aN s.cps.toList):=by unfold j3 gh;rw[hcB,hsp,sG,zb4];rfl
 have hX:uD (gh p b (bE p (aN s.cps.toList)) (aN s.cps.toList)):=by
  refine⟨fun s hs=>(ff.fF s hs).2.2.1,?_,?_,fun s hs=>?_⟩
  ·show (bE p _).length<=900000;omega
  ·have:=ff.many;show (nA p _ 0 (-1) 1).length<=232000;omega
  ·have:=ff.fF s hs;exact⟨by show s.place<=(bE p _).length;omega,this.2.1,by omega⟩
 have e2:mF 6 4 (gh p b (bE p (aN s.cps.toList)) (aN s.cps.toList))=dZ 6 4 (gh p b (bE p (aN s.cps.toList)) (aN s.cps.toList)):=OP (by show ¬ iJ p _ 0<(bE p _).length;rw[sG];omega);have he:jD (L8 p b):=by
  unfold L8;cases b
  ·exact .inl rfl
  ·exact .inr ⟨_,rfl⟩
 refine Kv Zu Zv rfl rfl (N:=6) (m:=4) (by omega) (.str "tt") (kd:=if b then("ends" : Str)else "lines") (ps:=[wj p]) (pa:=aH p.pa) (en:=L8 p b) (bl:=.str "{}") (xs:=["-"]) (re:=.str (aH p.rk)) (qu:=.none) (fun q hq=>?_) (by simp) he (.inr ⟨_,rfl,G8 (by decide +kernel)⟩) (.inr ⟨_,rfl⟩) (fun r e=>by cases e;show (1:Nat)<=1000;omega) (.inl rfl) (x:=bE p (aN s.cps.toList)) (by omega) (tl:=(nA p (aN s.cps.toList) 0 (-1) 1).map iU) (bad:=none) tk (fun q hq=>?_) hS ?_ ?_
 ·rw[zaB]at hq;subst hq;unfold wj;split <;> exact G8 (by decide +kernel)
 ·obtain⟨s',hs',rfl⟩:=zaz.mp hq;have:=ff.fF s' hs';show s'.place<=_;omega
 ·exact eX ▸ hX
 ·have e3:mF 6 4 (j3 (oU p b) ((if b then("ends" : Str)else "lines") == "lines") (bE p (aN s.cps.toList)) ((nA p (aN s.cps.toList) 0 (-1) 1).map iU) none)=dZ 6 4 (gh p b (bE p (aN s.cps.toList)) (aN s.cps.toList)):=by rw[eX,e2]
  show Ue S X Q (mF 6 4 (j3 (oU p b) ((if b then("ends" : Str)else "lines") == "lines") (bE p (aN s.cps.toList)) ((nA p (aN s.cps.toList) 0 (-1) 1).map iU) none));rw[e3];exact hq
end
theorem Wl(d:PyData)(v0 v1 v2 v3 v4 v5 v6:Option Val)(S:aa):gI bq.cls ["LayError"] (some 4) (.keep 3) (.exc ⟨"NoRead",[("place",.d d)]⟩ [v0,v1,v2,v3,v4,v5,v6]) S= .ok (.next [v0,v1,v2,some (.xc "NoRead" [("place",d)]),none,v5,v6]) S:=by rw[AD (k:=⟨"NoRead",true,["place"],["NoRead","LayError","ValueError","Exception","BaseException"]⟩) rfl rfl rfl,D6 (fs:=[("place",d)]) rfl (by simp) (by decide)];rfl
theorem Uv(d:PyData)(S:aa):iW bq.cls ["NoBack","NoFile","NoFit","NoLine","NoLines","NoPlace","NoRule","NoStyle","NoText","NoTongue"] (.xc "NoRead" [("place",d)]) S=some (.d (.bool false),S):=by rw[w7 (k:=⟨"NoRead",true,["place"],["NoRead","LayError","ValueError","Exception","BaseException"]⟩) rfl];rfl
theorem Uw(d:PyData)(S:aa):iW bq.cls ["NoRead"] (.xc "NoRead" [("place",d)]) S=some (.d (.bool true),S):=by rw[w7 (k:=⟨"NoRead",true,["place"],["NoRead","LayError","ValueError","Exception","BaseException"]⟩) rfl];rfl
theorem Ux(d:PyData)(S:aa):iW bq.cls ["ValueError"] (.xc "NoRead" [("place",d)]) S=some (.d (.bool true),S):=by rw[w7 (k:=⟨"NoRead",true,["place"],["NoRead","LayError","ValueError","Exception","BaseException"]⟩) rfl];rfl
theorem Uy(d:PyData)(S:aa):cU bq.cls bq.obs "place" (.xc "NoRead" [("place",d)]) S=some (.d d,S):=Ox (k:=⟨"NoRead",true,["place"],["NoRead","LayError","ValueError","Exception","BaseException"]⟩) rfl rfl rfl
theorem Uz{k:Nat}(hk:2<=k)(tg d pl:PyData)(S:aa)(hr:∀ {X:XQ} {Q:Val->aa->Prop},X ⟨"NoRead",[("place",.d pl)]⟩ S->W X (aD bq (k-1) 32 [.d tg,.d d] S) Q):aD bq k 36 [.d tg,.d d] S= .ok (.d (.tuple [.none,pl])) S:=by
 refine W.fZ (W.aD (fn:=LP) rfl rfl (by omega) ?_);have ce:(bq.env (k-1)).cls=bq.cls:=rfl;have oe:(bq.env (k-1)).obs=bq.obs:=rfl;show W nX (aF (bq.env (k-1)) F2 [some (.d tg),some (.d d),none,none,none,none,none] S) (aO false S nX _);have sz2:(2:Nat)<=sizeLine:=by rw[zap];omega
 have tr:=fun v0 v1 v2 v3 v4 v5 v6=>Wl pl v0 v1 v2 v3 v4 v5 v6 S;have i0:=Uv pl S;have i1:=Uw pl S;have i2:=Ux pl S;have fl:=Uy pl S;unfold F2;simp -dsimp[sz2];refine hr ?_;simp -dsimp[pR,tr,i0,i1,i2,fl,ce,oe]
theorem KH{k:Nat}(hk:2<=k)(tg d r:PyData)(S:aa)(hr:∀ {X:XQ} {Q:Val->aa->Prop},Q (.d r) S->W X (aD bq (k-1) 32 [.d tg,.d d] S) Q):aD bq k 36 [.d tg,.d d] S= .ok (.d (.tuple [r,.str "told"])) S:=by
 refine W.fZ (W.aD (fn:=LP) rfl rfl (by omega) ?_);show W nX (aF (bq.env (k-1)) F2 [some (.d tg),some (.d d),none,none,none,none,none] S) (aO false S nX _);have sz2:(2:Nat)<=sizeLine:=by rw[zap];omega
 unfold F2;simp -dsimp[sz2];refine hr ?_;simp -dsimp
section
variable {p:Pm} (h:fN p) {b:Bool} {s:Str} (hs:s∈jI b)
include h hs
theorem KI(hm:94∈s.cps.toList){k:Nat}(hk:34<=k){S:aa}(hS:aJ S):aD bq k 36 [.d (eW p b),.d (.str (bE p (aN s.cps.toList)))] S= .ok (.d (.tuple [.none,.int (iJ p (upto 94 s.cps.toList) 0:Nat)])) S:=by refine Uz (by omega) _ _ _ S fun hX=>Hf h hs (by omega) hS ?_;rw[(A6 h hs _).1 hm];exact hX
theorem KJ(hm:94∉s.cps.toList):∃ d:PyData,jG d=true/\d.depth<=40/\ly d<=1000/\(∀ s∈fD d,qc s=true/\s.length<=10)/\lA p.rk (fD d)=(aN s.cps.toList).count 82/\
 (∀ {k:Nat},33<=k->∀ {S:aa},aJ S->aD bq k 32 [.d (eW p b),.d (.str (bE p (aN s.cps.toList)))] S= .ok (.d d) S)/\
 ∀ {k:Nat},34<=k->∀ {S:aa},aJ S->aD bq k 36 [.d (eW p b),.d (.str (bE p (aN s.cps.toList)))] S= .ok (.d (.tuple [d,.str "told"])) S:=by
 obtain⟨d,a,l,e,h1,h2,h3,h4,h5⟩:=(A6 h hs (bE p (aN s.cps.toList))).2 hm;have hr:∀ {k:Nat},33<=k->∀ {S:aa},aJ S->aD bq k 32 [.d (eW p b),.d (.str (bE p (aN s.cps.toList)))] S= .ok (.d d) S:=fun {k} hk {S} hS=>by refine W.fZ (Hf h hs hk hS ?_);rw[e];exact⟨rfl,rfl⟩
 refine⟨d,h1,h2,h3,h4,h5,hr,fun {k} hk {S} hS=>KH (by omega) _ _ _ S fun hQ=>?_⟩;rw[hr (by omega) hS];exact hQ
end
def Ba(o s pa en mk f a c:PyData):List (PyData×Val):=[(.str ⟨#[40]⟩,.d o),(.str ⟨#[41]⟩,.d s),(.str ⟨#[44]⟩,.d pa),(.str ⟨#[59]⟩,.d en),(.str ⟨#[82]⟩,.d mk),(.str ⟨#[102]⟩,.d f),(.str ⟨#[97]⟩,.d a),(.str ⟨#[99]⟩,.d c)]
def qd(o s pa en mk:PyData):List (PyData×Val):=[(.str "(",.d o),(.str ")",.d s),(.str ",",.d pa),(.str ";",.d en),(.str "R",.d mk)]
def UA(f a c:PyData):List (PyData×Val):=[(.str "f",.d f),(.str "a",.d a),(.str "c",.d c)]
theorem KN(o s pa en mk:PyData):aq [] [(PyData.str "(",Val.d o),(.str ")",.d s),(.str ",",.d pa),(.str ";",.d en),(.str "R",.d mk)]=qd o s pa en mk:=by kernel_rfl
theorem KO(f a c:PyData):aq [] [(PyData.str "f",Val.d f),(.str "a",.d a),(.str "c",.d c)]=UA f a c:=by kernel_rfl
theorem UC(o s pa en mk f a c:PyData):aq (qd o s pa en mk) (UA f a c)=Ba o s pa en mk f a c:=by kernel_rfl
theorem UD(p:Pm)(z:Nat):(bJ (Ba (.str (aH (if p.sq then 91 else 40))) (.str (aH (if p.sq then 93 else 41))) (.str (aH p.pa)) (.str (aH p.en)) (.str (aH p.rk)) (.str p.f) (.str p.a) (.str p.c)) (.str ⟨#[z]⟩)).getD (.d (.str ⟨#[z]⟩))= .d (.str (sub p z)):=by
 unfold Ba;have one:∀ c:Nat,(PyData.str ⟨#[c]⟩= .str ⟨#[z]⟩)↔z=c:=fun c=>by
  constructor
  ·intro e;cases e;rfl
  ·rintro rfl;rfl
 simp only[bJ,one];unfold sub;by_cases h1:z=40
 ·rw[zah h1,zah h1];rfl
 rw[zaj h1,zaj h1];by_cases h2:z=41
 ·rw[zah h2,zah h2];rfl
 rw[zaj h2,zaj h2];by_cases h3:z=44
 ·rw[zah h3,zah h3];rfl
 rw[zaj h3,zaj h3];by_cases h4:z=59
 ·rw[zah h4,zah h4];rfl
 rw[zaj h4,zaj h4];by_cases h5:z=82
 ·rw[zah h5,zah h5];rfl
 rw[zaj h5,zaj h5];by_cases h6:z=102
 ·rw[zah h6,zah h6];rfl
 rw[zaj h6,zaj h6];by_cases h7:z=97
 ·rw[zah h7,zah h7];rfl
 rw[zaj h7,zaj h7];by_cases h8:z=99
 ·rw[zah h8,zah h8];rfl
 rw[zaj h8,zaj h8];rfl
def k9(p:Pm):PyData:=.list [.str p.f,.str p.a,.str p.c]
def jJ(p:Pm):PyData:=.list [.str (aH (if p.sq then 91 else 40)),.str (aH (if p.sq then 93 else 41)),.str (aH p.pa),.str (aH p.en),.str (aH p.rk)]
theorem Bb(p:Pm):∀ t:List Nat,(t.map fun z=>(sub p z).cps.toList).flatten=(bE p t).cps.toList
 | []=>rfl
 |z::r=>by rw[zaR,zbR,Bb p r,bE,dz]
theorem ji{ds:List PyData}{i:Nat}{v:PyData}(h:ds[i]?=some v)(S:aa):cW (.d (.list ds)) (.d (.int (i:Nat))) S=some (.d v,S):=by
 have hi:=(zak.mp h).1;have:L2.atI ds (i:Int)=some v:=by unfold L2.atI L2.ixN;rw[zah (by omega),zah (by omega)];simpa using h
 show ((some (ds.map Val.d)).bind fun xs=>(L2.atI xs (i:Int)).bind fun v=>some (v,S))=_;have e:L2.atI (ds.map Val.d) (i:Int)=some (.d v):=by unfold L2.atI L2.ixN;rw[zah (by omega),zah (by rw[zaw];omega)];simp[h]
 rw[zaE,e];rfl
theorem strs_map(f:Nat->Str)(t:List Nat):strsOf (t.map fun z=>PyData.str (f z))=some (t.map f):=by
 induction t with
 |nil=>rfl
 |cons z r ih=>show (strsOf (r.map _)).map _=_;rw[ih];rfl
def UE(p:Pm):PyData->PyData
 | .str s=>match s.cps.toList with
   | [z]=>.str (sub p z)
   |_=>.none
 |_=>.none
theorem Ez{T:aa}{n:Nat}{kvs:List (PyData×Val)}(h:T[n]?=some (.dct kvs)):eG T (.loc n)=some kvs:=by
 show (match T[n]? with |some (.dct kvs)=>some kvs |_=>none)=_
 rw[h]
theorem KP{p:Pm}{t:Str}(hl:t.cps.toList.length<=1000)(hs:(bE p t.cps.toList).length<=1000000){k:Nat}(hk:2<=k){S:aa}(hS:aJ S):aD bq k 39 [.d (.str t),.d (k9 p),.d (jJ p)] S= .ok (.d (.str (bE p t.cps.toList))) S:=by
 refine W.fZ (W.aD (fn:=So) rfl rfl (by omega) ?_);show W nX (aF (bq.env (k-1)) Sn [some (.d (.str t)),some (.d (k9 p)),some (.d (jJ p)),none,none] S) (aO false S nX _);have w0:∀ T,cW (.d (k9 p)) (.d (.int 0)) T=some (.d (.str p.f),T):=fun T=>ji (i:=0) rfl T;have w1:∀ T,cW (.d (k9 p)) (.d (.int 1)) T=some (.d (.str p.a),T):=fun T=>ji (i:=1) rfl T;have w2:∀ T,cW (.d (k9 p)) (.d (.int 2)) T=some (.d (.str p.c),T):=fun T=>ji (i:=2) rfl T;have s0:∀ T,cW (.d (jJ p)) (.d (.int 0)) T=some (.d (.str (aH (if p.sq then 91 else 40))),T):=fun T=>ji (i:=0) rfl T;have s1:∀ T,cW (.d (jJ p)) (.d (.int 1)) T=some (.d (.str (aH (if p.sq then 93 else 41))),T):=fun T=>ji (i:=1) rfl T;have s2:∀ T,cW (.d (jJ p)) (.d (.int 2)) T=some (.d (.str (aH p.pa)),T):=fun T=>ji (i:=2) rfl T;have s3:∀ T,cW (.d (jJ p)) (.d (.int 3)) T=some (.d (.str (aH p.en)),T):=fun T=>ji (i:=3) rfl T;have s4:∀ T,cW (.d (jJ p)) (.d (.int 4)) T=some (.d (.str (aH p.rk)),T):=fun T=>ji (i:=4) rfl T;have get:=UD p;have jn:=Bb p t.cps.toList;generalize k9 p=wd at *
 generalize jJ p=sg at *
 generalize PyData.str (aH (if p.sq then 91 else 40))=o0 at *
 generalize PyData.str (aH (if p.sq then 93 else 41))=o1 at *
 generalize PyData.str (aH p.pa)=o2 at *
 generalize PyData.str (aH p.en)=o3 at *
 generalize PyData.str (aH p.rk)=o4 at *
 generalize PyData.str p.f=x0 at *
 generalize PyData.str p.a=x1 at *
 generalize PyData.str p.c=x2 at *
 have d5:∀ T,gy true [.d (.str "("),.d (.str ")"),.d (.str ","),.d (.str ";"),.d (.str "R")] [.d o0,.d o1,.d o2,.d o3,.d o4] T= .ok (.loc T.length) (T++[.dct (qd o0 o1 o2 o3 o4)]):=fun T=>by rw[←KN];rfl
 have d3:∀ T,gy false [.d (.str "f"),.d (.str "a"),.d (.str "c")] [.d x0,.d x1,.d x2] T= .ok (.d (.dict [(.str "f",x0),(.str "a",x1),(.str "c",x2)])) T:=fun T=>by
  have e:gy false [.d (.str "f"),.d (.str "a"),.d (.str "c")] [.d x0,.d x1,.d x2] T=match bY (aq [] [(PyData.str "f",Val.d x0),(.str "a",.d x1),(.str "c",.d x2)])with
   |some ds=>.ok (.d (.dict ds)) T
   |none=>.no:=rfl
  rw[e,KO];rfl
 have rc:recv .update (S++[.dct (qd o0 o1 o2 o3 o4)]) (.loc S.length)=true:=by have e2:eG (S++[.dct (qd o0 o1 o2 o3 o4)]) (.loc S.length)=some (qd o0 o1 o2 o3 o4):=Ez (kR _ _ _);show (eG _ _).isSome=true;rw[e2];rfl
 have up:bO .update (.loc S.length) [.d (.dict [(.str "f",x0),(.str "a",x1),(.str "c",x2)])] (S++[.dct (qd o0 o1 o2 o3 o4)])=some (.d .none,S++[.dct (Ba o0 o1 o2 o3 o4 x0 x1 x2)]):=by
  have e:bO .update (.loc S.length) [.d (.dict [(.str "f",x0),(.str "a",x1),(.str "c",x2)])] (S++[.dct (qd o0 o1 o2 o3 o4)])=match (S++[Cell.dct (qd o0 o1 o2 o3 o4)])[S.length]?,eG (S++[Cell.dct (qd o0 o1 o2 o3 o4)]) (.d (.dict [(.str "f",x0),(.str "a",x1),(.str "c",x2)]))with
   |some (.dct kvs),some ys=>guard' (kvs.length+ys.length<=sizeLine/\(Val.d (.dict [(.str "f",x0),(.str "a",x1),(.str "c",x2)]))≠.loc S.length) (some (.d .none,setC (S++[Cell.dct (qd o0 o1 o2 o3 o4)]) S.length (.dct (aq kvs ys))))
   |_,_=>none:=rfl
  have e2:eG (S++[Cell.dct (qd o0 o1 o2 o3 o4)]) (.d (.dict [(.str "f",x0),(.str "a",x1),(.str "c",x2)]))=some (UA x0 x1 x2):=rfl;rw[e,kR,e2];dsimp only;rw[guard_pos ⟨by rw[zap];show 8<=_;omega,by simp⟩,UC];unfold setC;rw[zb5 _ _ (zal _),Nat.sub_self];rfl
 obtain⟨T,hT⟩:∃ T,T=S++[Cell.dct (Ba o0 o1 o2 o3 o4 x0 x1 x2)]:=⟨_,rfl⟩;have hg:T[S.length]?=some (.dct (Ba o0 o1 o2 o3 o4 x0 x1 x2)):=by rw[hT,kR]
 have rg:recv .lg T (.loc S.length)=true:=by show (eG _ _).isSome=true;rw[Ez hg];rfl
 have g2:∀ z,bO .lg (.loc S.length) [.d (.str ⟨#[z]⟩),.d (.str ⟨#[z]⟩)] T=some (.d (.str (sub p z)),T):=fun z=>by have e:bO .lg (.loc S.length) [.d (.str ⟨#[z]⟩),.d (.str ⟨#[z]⟩)] T=(eG T (.loc S.length)).bind fun kvs=>guard' (isKey (.str ⟨#[z]⟩)=true) (some ((bJ kvs (.str ⟨#[z]⟩)).getD (.d (.str ⟨#[z]⟩)),T)):=rfl;have e2:eG T (.loc S.length)=some (Ba o0 o1 o2 o3 o4 x0 x1 x2):=Ez hg;rw[e,e2,zaE,guard_pos (show isKey (.str ⟨#[z]⟩)=true from rfl),get z]
 have it:bS (.d (.str t)) T=some ((t.cps.toList.map fun c=>PyData.str ⟨#[c]⟩).map Val.d,none):=by show some (t.cps.toList.map _,none)=_;rw[zbb];rfl
 have cm:=Ec (N:=bq.env (k-1)) (ρ:=[some (.d (.str t)),some (.d wd),some (.d sg),some (.loc S.length),none]) (st:=T) (elt:=.me .lg (.var 3) (.cons (.var 4) (.cons (.var 4) .nil))) (tg:=.name 4) (ifs:=.nil) (own:=[4]) (xs:=t.cps.toList.map fun c=>PyData.str ⟨#[c]⟩) (UE p) (fun x hx=>by obtain⟨z,_,rfl⟩:=zaz.mp hx;have g:=g2 z;simp -dsimp[rg,g];rfl);have ml:aU false ((t.cps.toList.map fun z=>PyData.str (sub p z)).map Val.d) T= .ok (.d (.list (t.cps.toList.map fun z=>PyData.str (sub p z)))) T:=eV (by rw[zaw,zap];omega);have jo:bO .join (.d (.str "")) [.d (.list (t.cps.toList.map fun z=>PyData.str (sub p z)))] T=some (.d (.str (bE p t.cps.toList)),T):=by
  have e:bO .join (.d (.str "")) [.d (.list (t.cps.toList.map fun z=>PyData.str (sub p z)))] T=(strsOf (t.cps.toList.map fun z=>PyData.str (sub p z))).bind fun ys=>guard' ((ys.map (·.length)).sum+ys.length * ("" : Str).length<=16777216) (dat T (.str (Txt.join "" ys))):=by show (dO T (.d (.list (t.cps.toList.map fun z=>PyData.str (sub p z))))).bind (fun ds=>(strsOf ds).bind fun ys=>guard' ((ys.map (·.length)).sum+ys.length * ("" : Str).length<=16777216) (dat T (.str (Txt.join "" ys))))=_;rw[DZ,zaE]
  have ej:Txt.join "" (t.cps.toList.map (sub p))=bE p t.cps.toList:=by
   have:(Txt.join "" (t.cps.toList.map (sub p))).cps.toList=(bE p t.cps.toList).cps.toList:=by rw[As,zbb,←jn];rfl
   revert this;generalize Txt.join "" (t.cps.toList.map (sub p))=u;generalize bE p t.cps.toList=v;intro this;cases u;cases v;congr 1
   exact zbT.mp this
  have hl0:("" : Str).length=0:=rfl;rw[e,strs_map,zaE,guard_pos (by rw[←JS,ej,hl0];omega),ej];rfl
 have fo:∀ (Q:Val->aa->Prop) (d:PyData),aO false S nX Q (.ret (.d d)) T=Q (.d d) S:=fun Q d=>by rw[hT];exact uu
 rw[←hT]at up;have em:(t.cps.toList.map fun c=>PyData.str ⟨#[c]⟩).map (UE p)=t.cps.toList.map fun z=>PyData.str (sub p z):=by rw[zbb];rfl
 rw[em]at cm;have cm2:∀ {Q:List Val->aa->Prop},Q ((t.cps.toList.map fun z=>PyData.str (sub p z)).map Val.d) T->W nX (cY (mY (bq.env (k-1)) (.me .lg (.var 3) (.cons (.var 4) (.cons (.var 4) .nil))) (.name 4) .nil [4] [some (.d (.str t)),some (.d wd),some (.d sg),some (.loc S.length),none]) none ((t.cps.toList.map fun c=>PyData.str ⟨#[c]⟩).map Val.d) T) Q:=fun hq=>cm.mono fun ys s ⟨e1,e2⟩=>by rw[e1,e2];exact hq
 clear cm em hT jn get;have rj:∀ T,recv .join T (.d (.str ""))=true:=fun T=>rfl;generalize (t.cps.toList.map fun c=>PyData.str ⟨#[c]⟩).map Val.d=xs at *
 generalize (t.cps.toList.map fun z=>PyData.str (sub p z))=ys at *
 generalize bE p t.cps.toList=U at *
 unfold Sn;simp -dsimp[w0,w1,w2,s0,s1,s2,s3,s4,d5,d3,rc,up,it,rj];refine cm2 ?_;simp -dsimp[ml,jo,fo]
end K11
namespace K11
open PySem PySem.Spec PyProof.Rows G PySem.Builtin.Str
theorem OU(a b:Int)(S:aa):cI .eq (.d (.int a)) (.d (.int b)) S=some (.d (.bool (a == b)),S):=by show (eqO (.int a) (.int b)).bind (fun k=>bl S k)=_;rw[Cb];rfl
theorem OV(a b:Int)(S:aa):cI .ne (.d (.int a)) (.d (.int b)) S=some (.d (.bool (!(a == b))),S):=by show (eqO (.int a) (.int b)).bind (fun k=>bl S (!k))=_;rw[Cb];rfl
theorem OW(a b:Str)(S:aa):cI .ne (.d (.str a)) (.d (.str b)) S=some (.d (.bool (!(a == b))),S):=by show (eqO (.str a) (.str b)).bind (fun k=>bl S (!k))=_;rw[Cc];rfl
theorem UG(a:Int)(b:Str)(S:aa):cI .ne (.d (.int a)) (.d (.str b)) S=some (.d (.bool true),S):=by
 have e:eqO (.int a) (.str b)=some false:=by unfold eqO;rw[zah ⟨rfl,rfl,by simp[PyData.depth],by simp[PyData.depth]⟩];rfl
 show (eqO (.int a) (.str b)).bind (fun k=>bl S (!k))=_;rw[e];rfl
theorem OX(m:Nat)(S:aa):nC (.d (.str "'")) (.d (.str (aH m))) S=some (.d (.str ⟨#[39,m]⟩),S):=xo (x:="'") (y:=aH m) (by show 1+1<=16777216;omega) S
theorem OY(m:Nat)(S:aa):nC (.d (.str ⟨#[39,m]⟩)) (.d (.str "'")) S=some (.d (.str ⟨#[39,m,39]⟩),S):=xo (x:=⟨#[39,m]⟩) (y:="'") (by show 2+1<=16777216;omega) S
theorem xu{x y:Str}(e:x.cps.toList=y.cps.toList):x=y:=by
 cases x;cases y;congr 1
 exact zbT.mp e
section
variable {p:Pm} (h:fN p) {b:Bool} {s:Str} (hs:s∈jI b)
include h hs
theorem Hg{k:Nat}(hk:36<=k){S:aa}(hS:aJ S):aD bq k 40 [.d (eW p b),.d (.str (bE p s.cps.toList))] S= .ok (.d (.bool true)) S:=by
 refine W.fZ (W.aD (fn:=Sq) rfl rfl (by omega) ?_);obtain⟨U,hU⟩:∃ U,U=bE p s.cps.toList:=⟨_,rfl⟩;obtain⟨X,hX⟩:∃ X,X=bE p (aN s.cps.toList):=⟨_,rfl⟩;show W nX (aF (bq.env (k-1)) LQ [some (.d (eW p b)),some (.d (.str (bE p s.cps.toList))),none,none,none,none,none] S) (aO false S nX _);obtain⟨_,hl,_,hz⟩:=rH b s hs;have hlU:U.length<=180:=by have:=sJ h _ hz;rw[hU];omega
 have i7:∀ T,cW (.d (eW p b)) (.d (.int 7)) T=some (.d (.str (aH p.rk)),T):=fun T=>rfl;have mem:=A7 h (b:=b) s.cps.toList hz;have ins:∀ T,gq (.d (.str "^")) (.d (.str U)) T=some (decide (94∈s.cps.toList)):=fun T=>by
  have:=in_one U 94 T;have e:decide (94∈U.cps.toList)=decide (94∈s.cps.toList):=by rw[hU];exact decide_eq_decide.mpr mem
  rw[e]at this;exact this
 have rp:∀ T,bO .replace (.d (.str U)) [.d (.str "^"),.d (.str "")] T=some (.d (.str X),T):=fun T=>by
  have e:bO .replace (.d (.str U)) [.d (.str "^"),.d (.str "")] T=guard' (U.length+(U.length+1) * ("" : Str).length<=16777216) (dat T (.str (Txt.replace U "^" ""))):=rfl;have el:("" : Str).length=0:=rfl;have ex:Txt.replace U "^" "" = X:=by refine xu ?_;rw[PySem.StrLaws.replace_list (by show 1<=1;omega)];have:=A8 h (b:=b) s.cps.toList hz;rw[←hU,←hX]at this;rw[←this];exact nQ 94 _
  rw[e,guard_pos (by rw[el];omega),ex];rfl
 have rcr:∀ T,recv .replace T (.d (.str U))=true:=fun T=>rfl;have fo:∀ (Q:Val->aa->Prop) (d:PyData),aO false S nX Q (.ret (.d d)) S=Q (.d d) S:=fun Q d=>iX rfl;have q1:=OX p.rk;have q2:=OY p.rk;rw[←hU];by_cases hm:94∈s.cps.toList
 ·have six:∀ T,bO .jm (.d (.str U)) [.d (.str "^")] T=some (.d (.int (iJ p (upto 94 s.cps.toList) 0:Nat)),T):=fun T=>by
   have e:bO .jm (.d (.str U)) [.d (.str "^")] T=((occurrences U ⟨#[94]⟩ 0 U.length 1).head?).bind fun i=>dat T (.int (i:Nat)):=rfl;have hin:94∈U.cps.toList.take (U.length-0):=by rw[Nat.sub_zero,←cF,za6,hU];exact mem.mpr hm
   rw[e,AJ (s:=U.cps.toList) rfl (zal _),zah hin];have el:(upto 94 (U.cps.toList.take (U.length-0))).length=iJ p (upto 94 s.cps.toList) 0:=by rw[Nat.sub_zero,←cF,za6,hU,yo h (b:=b) s.cps.toList hz,sG,zb4,cF]
   rw[el,zb4];rfl
  have ou:=KI h hs hm (k:=k-1) (by omega) hS;rw[←hX]at ou;rw[zbo hm]at ins;have rcs:∀ T,recv .jm T (.d (.str U))=true:=fun T=>rfl;have ne1:=OV (iJ p (upto 94 s.cps.toList) 0:Nat) (iJ p (upto 94 s.cps.toList) 0:Nat) S;rw[show (((iJ p (upto 94 s.cps.toList) 0:Nat):Int) == ((iJ p (upto 94 s.cps.toList) 0:Nat):Int))=true from zbv _]at ne1;have ne2:=UG (iJ p (upto 94 s.cps.toList) 0:Nat) "told" S;generalize ((iJ p (upto 94 s.cps.toList) 0:Nat):Int)=n at *
  have ib:lQ S (.d (.int n)) [.bool]=some false:=rfl;generalize eW p b=tg at *
  clear hU hX;unfold LQ;simp -dsimp[ins,six,rp,rcr,rcs,ou,ne1,ib,i7,q1,q2,ne2,fo]
 ·obtain⟨d,h1,h2,h3,h4,h5,rr,ou⟩:=KJ h hs hm;have ou:=ou (k:=k-1) (by omega) hS;have rr:=rr (k:=k-1) (by omega) hS;rw[←hX]at ou rr;rw[zaH hm]at ins;have ne1:=OW "told" "told" S;have ib:lQ S (.d (.str "told")) [.bool]=some false:=rfl;obtain⟨g1,g2⟩:=G6 d h1 h4;have rep:=Oh (s:=110000) (p:=40) (d:=d) ⟨g1,by omega,h2⟩ (by omega) (by omega) S;have hmk:p.rk≠39/\p.rk≠44/\p.rk≠41:=by
   have:∀ m∈[35,33,64],m≠39/\m≠44/\m≠41:=by decide
   exact this _ h.rk
  have c1:bO .count (.d (.str d.shown)) [.d (.str ⟨#[39,p.rk,39]⟩)] S=some (.d (.int ((aN s.cps.toList).count 82:Nat)),S):=by have e:bO .count (.d (.str d.shown)) [.d (.str ⟨#[39,p.rk,39]⟩)] S=dat S (.int (Txt.count d.shown ⟨#[39,p.rk,39]⟩)):=rfl;rw[e,Bm hmk.1 hmk.2.1 hmk.2.2 h1 (fun s hs=>(h4 s hs).1),h5];rfl
  have c2:bO .count (.d (.str X)) [.d (.str (aH p.rk))] S=some (.d (.int ((aN s.cps.toList).count 82:Nat)),S):=by have e:bO .count (.d (.str X)) [.d (.str (aH p.rk))] S=dat S (.int (Txt.count X ⟨#[p.rk]⟩)):=rfl;have ec:Txt.count X ⟨#[p.rk]⟩=cnt p.rk X.cps.toList:=count_is X p.rk;rw[e,ec,yq,hX,A9 h (b:=b) s.cps.toList hz];rfl
  have rc1:recv .count S (.d (.str d.shown))=true:=rfl;have rc2:recv .count S (.d (.str X))=true:=rfl;have eqn:=OU ((aN s.cps.toList).count 82:Nat) ((aN s.cps.toList).count 82:Nat) S;rw[show ((((aN s.cps.toList).count 82:Nat):Int) == (((aN s.cps.toList).count 82:Nat):Int))=true from zbv _]at eqn;have td:(("told" : Str) == "told")=true:=by decide +kernel
  rw[td]at ne1;generalize (((aN s.cps.toList).count 82:Nat):Int)=n at *
  generalize eW p b=tg at *
  clear hU hX;generalize d.shown=sh at *
  generalize aH p.rk=mk at *
  generalize (⟨#[39,p.rk,39]⟩:Str)=mk3 at *
  unfold LQ;simp -dsimp[ins,rp,rcr,ou,ne1,ib,i7,q1,q2,rr,rep,rc1,rc2,c1,c2,eqn,fo]
end
end K11
namespace K11
open PySem PySem.Spec PyProof.Rows G
theorem mK:bq.fns[34]?=some kq:=rfl
theorem Bc:bq.fns[35]?=some (Cd 34):=rfl
theorem KQ{k:Nat}(hk:1<=k)(S:aa):aD bq k 37 [] S= .ok (.d (.list (fE.map PyData.str))) S:=by
 refine W.fZ (W.aD (fn:=Sk) rfl rfl hk ?_);have e:aF (bq.env (k-1)) Sj [none] S= .ok (.ret (.d (.list (fE.map PyData.str)))) S:=by kernel_rfl
 show W nX (aF (bq.env (k-1)) Sj [none] S) (aO false S nX _);refine W.eq e ?_;rw[iX rfl];exact⟨rfl,rfl⟩
theorem Hh{k:Nat}(hk:1<=k)(S:aa):aD bq k 38 [] S= .ok (.d (.list (dG.map PyData.str))) S:=by
 refine W.fZ (W.aD (fn:=Sm) rfl rfl hk ?_);have e:aF (bq.env (k-1)) Sl [none] S= .ok (.ret (.d (.list (dG.map PyData.str)))) S:=by kernel_rfl
 show W nX (aF (bq.env (k-1)) Sl [none] S) (aO false S nX _);refine W.eq e ?_;rw[iX rfl];exact⟨rfl,rfl⟩
def tR(r:Int):Nat:=[44,59,58,124].getD r.toNat 0
theorem Ma{r:Int}(h0:0<=r)(h1:r<4)(S:aa):cW (.d (.str ",;:|")) (.d (.int r)) S=some (.d (.str (aH (tR r))),S):=by
 have:r=0\/r=1\/r=2\/r=3:=by omega
 rcases this with rfl |rfl |rfl |rfl <;> kernel_rfl
theorem Hi{r:Int}(h0:0<=r)(h1:r<4):tR r∈[44,59,58,124]:=by
 have:r=0\/r=1\/r=2\/r=3:=by omega
 rcases this with rfl |rfl |rfl |rfl <;> decide
theorem Wm{r q:Int}(h0:0<=r)(h1:r<4)(g0:0<=q)(g1:q<3):tR r≠tR ((r+1+q) % 4):=by
 have t1:r=0\/r=1\/r=2\/r=3:=by omega
 have t2:q=0\/q=1\/q=2:=by omega
 rcases t1 with rfl |rfl |rfl |rfl <;> rcases t2 with rfl |rfl |rfl <;> decide
theorem UH(sq:Bool)(S:aa):cW (.d (.str (if sq then "[]" else "()"))) (.d (.int 0)) S=some (.d (.str (aH (if sq then 91 else 40))),S):=by cases sq <;> kernel_rfl
theorem UI(sq:Bool)(S:aa):cW (.d (.str (if sq then "[]" else "()"))) (.d (.int 1)) S=some (.d (.str (aH (if sq then 93 else 41))),S):=by cases sq <;> kernel_rfl
def Mb:Ss:=.cons (.ite (.not (.call 40 (.cons (.var 12) (.cons (.call 39 (.cons (.var 14) (.cons (.var 8) (.cons (.var 11) .nil)))) .nil)))) (.cons (.ret (.cst (.bool false))) .nil) .nil) .nil
theorem inner{p:Pm}(h:fN p){b:Bool}{k:Nat}(hk:36<=k){S:aa}(hS:aJ S){v0 v1 v2 v3 v4 v5 v6 v7 v9 v10 v13 v14:Option Val}{Q:Fl->aa->Prop}
 (hq:∀ v14,Q (.next [v0,v1,v2,v3,v4,v5,v6,v7,some (.d (k9 p)),v9,v10,some (.d (jJ p)),some (.d (eW p b)),v13,v14]) S) :
 W nX (pQ (bq.env k) (.name 14) Mb none ((jI b).map fun s=>Val.d (.str s)) [v0,v1,v2,v3,v4,v5,v6,v7,some (.d (k9 p)),v9,v10,some (.d (jJ p)),some (.d (eW p b)),v13,v14] S) Q:=by
 have e:(jI b).map (fun s=>Val.d (.str s))=((jI b).map PyData.str).map Val.d:=by rw[zbb];rfl
 rw[e];refine AB (fun _ ρ s=>s=S/\∃ v14,ρ=[v0,v1,v2,v3,v4,v5,v6,v7,some (.d (k9 p)),v9,v10,some (.d (jJ p)),some (.d (eW p b)),v13,v14]) ⟨rfl,_,rfl⟩ ?_ ?_
 ·rintro i x ρ s hx ⟨rfl,v14,rfl⟩;have hm:x∈(jI b).map PyData.str:=zag hx;obtain⟨t,ht,rfl⟩:=zaz.mp hm;obtain⟨_,hl,_,hz⟩:=rH b t ht;have hlU:(bE p t.cps.toList).length<=180:=by
   have:=sJ h _ hz;omega
  have tr:=KP (p:=p) (t:=t) (by omega) (by omega) (k:=k) (by omega) hS;have rr:=Hg h ht (k:=k) (by omega) hS;generalize eW p b=tg at *
  generalize k9 p=wd at *
  generalize jJ p=sg at *
  generalize bE p t.cps.toList=U at *
  unfold Mb;simp -dsimp[tr,rr]
 ·rintro ρ s ⟨rfl,v14,rfl⟩;exact hq v14
def KR:Ss:=.cons (.gY (.name 14) (.e (.var 13)) Mb) .nil
theorem both{p:Pm}(h:fN p){k:Nat}(hk:36<=k){S:aa}(hS:aJ S){v0 v1 v2 v3 v4 v5 v6 v7 v12 v13 v14:Option Val}{Q:Fl->aa->Prop}
 (hq:∀ v12 v13 v14,Q (.next [v0,v1,v2,v3,v4,v5,v6,v7,some (.d (k9 p)),some (.d (eW p true)),some (.d (eW p false)),some (.d (jJ p)),v12,v13,v14]) S) :
 W nX (ex (bq.env k) (.gY (.tup (.cons (.name 12) (.cons (.name 13) .nil))) (.e (.tup (.cons (.tup (.cons (.var 9) (.cons (.call 37 .nil) .nil))) (.cons (.tup (.cons (.var 10) (.cons (.call 38 .nil) .nil))) .nil)))) KR) [v0,v1,v2,v3,v4,v5,v6,v7,some (.d (k9 p)),some (.d (eW p true)),some (.d (eW p false)),some (.d (jJ p)),v12,v13,v14] S) Q:=by
 have sz2:(2:Nat)<=sizeLine:=by rw[zap];omega
 have r37:=KQ (k:=k) (by omega) S;have r38:=Hh (k:=k) (by omega) S;have inE:=fun (v13 v14:Option Val) (QQ:Fl->aa->Prop) hq=>inner h (b:=true) hk hS (v0:=v0) (v1:=v1) (v2:=v2) (v3:=v3) (v4:=v4) (v5:=v5) (v6:=v6) (v7:=v7) (v9:=some (.d (eW p true))) (v10:=some (.d (eW p false))) (v13:=v13) (v14:=v14) (Q:=QQ) hq;have inL:=fun (v13 v14:Option Val) (QQ:Fl->aa->Prop) hq=>inner h (b:=false) hk hS (v0:=v0) (v1:=v1) (v2:=v2) (v3:=v3) (v4:=v4) (v5:=v5) (v6:=v6) (v7:=v7) (v9:=some (.d (eW p true))) (v10:=some (.d (eW p false))) (v13:=v13) (v14:=v14) (Q:=QQ) hq;have itE:bS (.d (.list (fE.map PyData.str))) S=some ((jI true).map (fun s=>Val.d (.str s)),none):=by show some ((fE.map PyData.str).map Val.d,none)=_;rw[zbb];rfl
 have itL:bS (.d (.list (dG.map PyData.str))) S=some ((jI false).map (fun s=>Val.d (.str s)),none):=by show some ((dG.map PyData.str).map Val.d,none)=_;rw[zbb];rfl
 unfold KR;generalize (jI true).map (fun s=>Val.d (.str s))=xe at *
 generalize (jI false).map (fun s=>Val.d (.str s))=xl at *
 generalize fE.map PyData.str=le at *
 generalize dG.map PyData.str=ll at *
 generalize eW p true=te at *
 generalize eW p false=tl at *
 generalize k9 p=wd at *
 generalize jJ p=sg at *
 generalize Mb=si at *
 have it2:bS (.d (.tuple [.tuple [te,.list le],.tuple [tl,.list ll]])) S=some ([.d (.tuple [te,.list le]),.d (.tuple [tl,.list ll])],none):=rfl;simp -dsimp[r37,r38,sz2,it2,kU,itE,itL];refine inE _ _ _ fun v14=>?_;simp -dsimp[r37,r38,sz2,it2,kU,itE,itL];refine inL _ _ _ fun v14=>?_;simp -dsimp;exact hq _ _ _
def wF:List Str:=["x","fun","_1"]
def wA:List Str:=["y","7","zz"]
def wC:List Str:=["w","use"]
theorem uJ:(∀ w∈wF,kI w=true)/\(∀ w∈wA,kI w=true)/\∀ w∈wC,kI w=true:=by decide +kernel
def Mc:G.S:=.par 3 4 (.call 35 (.cons (.var 2) (.cons (.lst false (.cons (.cst (.str "()")) (.cons (.cst (.str "[]")) .nil))) .nil))) (.call 34 (.cons (.var 2) (.cons (.cst (.int 4)) .nil)))
def EA:G.S:=.jP 5 6 7 (.ix (.cst (.str ",;:|")) (.var 4)) (.ix (.cst (.str ",;:|")) (.bin .mod (.bin .add (.bin .add (.var 4) (.cst (.int 1))) (.call 34 (.cons (.var 2) (.cons (.cst (.int 3)) .nil)))) (.cst (.int 4)))) (.call 35 (.cons (.var 2) (.cons (.lst false (.cons (.cst (.str "#")) (.cons (.cst (.str "!")) (.cons (.cst (.str "@")) .nil)))) .nil)))
def s8:G.S:=.asg (.name 8) (.lst false (.cons (.call 35 (.cons (.var 2) (.cons (.lst false (.cons (.cst (.str "x")) (.cons (.cst (.str "fun")) (.cons (.cst (.str "_1")) .nil)))) .nil))) (.cons (.call 35 (.cons (.var 2) (.cons (.lst false (.cons (.cst (.str "y")) (.cons (.cst (.str "7")) (.cons (.cst (.str "zz")) .nil)))) .nil))) (.cons (.call 35 (.cons (.var 2) (.cons (.lst false (.cons (.cst (.str "w")) (.cons (.cst (.str "use")) .nil))) .nil))) .nil))))
section
variable {p:Nat} {u:aa} {b:Cell} {M:Int} {L:Fl->aa->Prop} {v0 v1 v3 v4 v5 v6 v7 v8 v9 v10 v11 v12 v13 v14:Option Val}
theorem OZ{k:Nat}(hk:3<=k)(hb:u[p]?=some b)(hx:gi b M 0)(hM:M+100<=gK)(hL:∀ (sq:Bool) (r:Int),0<=r->r<4->∀ b',gi b' (M+2) 0->L (.next [v0,v1,some (.loc p),some (.d (.str (if sq then "[]" else "()"))),some (.d (.int r)),v5,v6,v7,v8,v9,v10,v11,v12,v13,v14]) (u.set p b')):
 W nX (ex (bq.env k) Mc [v0,v1,some (.loc p),v3,v4,v5,v6,v7,v8,v9,v10,v11,v12,v13,v14] u) L:=by
 have ml:∀ S,aU false [.d (.str "()"),.d (.str "[]")] S= .ok (.d (.list [.str "()",.str "[]"])) S:=fun S=>eV (ds:=[.str "()",.str "[]"]) (by simp[zap]);unfold Mc;simp -dsimp[ml];refine wg (P:=bq) mK Bc (by omega) hb hx (by omega) (by simp) (by simp) fun d hd b1 h1=>?_;obtain⟨sq,rfl⟩:∃ sq:Bool,d= .str (if sq then "[]" else "()"):=by
  simp only[zas,zbi,or_false]at hd;rcases hd with rfl |rfl
  ·exact⟨false,rfl⟩
  ·exact⟨true,rfl⟩
 have hp1:(u.set p b1)[p]?=some b1:=l9 hb;simp -dsimp;refine Cz (P:=bq) mK (by omega) hp1 h1 (by omega) (by decide) (by decide) fun r b2 r0 r1 h2=>?_;simp -dsimp;exact hL sq r r0 r1 b2 (h2.weaken (by omega))
theorem KS{k:Nat}(hk:3<=k)(hb:u[p]?=some b)(hx:gi b M 0)(hM:M+100<=gK){r:Int}(r0:0<=r)(r1:r<4)(hL:∀ (q:Int) (mk:Nat),0<=q->q<3->mk∈[35,33,64]->∀ b',gi b' (M+2) 0->L (.next [v0,v1,some (.loc p),v3,some (.d (.int r)),some (.d (.str (aH (tR r)))),some (.d (.str (aH (tR ((r+1+q) % 4))))),some (.d (.str (aH mk))),v8,v9,v10,v11,v12,v13,v14]) (u.set p b')):
 W nX (ex (bq.env k) EA [v0,v1,some (.loc p),v3,some (.d (.int r)),v5,v6,v7,v8,v9,v10,v11,v12,v13,v14] u) L:=by
 have ml:∀ S,aU false [.d (.str "#"),.d (.str "!"),.d (.str "@")] S= .ok (.d (.list [.str "#",.str "!",.str "@"])) S:=fun S=>eV (ds:=[.str "#",.str "!",.str "@"]) (by simp[zap]);have i1:=fun S=>Ma r0 r1 S;unfold EA;simp -dsimp[i1];refine Cz (P:=bq) mK (by omega) hb hx (by omega) (by decide) (by decide) fun q b1 q0 q1 h1=>?_;have hp1:(u.set p b1)[p]?=some b1:=l9 hb;have md:=fun S=>jd (r+1+q) 4 S (by decide);have i2:=fun S=>Ma (r:=(r+1+q) % 4) (zbt _ (by decide)) (zbg _ (by decide)) S;simp -dsimp[md,i2,ml];refine wg (P:=bq) mK Bc (by omega) hp1 h1 (by omega) (by simp) (by simp) fun d hd b2 h2=>?_;obtain⟨mk,hmk,rfl⟩:∃ mk:Nat,mk∈[35,33,64]/\d= .str (aH mk):=by
  simp only[zas,zbi,or_false]at hd;rcases hd with rfl |rfl |rfl
  ·exact⟨35,by simp,rfl⟩
  ·exact⟨33,by simp,rfl⟩
  ·exact⟨64,by simp,rfl⟩
 simp -dsimp;exact hL q mk q0 q1 hmk b2 (h2.weaken (by omega))
theorem UJ{k:Nat}(hk:3<=k)(hb:u[p]?=some b)(hx:gi b M 0)(hM:M+100<=gK)(hL:∀ f∈wF,∀ a∈wA,∀ c∈wC,∀ b',gi b' (M+3) 0->L (.next [v0,v1,some (.loc p),v3,v4,v5,v6,v7,some (.d (.list [.str f,.str a,.str c])),v9,v10,v11,v12,v13,v14]) (u.set p b')):
 W nX (ex (bq.env k) s8 [v0,v1,some (.loc p),v3,v4,v5,v6,v7,v8,v9,v10,v11,v12,v13,v14] u) L:=by
 have m1:∀ S,aU false [.d (.str "x"),.d (.str "fun"),.d (.str "_1")] S= .ok (.d (.list (wF.map PyData.str))) S:=fun S=>eV (ds:=wF.map PyData.str) (by rw[zap];decide);have m2:∀ S,aU false [.d (.str "y"),.d (.str "7"),.d (.str "zz")] S= .ok (.d (.list (wA.map PyData.str))) S:=fun S=>eV (ds:=wA.map PyData.str) (by rw[zap];decide);have m3:∀ S,aU false [.d (.str "w"),.d (.str "use")] S= .ok (.d (.list (wC.map PyData.str))) S:=fun S=>eV (ds:=wC.map PyData.str) (by rw[zap];decide);have m4:∀ (f a c:Str) S,aU false [.d (.str f),.d (.str a),.d (.str c)] S= .ok (.d (.list [.str f,.str a,.str c])) S:=fun f a c S=>eV (ds:=[.str f,.str a,.str c]) (by rw[zap];show 3<=_;omega);have n1:wF.map PyData.str≠[]/\(wF.map PyData.str).length<=1000000:=by decide
 have n2:wA.map PyData.str≠[]/\(wA.map PyData.str).length<=1000000:=by decide
 have n3:wC.map PyData.str≠[]/\(wC.map PyData.str).length<=1000000:=by decide
 unfold s8;simp -dsimp[m1];refine wg (P:=bq) mK Bc (by omega) hb hx (by omega) n1.1 n1.2 fun d hd b1 h1=>?_;obtain⟨f,hf,rfl⟩:=zaz.mp hd;have hp1:(u.set p b1)[p]?=some b1:=l9 hb;simp -dsimp[m2];refine wg (P:=bq) mK Bc (by omega) hp1 h1 (by omega) n2.1 n2.2 fun d hd b2 h2=>?_;obtain⟨a,ha,rfl⟩:=zaz.mp hd;have hp2:(u.set p b2)[p]?=some b2:=l9 hb;simp -dsimp[m3];refine wg (P:=bq) mK Bc (by omega) hp2 h2 (by omega) n3.1 n3.2 fun d hd b3 h3=>?_;obtain⟨c,hc,rfl⟩:=zaz.mp hd;simp -dsimp[m4];exact hL f hf a ha c hc b3 (h3.weaken (by omega))
end
def s9:G.S:=.asg (.name 9) (.tup (.cons (.cst (.str "tt")) (.cons (.cst (.str "ends")) (.cons (.tup (.cons (.cst (.str "-")) .nil)) (.cons (.tup (.cons (.var 3) .nil)) (.cons (.var 5) (.cons (.var 6) (.cons (.cst (.str "{}")) (.cons (.var 7) (.cons (.cst .none) .nil))))))))))
def s10:G.S:=.asg (.name 10) (.tup (.cons (.cst (.str "tt")) (.cons (.cst (.str "lines")) (.cons (.tup (.cons (.cst (.str "-")) .nil)) (.cons (.tup (.cons (.var 3) .nil)) (.cons (.var 5) (.cons (.cst .none) (.cons (.cst (.str "{}")) (.cons (.var 7) (.cons (.cst .none) .nil))))))))))
def s11:G.S:=.asg (.name 11) (.lst false (.cons (.ix (.var 3) (.cst (.int 0))) (.cons (.ix (.var 3) (.cst (.int 1))) (.cons (.var 5) (.cons (.var 6) (.cons (.var 7) .nil))))))
def s12:G.S:=.gY (.tup (.cons (.name 12) (.cons (.name 13) .nil))) (.e (.tup (.cons (.tup (.cons (.var 9) (.cons (.call 37 .nil) .nil))) (.cons (.tup (.cons (.var 10) (.cons (.call 38 .nil) .nil))) .nil)))) KR
theorem UK:Sv= .cons (.gY (.name 1) (.rng (.cons (.bi .max2 (.cons (.cst (.int 1)) (.cons (.bi .min2 (.cons (.cst (.int 2)) (.cons (.bi .len (.cons (.var 0) .nil)) .nil))) .nil))) .nil)) (.cons (.asg (.name 2) (.call 33 (.cons (.var 0) (.cons (.var 1) .nil)))) (.cons Mc (.cons EA (.cons s8 (.cons s9 (.cons s10 (.cons s11 (.cons s12 .nil))))))))) (.cons (.ret (.cst (.bool true))) .nil):=rfl
theorem KU{p:Pm}{k:Nat}{S:aa}{v0 v1 v2 v4 v9 v10 v11 v12 v13 v14:Option Val}{T:Ss}{Q:Fl->aa->Prop}
 (hq:W nX (aF (bq.env k) T [v0,v1,v2,some (.d (.str (wj p))),v4,some (.d (.str (aH p.pa))),some (.d (.str (aH p.en))),some (.d (.str (aH p.rk))),some (.d (k9 p)),some (.d (eW p true)),some (.d (eW p false)),some (.d (jJ p)),v12,v13,v14] S) Q) :
 W nX (aF (bq.env k) (.cons s9 (.cons s10 (.cons s11 T))) [v0,v1,v2,some (.d (.str (wj p))),v4,some (.d (.str (aH p.pa))),some (.d (.str (aH p.en))),some (.d (.str (aH p.rk))),some (.d (k9 p)),v9,v10,v11,v12,v13,v14] S) Q:=by
 have sz1:(1:Nat)<=sizeLine:=by rw[zap];omega
 have sz9:(9:Nat)<=sizeLine:=by rw[zap];omega
 have p0:∀ S,cW (.d (.str (wj p))) (.d (.int 0)) S=some (.d (.str (aH (if p.sq then 91 else 40))),S):=fun S=>UH p.sq S;have p1:∀ S,cW (.d (.str (wj p))) (.d (.int 1)) S=some (.d (.str (aH (if p.sq then 93 else 41))),S):=fun S=>UI p.sq S;have ml:∀ S,aU false [.d (.str (aH (if p.sq then 91 else 40))),.d (.str (aH (if p.sq then 93 else 41))),.d (.str (aH p.pa)),.d (.str (aH p.en)),.d (.str (aH p.rk))] S= .ok (.d (jJ p)) S:=fun S=>eV (ds:=[.str (aH (if p.sq then 91 else 40)),.str (aH (if p.sq then 93 else 41)),.str (aH p.pa),.str (aH p.en),.str (aH p.rk)]) (by rw[zap];simp);have te:eW p true= .tuple [.str "tt",.str "ends",.tuple [.str "-"],.tuple [.str (wj p)],.str (aH p.pa),.str (aH p.en),.str "{}",.str (aH p.rk),.none]:=rfl;have tl:eW p false= .tuple [.str "tt",.str "lines",.tuple [.str "-"],.tuple [.str (wj p)],.str (aH p.pa),.none,.str "{}",.str (aH p.rk),.none]:=rfl;generalize eW p true=E at *
 generalize eW p false=N at *
 generalize jJ p=sg at *
 generalize k9 p=wd at *
 generalize PyData.str (aH (if p.sq then 91 else 40))=o0 at *
 generalize PyData.str (aH (if p.sq then 93 else 41))=o1 at *
 generalize PyData.str (aH p.pa)=o2 at *
 generalize PyData.str (aH p.en)=o3 at *
 generalize PyData.str (aH p.rk)=o4 at *
 unfold s9 s10 s11;simp -dsimp[sz1,sz9,←te,←tl,p0,p1,ml];exact hq
theorem O0(ns:List Int)(h:ns.length<=63):∃ st,aD bq 64 41 [.bW ns] []= .ok (.d (.bool true)) st:=by
 have hW:W nX (aD bq 64 41 [.bW ns] []) fun v _=>v= .d (.bool true):=by
  refine W.aD (fn:=Sw) rfl rfl (by omega) ?_;show W nX (aF (bq.env 63) Sv [some (.bW ns),none,none,none,none,none,none,none,none,none,none,none,none,none,none] []) (aO false [] nX _);rw[UK];have ln:∀ S,cJ .len [.bW ns] S=some (.d (.int ns.length),S):=fun S=>rfl;have mx:∀ (a b:Int) (S:aa),cJ .max2 [.d (.int a),.d (.int b)] S=some (.d (.int (if a<b then b else a)),S):=fun _ _ _=>rfl;obtain⟨n,hn,hn3⟩:∃ n:Nat,(if(1:Int)<(if(ns.length:Int)<2 then(ns.length:Int)else 2)then(if(ns.length:Int)<2 then(ns.length:Int)else 2)else 1)=(n:Int)/\n<=2:=⟨((if(1:Int)<(if(ns.length:Int)<2 then(ns.length:Int)else 2)then(if(ns.length:Int)<2 then(ns.length:Int)else 2)else 1):Int).toNat,by split <;> split at * <;> omega,by split <;> split at * <;> omega⟩;have hbig:(0+1000:Int)<=gK:=by decide +kernel
  have r34:=fun {u:aa} {b:Cell} {M:Int} {L:Fl->aa->Prop} {p:Nat} {v0 v1 v3 v4 v5 v6 v7 v8 v9 v10 v11 v12 v13 v14:Option Val} (hb:u[p]?=some b) hx hM hL=>OZ (k:=63) (u:=u) (b:=b) (M:=M) (L:=L) (p:=p) (v0:=v0) (v1:=v1) (v3:=v3) (v4:=v4) (v5:=v5) (v6:=v6) (v7:=v7) (v8:=v8) (v9:=v9) (v10:=v10) (v11:=v11) (v12:=v12) (v13:=v13) (v14:=v14) (by omega) hb hx hM hL;have r567:=fun {u:aa} {b:Cell} {M:Int} {L:Fl->aa->Prop} {p:Nat} {v0 v1 v3 v5 v6 v7 v8 v9 v10 v11 v12 v13 v14:Option Val} (hb:u[p]?=some b) hx hM {r:Int} r0 r1 hL=>KS (k:=63) (u:=u) (b:=b) (M:=M) (L:=L) (p:=p) (r:=r) (v0:=v0) (v1:=v1) (v3:=v3) (v5:=v5) (v6:=v6) (v7:=v7) (v8:=v8) (v9:=v9) (v10:=v10) (v11:=v11) (v12:=v12) (v13:=v13) (v14:=v14) (by omega) hb hx hM r0 r1 hL;have r8:=fun {u:aa} {b:Cell} {M:Int} {L:Fl->aa->Prop} {p:Nat} {v0 v1 v3 v4 v5 v6 v7 v8 v9 v10 v11 v12 v13 v14:Option Val} (hb:u[p]?=some b) hx hM hL=>UJ (k:=63) (u:=u) (b:=b) (M:=M) (L:=L) (p:=p) (v0:=v0) (v1:=v1) (v3:=v3) (v4:=v4) (v5:=v5) (v6:=v6) (v7:=v7) (v8:=v8) (v9:=v9) (v10:=v10) (v11:=v11) (v12:=v12) (v13:=v13) (v14:=v14) (by omega) hb hx hM hL;have rLt:=fun {p:Pm} {S:aa} {v0 v1 v2 v4 v9 v10 v11 v12 v13 v14:Option Val} {T:Ss} {Q:Fl->aa->Prop} hq=>KU (p:=p) (k:=63) (S:=S) (v0:=v0) (v1:=v1) (v2:=v2) (v4:=v4) (v9:=v9) (v10:=v10) (v11:=v11) (v12:=v12) (v13:=v13) (v14:=v14) (T:=T) (Q:=Q) hq;have rB:=fun {p:Pm} (h:fN p) {S:aa} (hS:aJ S) {v0 v1 v2 v3 v4 v5 v6 v7 v12 v13 v14:Option Val} {Q:Fl->aa->Prop} hq=>both (p:=p) h (k:=63) (by omega) (S:=S) hS (v0:=v0) (v1:=v1) (v2:=v2) (v3:=v3) (v4:=v4) (v5:=v5) (v6:=v6) (v7:=v7) (v12:=v12) (v13:=v13) (v14:=v14) (Q:=Q) hq;have rB:=fun {p:Pm} (h:fN p) {S:aa} (hS:aJ S) {v0 v1 v2 v3 v4 v5 v6 v7 v12 v13 v14:Option Val} {Q:Fl->aa->Prop} hq=>show W nX (ex (bq.env 63) s12 [v0,v1,v2,v3,v4,v5,v6,v7,some (.d (k9 p)),some (.d (eW p true)),some (.d (eW p false)),some (.d (jJ p)),v12,v13,v14] S) Q from rB (p:=p) h hS hq
  generalize Mc=S34 at *
  generalize EA=S567 at *
  generalize s8=S8 at *
  generalize s9=S9 at *
  generalize s10=S10 at *
  generalize s11=S11 at *
  generalize s12=S12 at *
  obtain⟨I,hI⟩:∃ I:Nat->ae->aa->Prop,∀ i ρ s,I i ρ s↔∃ (v1 v2 v3 v4 v5 v6 v7 v8 v9 v10 v11 v12 v13 v14:Option Val),ρ=[some (.bW ns),v1,v2,v3,v4,v5,v6,v7,v8,v9,v10,v11,v12,v13,v14]/\aJ s:=⟨_,fun _ _ _=>zbU⟩;simp -dsimp[ln,Ov,mx,hn,Tr (show n<=1000000000 by omega)];refine Tn I ((hI _ _ _).mpr ⟨_,_,_,_,_,_,_,_,_,_,_,_,_,_,rfl,rfl⟩) ?_ ?_
  ·intro i ρ s hlt hi;obtain⟨v1,v2,v3,v4,v5,v6,v7,v8,v9,v10,v11,v12,v13,v14,rfl,hd⟩:=(hI _ _ _).mp hi;obtain⟨b,eb,hb⟩:=Wk (P:=bq) (bi:=33) rfl 62 ns i (by omega) s;have eb:aD bq 63 33 [.bW ns,.d (.int i)] s= .ok (.loc s.length) (s++[b]):=eb;have hg:(s++[b])[s.length]?=some b:=kR s b [];have hd':aJ (s++[b]):=hd.app (aJ.one hb.dat);generalize s++[b]=T at *
   simp -dsimp[eb];refine r34 hg hb (by omega) fun sq r r0 r1 b1 h1=>?_;have hg1:(T.set s.length b1)[s.length]?=some b1:=l9 hg;have hd1:aJ (T.set s.length b1):=hd'.set h1.dat;generalize T.set s.length b1=T1 at *
   simp -dsimp;refine r567 hg1 h1 (by omega) r0 r1 fun q mk q0 q1 hmk b2 h2=>?_;have hg2:(T1.set s.length b2)[s.length]?=some b2:=l9 hg1;have hd2:aJ (T1.set s.length b2):=hd1.set h2.dat;generalize T1.set s.length b2=T2 at *
   simp -dsimp;refine r8 hg2 h2 (by omega) fun f hf a ha c hc b3 h3=>?_;have hd3:aJ (T2.set s.length b3):=hd2.set h3.dat;generalize T2.set s.length b3=T3 at *
   have hp:fN ⟨f,a,c,sq,tR r,tR ((r+1+q) % 4),mk⟩:=⟨uJ.1 f hf,uJ.2.1 a ha,uJ.2.2 c hc,Hi r0 r1,Hi (zbt _ (by decide)) (zbg _ (by decide)),Wm r0 r1 q0 q1,hmk⟩;rw[Oo];refine rLt (p:=⟨f,a,c,sq,tR r,tR ((r+1+q) % 4),mk⟩) ?_;simp -dsimp;refine rB hp hd3 fun w12 w13 w14=>?_;simp -dsimp;exact(hI _ _ _).mpr ⟨_,_,_,_,_,_,_,_,_,_,_,_,_,_,rfl,hd3⟩
  ·intro ρ s hi;obtain⟨v1,v2,v3,v4,v5,v6,v7,v8,v9,v10,v11,v12,v13,v14,rfl,hd⟩:=(hI _ _ _).mp hi;have fo:=uu (st:=[]) (own:=s) (X:=nX) (Q:=fun v _=>v= .d (.bool true)) (d:=.bool true);simp -dsimp;exact fo.mpr rfl
 obtain⟨v,st,e,rfl⟩:=hW.run;exact⟨st,e⟩
end K11
namespace K11
open PySem G
theorem KW(ns:List Int)(h:ns.length<=63)(hb:∀ z∈ns,Builtin.Int.intBits z<=1048576):∃ st,aD bq 64 41 [.bW ns] (tab.lam.map Cell.tab)= .ok (.d (.bool true)) st:=O0 ns h
end K11
open PySem PySem.W PyProof.Rows
set_option maxHeartbeats 0 in
theorem PySem.Challenge.cw_laidtongues_k11_where_remarks_stand_holds : PySem.Challenge.rw_laidtongues_k11_where_remarks_stand.Holds := by
 w_on;o_law
 refine HandSHeadRun.head_any (r:=OpenLaw.row PySem.Challenge.rw_laidtongues_k11_where_remarks_stand) (q:=K11.vC) (H:=G.pN 8 K11.tab K11.bq K11.defs K11.xi) (ob:=G.Am 8 K11.tab K11.bq K11.defs K11.xi) (M:=5840) (loose:=K11.loose) (kwd:=[]) (G.Se 8 K11.tab K11.bq K11.defs K11.xi) (by kernel_rfl) (fun s=>by kernel_rfl) K11.topRun (by rfl) (by rfl) (by rfl) (by rfl) (by first |assumption |decide +kernel) (by decide +kernel) ⟨rfl,rfl,rfl,rfl,rfl,by decide +kernel⟩ ?hw ?hc
 case hw=>w_witness2
 case hc=>exact G.Sh (l:=PySem.Challenge.rw_laidtongues_k11_where_remarks_stand) (n:=63) (k:=64) (i:=41) (m:=8) (T:=K11.tab) (Pr:=K11.bq) (defs:=K11.defs) (xi:=K11.xi) (dd:=K11.Sy) (x:="_law_script") rfl (by decide) rfl ⟨rfl,by decide,by decide⟩ rfl rfl rfl rfl rfl (by decide +kernel) (by decide +kernel) K11.N4 rfl rfl rfl rfl (G.RX rfl) K11.KW
