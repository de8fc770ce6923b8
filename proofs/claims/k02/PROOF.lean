import PyProof.Rows.All
import Wide.All
import OpenK.AllK
import Wide.FinOn
import PySem.Challenge.RW_areawright_k02_fractions
import KE.DataCmp
import HandS.ForExc
import HandS.HeadHook1
import HandS.ExcIs
import HandS.ForMost
import HandS.Flow
import HandS.Style
import HandS.Wide
import HandS.Zip
import HandS.Rev
import HandS.RevRange
import HandS.Conv
import HandS.TupAny
import HandS.Deep
import HandS.CallSlots
import HandS.IsInst
import HandS.Iter
import HandS.NoneIn
import HandS.Dict
import HandS.Lambda
import HandS.TupMul
import KE.KeyNested
import KE.SortData
import KE.SortCalls
import KE.LtData
import KE.LtSeq
import KE.GoesEnum
import KE.GoesMore
import KE.GoesNew
import KE.GoesZip
import HandS.ExcValue
import KE.KDictWalk
import KE.KDictList
import KE.KEqDict
import KE.KDictKeyed
import HandS.More
import HandS.Flt
import HandS.StrMore
import HandS.TupSets
import KE.KDictItemsList
import KE.KDictPairs
import HandS.TryOnly
import HandS.Replace
import HandS.Defaults
import HandS.HeadHook2
import KE.KNestM
import HandS.HeadWalk
import HandS.Head0
import HandS.Head1
import HandS.Head2
import HandS.HeadEnd
import HandS.Codes
import KE.KStateDown
import Lean
set_option Elab.async false
set_option linter.all false
set_option maxRecDepth 100000
set_option maxHeartbeats 0
namespace L2
open PySem PySem.Spec PyProof.Rows
theorem tuple_mul1 (l:Addr) (items:Array Value) (n:Nat) (dd:Option Addr) (sl:Array (Option Value)) (x:Int) (u:Tok) (c0:(decide (x < -(2^63))||decide (x≥2^63))=false) (c1:(items.isEmpty||x==1)=true) :
  Meets (Builtin.«tuple.__mul__» ⟨[.ref l,.int x u],[]⟩) (fun _ R s=>s.heap.get? l=some { cls := .type "tuple", dict:=dd,data := .seq items n,slots:=sl } ∧
   R (.ok (.ret (Value.ref l))) s) :=
 .of_wp fun prog w A R s h=>by
  obtain ⟨hp,g,d,tk,os⟩:=s;obtain ⟨hl,h⟩:=h;have f1:=AutoSeq1.idx_int;wp_walk using wpAny_loadPart' hl
  repeat (first
   | (refine wpAny_ite_false (decide_eq_false (by rw [c0];exact Bool.false_ne_true)) ?_;wp_walk using wpAny_loadPart' hl)
   | (refine wpAny_ite_true (decide_eq_true c1) ?_;wp_walk using wpAny_loadPart' hl))
  exact ⟨_,rfl,h⟩
theorem tuple_mul0 (l:Addr) (items:Array Value) (n:Nat) (dd:Option Addr) (sl:Array (Option Value)) (x:Int) (u:Tok) (c0:(decide (x < -(2^63))||decide (x≥2^63))=false) (c1:(items.isEmpty||x==1)=false) (c2:(decide (x≤0)||items.isEmpty)=true) :
  Meets (Builtin.«tuple.__mul__» ⟨[.ref l,.int x u],[]⟩) (fun _ R s=>s.heap.get? l=some { cls := .type "tuple", dict:=dd,data := .seq items n,slots:=sl } ∧
   R (.ok (.ret (Value.ref s.heap.objs.size))) { s with heap:=s.heap.push { cls:=Value.type "tuple", data:=Data.seq #[] },toks:=s.toks }) :=
 .of_wp fun prog w A R s h=>by
  obtain ⟨hp,g,d,tk,os⟩:=s;obtain ⟨hl,h⟩:=h;have f1:=AutoSeq1.idx_int;wp_walk using wpAny_loadPart' hl
  repeat (first
   | (refine wpAny_ite_false (decide_eq_false (by rw [c0];exact Bool.false_ne_true)) ?_;wp_walk using wpAny_loadPart' hl)
   | (refine wpAny_ite_false (decide_eq_false (by rw [c1];exact Bool.false_ne_true)) ?_;wp_walk using wpAny_loadPart' hl)
   | (refine wpAny_ite_true (decide_eq_true c2) ?_;wp_walk using wpAny_loadPart' hl))
  exact ⟨_,rfl,h⟩
def rRepTA (K:PySem.W.Frag):R2:=fun x y H Q=>∃l k xs,x = .ref l∧y = .int k∧SqT K H l xs∧xs.length≤sizeLine∧k≤1000000 ∧ -1000000≤k∧xs.length*k.toNat≤sizeLine∧((xs=[]∨k=1)→Q (.ref l) H)∧(¬(xs=[]∨k=1)→∀p,H p=none→Q (.ref p) (upd H p (.tup (List.replicate k.toNat xs).flatten)))
section
variable {X:Cx}
theorem op_repTA:OpR X (binaryOp .Mult) (rRepTA X.K):=by
 intro pins s σ H x y v u Q I rx ry h;obtain ⟨l,k,xs,rfl,rfl,hT,hz,h1,h1',hm0,q1,q2⟩:=h;cases rx;obtain ⟨t,rfl⟩:=ry;obtain ⟨its,r,⟨⟨cls,dd,data,sl⟩,ho,hc,n,hd⟩,hs⟩:=I.tuple hT;simp only at hc hd;subst hc hd;have hle:its.length=xs.length:=r.length.symm;have c0:(decide (k < -(2^63))||decide (k≥2^63))=false:=by
  rw [decide_eq_false (by omega),decide_eq_false (by omega)] <;> rfl
 by_cases z:xs=[]∨k=1
 ·have c1:(its.toArray.isEmpty||k==1)=true:=by
   rcases z with z | z
   ·have:its=[]:=by
     rw [z] at hle;exact List.eq_nil_of_length_eq_zero hle
    subst this;rfl
   ·subst z;cases its <;> rfl
  refine wpAny_binaryOp_repeat_ref (T := "tuple") (U := "int") (by decide) ⟨_,ho,rfl⟩ (fun s'=>typeIs_int s' k t) noFill_tuple_mul F.fills_int_mul F.slot_int_rmul repeat_tuple F.slot_int_index.lookup
   (call_meets F.slot_int_rmul (typeIs_int s k t) F.entry_int_rmul (F.args_int_rmul_2 _ _) (int_rmul_tuple k t l its.toArray n dd sl)
    ⟨ho,rfl,⟨_,ho,rfl⟩,call_meets F.slot_tuple_mul ⟨_,ho,rfl⟩ F.entry_tuple_mul (F.args_tuple_mul_2 _ _) (tuple_mul1 l its.toArray n dd sl k t c0 c1) ⟨ho,?_⟩⟩)
  exact ⟨.ref l,H,I,rfl,q1 z⟩
 ·have hn:its≠[]:=fun e=>z (.inl (by
   rw [e] at hle;exact List.eq_nil_of_length_eq_zero hle.symm))
  have hi:its.toArray.isEmpty=false:=by
   cases its with
   | nil=>exact absurd rfl hn
   | cons a b=>rfl
  have c1:(its.toArray.isEmpty||k==1)=false:=by
   rw [hi,Bool.false_or];exact beq_eq_false_iff_ne.mpr fun e=>z (.inr e)
  by_cases k0:k≤0
  ·have c2:(decide (k≤0)||its.toArray.isEmpty)=true:=by rw [decide_eq_true k0];rfl
   refine wpAny_binaryOp_repeat_ref (T := "tuple") (U := "int") (by decide) ⟨_,ho,rfl⟩ (fun s'=>typeIs_int s' k t) noFill_tuple_mul F.fills_int_mul F.slot_int_rmul repeat_tuple F.slot_int_index.lookup
    (call_meets F.slot_int_rmul (typeIs_int s k t) F.entry_int_rmul (F.args_int_rmul_2 _ _) (int_rmul_tuple k t l its.toArray n dd sl)
     ⟨ho,rfl,⟨_,ho,rfl⟩,call_meets F.slot_tuple_mul ⟨_,ho,rfl⟩ F.entry_tuple_mul (F.args_tuple_mul_2 _ _) (tuple_mul0 l its.toArray n dd sl k t c0 c1 c2) ⟨ho,?_⟩⟩)
   have e0:(List.replicate k.toNat xs).flatten=[]:=by rw [show k.toNat=0 by omega];rfl
   have q2:=q2 z;rw [e0] at q2;refine ⟨.ref s.heap.objs.size,_,I.laid (t':=s.toks) (o := .tup []) (fun b ob q=>Heap.get?_push_of_some _ q) (Nat.le_refl _) ?_,rfl,q2 _ (I.hok.fresh (Nat.le_refl _))⟩;exact ⟨Nat.zero_le _,[],.nil,IsTup.new _ _⟩
  ·have hsz0:its.toArray.size=xs.length:=by rw [List.size_toArray,hle]
   have hmI:((its.toArray.size:Nat):Int)*k≤(sizeLine:Int):=by
    rw [hsz0];have:((xs.length:Nat):Int)*k=((xs.length*k.toNat:Nat):Int):=by
     rw [Int.natCast_mul,Int.toNat_of_nonneg (by omega)]
    omega
   have flen:(List.replicate k.toNat its).flatten.length≤sizeLine:=by
    rw [PyProof.Rows.lm_len_rep_flat,hle,Nat.mul_comm];exact hm0
   have c2:(decide (k≤0)||its.toArray.isEmpty)=false:=by
    rw [hi,Bool.or_false];exact decide_eq_false (by omega)
   have c4:Builtin.Tuple.tupleTooMany (((its.toArray.size:Nat):Int)*k)=false:=by
    unfold Builtin.Tuple.tupleTooMany;exact decide_eq_false (by omega)
   have sl_:(sizeLine:Int)≤100000000:=by rw [sizeLine_eq];decide
   refine wpAny_binaryOp_repeat_ref (T := "tuple") (U := "int") (by decide) ⟨_,ho,rfl⟩ (fun s'=>typeIs_int s' k t) noFill_tuple_mul F.fills_int_mul F.slot_int_rmul repeat_tuple F.slot_int_index.lookup
    (call_meets F.slot_int_rmul (typeIs_int s k t) F.entry_int_rmul (F.args_int_rmul_2 _ _) (int_rmul_tuple k t l its.toArray n dd sl)
     ⟨ho,rfl,⟨_,ho,rfl⟩,call_meets F.slot_tuple_mul ⟨_,ho,rfl⟩ F.entry_tuple_mul (F.args_tuple_mul_2 _ _) (tuple_mulW l its.toArray n dd sl k t c0 c1 c2 (by omega) c4 (by rw [size_rep,List.size_toArray];exact flen)) ⟨ho,?_⟩⟩)
   rw [size_rep];refine ⟨.ref s.heap.objs.size,_,I.laid (t':=s.toks) (o := .tup (List.replicate k.toNat xs).flatten) (fun b ob q=>Heap.get?_push_of_some _ q) (Nat.le_refl _) ?_,rfl,q2 z _ (I.hok.fresh (Nat.le_refl _))⟩;exact ⟨by rw [PyProof.Rows.lm_len_rep_flat,Nat.mul_comm];exact hm0,_,r.rep k.toNat,IsTup.new _ _⟩
end
end L2
namespace HT
open PySem PySem.Spec PyProof.Rows
section
variable {prog:Program} {w:World} {A:Around} {E:Value→Shared→Prop} {s:Shared}
theorem adjust_rev (n:Nat):Builtin.Slice.sliceAdjust none none (-1) (n:Int)=((n:Int)-1,-1):=by
 unfold Builtin.Slice.sliceAdjust;simp
theorem places_rev (n:Nat):Builtin.Slice.slicePlaces ((n:Int)-1) (-1) (-1)=n:=by
 unfold Builtin.Slice.slicePlaces;have h1:¬((-1:Int)>0):=by decide
 simp only [h1,if_false];split
 ·have:((n:Int)-1 - -1 - -1-1)/(- -1)=(n:Int):=by
   rw [show (- -1:Int)=1 by decide,Int.ediv_one] <;> omega
  first
   | (rw [this];simp;done)
   | (simp;done)
   | (simp;omega)
 ·omega
theorem sliceApplied_rev {sl:Addr} {vs:Value} {n:Nat} {Q:Int×Int×Nat→Shared→Prop} (hs:s.heap.IsSliceOf sl .none .none vs) (ps:IsPart vs (some (-1)))
  (h:Q ((n:Int)-1,-1,n) s):wpAny (model prog w) A (Builtin.Slice.sliceApplied (.ref sl) (pure (n:Int))) Q E s:=by
 obtain ⟨os,hos,hcs,hds⟩:=id hs;unfold Builtin.Slice.sliceApplied Builtin.Slice.sliceFields;refine wpAny_bind (wpAny_bind (wpAny_field hos hds (x := .none) rfl (wpAny_bind (wpAny_field hos hds (x := .none) rfl (wpAny_bind (wpAny_field hos hds (x:=vs) rfl (wpAny_pure ?_)))))));refine wpAny_bind (slicePart_ ps ?_);show wpAny _ _ (if ((-1:Int)==0)=true then _ else _) _ _ s;rw [if_neg (by decide)];refine wpAny_bind (slicePart_ .none (wpAny_bind (slicePart_ .none (wpAny_bind (wpAny_pure ?_)))));show wpAny _ _ (match Builtin.Slice.sliceAdjust none none (-1) (n:Int) with | (lo,hi)=>pure (lo,(-1:Int),Builtin.Slice.slicePlaces lo hi (-1))) _ _ s;rw [adjust_rev n];show wpAny _ _ (pure ((n:Int)-1,(-1:Int),Builtin.Slice.slicePlaces ((n:Int)-1) (-1) (-1))) _ _ s;rw [places_rev];exact wpAny_pure h
theorem fm_congr {α β:Type} {f g:α→Option β}:∀{l:List α},(∀a∈l,f a=g a)→l.filterMap f=l.filterMap g
 | [],_=>rfl
 | a::l,h=>by
  rw [List.filterMap_cons,List.filterMap_cons,h a List.mem_cons_self,fm_congr fun b hb=>h b (List.mem_cons_of_mem _ hb)]
theorem pick_rev (xs:Array Value):((List.range xs.size).filterMap fun (m:Nat)=>xs[((xs.size:Int)-1+(m:Int)*(-1)).toNat]?).toArray=xs.toList.reverse.toArray:=by
 have h1:=PySem.W.krv_all xs;rw [←h1,←List.filterMap_reverse,←PySem.W.krv_range,List.filterMap_map];congr 1
 refine fm_congr fun m hm=>?_;have:=List.mem_range.mp hm;show _=xs[xs.size-1-m]?;congr 1
 omega
theorem getItem_tuple_rev {t sl:Addr} {items:Array Value} {vs:Value} {Q:Value→Shared→Prop} (ht:IsTup s.heap t items) (hs:s.heap.IsSliceOf sl .none .none vs) (ps:IsPart vs (some (-1)))
  (h:Q (.ref s.heap.objs.size) { s with heap:=s.heap.push { cls := .type "tuple", data := .seq items.toList.reverse.toArray } })
  (hsz:items.size≤sizeLine):wpAny (model prog w) A (getItem (.ref t) (.ref sl)) Q E s:=by
 have htake:sizeOk (.seq items.toList.reverse.toArray):=by
  show items.toList.reverse.toArray.size≤sizeLine;rw [List.size_toArray,List.length_reverse,Array.length_toList];exact hsz
 obtain ⟨os,hos,hcs,hds⟩:=id hs;have hTs:s.TypeIs (.ref sl) "slice" := ⟨os,hos,hcs⟩;unfold getItem;try with_reducible refine wpAny_holding ?_
 first | refine wpAny_bind (wpAny_pure ?_) | skip
 refine wpAny_bind (wpAny_sequenceKey ht.typeIs (by decide) ?_);refine wpAny_bind (wpAny_callSpecial?_slot (name:=Str.ofString "__getitem__") ht.typeIs PyProof.Rows.slot_tuple_getitem
  (wpAny_call_entry PyProof.Rows.slot_tuple_getitem ht.typeIs entry_tuple_getitem ?_ (args_tuple_getitem _ _)))
 show wpAny _ _ (Builtin.Tuple.tupleItemsOf (.ref t) >>= _) _ _ s;refine wpAny_bind (tupleItemsOf_ ht ?_);refine wpAny_bind (wpAny_typeOf hTs ?_);rw [if_pos (by decide)];refine wpAny_bind (sliceApplied_rev hs ps ?_);show wpAny _ _ (if (((items.size:Int)-1)==0&&(-1:Int)==1&&items.size==items.size)=true then _ else _) _ _ s;have hno:¬((((items.size:Int)-1)==0&&(-1:Int)==1&&items.size==items.size)=true):=by
  intro q;rw [Bool.and_eq_true,Bool.and_eq_true] at q;have:=q.1.2;cases this
 rw [if_neg hno,pick_rev];first
  | exact wpAny_bind (m:=Builtin.Tuple.tupleExact _) (wpAny_newObj_type (wpAny_pure ⟨_,rfl,wpAny_pure h⟩) htake)
  | exact wpAny_bind (m:=Builtin.Tuple.tupleExact _) (wpAny_newObj_type (wpAny_bind (wpAny_pure (wpAny_pure ⟨_,rfl,wpAny_pure h⟩))) htake)
  | exact wpAny_bind (wpAny_bind (m:=Builtin.Tuple.tupleExact _) (wpAny_newObj_type (wpAny_pure (wpAny_pure ⟨_,rfl,wpAny_pure h⟩)) htake))
  | exact wpAny_bind (wpAny_bind (m:=Builtin.Tuple.tupleExact _) (wpAny_newObj_type (wpAny_pure ⟨_,rfl,wpAny_pure h⟩) htake))
end
end HT
namespace L2
open PySem PySem.Spec PyProof.Rows
section
variable {X:Cx}
def tRevA (K:PySem.W.Frag) (te:TE):TE:=fun σ H Q=>te σ H fun x H1=>∃a xs,x = .ref a∧((SqL K H1 a xs∧∀p,H1 p=none→Q (.ref p) (upd H1 p (.lst xs.reverse)))∨(SqT K H1 a xs∧∀p,H1 p=none→Q (.ref p) (upd H1 p (.tup xs.reverse))))
theorem pe_revA {e:Expr} {te:TE} {k:Nat} {p1 p2 p3 pos:Pos} (he:PE X e te):PE X (.Subscript e (.Slice none none (some (.UnaryOp .USub (.Constant (.int 1) k p1) p2)) p3) pos) (tRevA X.K te):=by
 refine ⟨fun pins s σ H Q I h=>?_⟩;refine Subscript_ (thn (he.run pins s σ H _ I h) fun v s1 ⟨x,H1,I1,r1,q1⟩=>?_);obtain ⟨a,xs,ex,hq⟩:=q1;subst ex;cases r1;have hst:PO X (some (.UnaryOp .USub (.Constant (.int 1) k p1) p2)) (tPart (tUn (rU fun i => .int (-i)) (tC (.int 1)))):=po_some (pe_un un_neg pe_int);refine wpAny_Slice (thn (po_none.run pins s1 σ H1 (fun o H2=>o=none∧H2=H1) I1 ⟨rfl,rfl⟩) fun vl s2 ⟨l,H2,I2,pl,el,e2⟩=>?_);subst el e2;refine thn (po_none.run pins s2 σ H2 (fun o H3=>o=none∧H3=H2) I2 ⟨rfl,rfl⟩) fun vu s3 ⟨u,H3,I3,pu,eu,e3⟩=>?_;subst eu e3;refine thn (hst.run pins s3 σ H3 (fun o H4=>o=some (-1)∧H4=H3) I3 ⟨1,rfl,-1,rfl,rfl,rfl⟩) fun vs s4 ⟨o,H4,I4,ps,eo,e4⟩=>?_;subst eo e4;have I5:Inv X pins σ H4 { s4 with heap:=s4.heap.push { cls := .type "slice", data := .fields #[vl,vu,vs] } }:=I4.kept (t':=s4.toks) fun b ob q=>Heap.get?_push_of_some _ q;cases pl;cases pu;rcases hq with ⟨hx,q⟩ | ⟨hx,q⟩
 ·obtain ⟨its,r,ht,hz⟩:=I5.list hx;have hlen:=r.length;show wpAny (model X.prog X.w) X.A (subscriptTail e (.Slice none none (some (.UnaryOp .USub (.Constant (.int 1) k p1) p2)) p3) (.ref a) (.ref s4.heap.objs.size)) (EP X pins σ Q) X.xe { s4 with heap:=s4.heap.push { cls := .type "slice", data := .fields #[.none,.none,vs] } };refine tail_any (ops:=[.ref a,.ref s4.heap.objs.size]) ht.isList.typeIs (PySem.slot_list_getitem.lookup) ?_ (by with_unfolding_all rfl);refine wpAny_getItem_list_slice ht.isList (Heap.IsSliceOf.new _ .none .none vs) .none .none ps (by decide) ?_ (by rw [List.size_toArray];omega);rw [PySem.W.krv_pick];refine ⟨.ref _,_,I5.laid (t':=s4.toks) (o := .lst xs.reverse) (fun b ob q=>Heap.get?_push_of_some _ q) (Nat.le_refl _) ?_,rfl,q _ (I5.hok.fresh (Nat.le_refl _))⟩;exact ⟨by rw [List.length_reverse];exact hz,_,0,r.reverse,Heap.get?_push_size _ rfl⟩
 ·obtain ⟨its,r,ht,hz⟩:=I5.tuple hx;have hlen:=r.length;show wpAny (model X.prog X.w) X.A (subscriptTail e (.Slice none none (some (.UnaryOp .USub (.Constant (.int 1) k p1) p2)) p3) (.ref a) (.ref s4.heap.objs.size)) (EP X pins σ Q) X.xe { s4 with heap:=s4.heap.push { cls := .type "slice", data := .fields #[.none,.none,vs] } };refine tail_any (ops:=[.ref a,.ref s4.heap.objs.size]) ht.typeIs (PyProof.Rows.slot_tuple_getitem.lookup) ?_ (by with_unfolding_all rfl);refine HT.getItem_tuple_rev ht (Heap.IsSliceOf.new _ .none .none vs) ps ?_ (by rw [List.size_toArray];omega);refine ⟨.ref _,_,I5.laid (t':=s4.toks) (o := .tup xs.reverse) (fun b ob q=>Heap.get?_push_of_some _ q) (Nat.le_refl _) ?_,rfl,q _ (I5.hok.fresh (Nat.le_refl _))⟩;exact ⟨by rw [List.length_reverse];exact hz,_,r.reverse,IsTup.new _ _⟩
end
end L2
namespace AW
open PySem PySem.Spec PyProof.Rows PySem.W PySem.SeqAt
section
variable {prog:Program} {w:World} {A:Around} {E:Value→Shared→Prop} {s:Shared}
theorem call_tuple_lt {Q:Value→Shared→Prop} {l b:Addr} {items items2:Array Value} {e r:Nat→Bool} (hl:s.heap.IsTuple l items) (hb:s.heap.IsTuple b items2)
  (he:∀j (h1:j<items.size) (h2:j<items2.size),EqAt A.in1 s items[j] items2[j] (e j)) (hr:∀j (h1:j<items.size) (h2:j<items2.size),e j=false→RcLt A.in1 s items[j] items2[j] (r j))
  (h:Q (.bool (firstLt e r (decide (items.size<items2.size)) (List.range (min items.size items2.size)))) s):wpAny (model prog w) A (call (.builtin "tuple.__lt__") [.ref l,.ref b]) Q E s:=by
 obtain ⟨⟨cls,dd,data,sl⟩,ho,hc,n,hd⟩:=id hl;obtain ⟨⟨cls2,dd2,data2,sl2⟩,ho2,hc2,n2,hd2⟩:=id hb;simp only at hc hd hc2 hd2;subst hc hd hc2 hd2;exact call_meets F.slot_tuple_lt ⟨_,ho,rfl⟩ F.entry_tuple_lt (F.args_tuple_lt_2 _ _) (tuple_ltAt l b items items2 n n2 dd dd2 sl sl2 e r) ⟨ho,ho2,he,hr,h⟩
theorem oneLt_tup {f:Bool} {xs ys:List PyData} {a b:Value} {as bs:List Addr} {Q:Bool→Shared→Prop} (ra:Reads s.heap a (.tuple xs) as) (rb:Reads s.heap b (.tuple ys) bs) (h:alike (.tuple xs) (.tuple ys)=true)
  (hu:A.units+min (PyData.tuple xs).depth (PyData.tuple ys).depth<cLine) (hq:Q (dataLt (.tuple xs) (.tuple ys)) s):wpAny (model prog w) A (oneLt' f a b) Q E s:=by
 cases f with
 | false=>exact oneLt_alike (fun z=>by cases z) ra rb h (fun z=>by cases z) hu hq
 | true =>
  have hal:alikeAll xs ys=true:=by simpa [alike] using h
  cases ra with
  | @tuple l o vs n _ as₁ h1 h2 h3 h4 =>
   cases rb with
   | @tuple l' o' vs' n' _ bs₁ k1 k2 k3 k4 =>
    have n1:vs.size=xs.length:=by simpa using ReadsAll.length _ _ _ h4
    have n2:vs'.size=ys.length:=by simpa using ReadsAll.length _ _ _ k4
    rw [dataLt_tuple,←firstLt_toks xs ys hal,←n1,←n2] at hq;rw [oneLt'_eq];simp only [if_true];refine wpAny_bind (wpAny_cRoomFor (room_here hu) ?_);refine wpAny_bind (wpAny_callSpecialIfBound?_slot (T := "tuple") ⟨_,h1,h2⟩ F.slot_tuple_lt (call_tuple_lt (e:=pairEq xs ys) (r:=fun j=>dataLt (xs.getD j .none) (ys.getD j .none)) ⟨_,h1,h2,_,h3⟩ ⟨_,k1,k2,_,k3⟩ (fun j j1 j2=>?_) (fun j j1 j2 hj=>?_) ?_))
    ·have:=eqAt_alikeAll xs ys A.in1 s vs.toList vs'.toList _ _ h4 k4 hal (room_in hu) j (by simpa using j1) (by simpa using j2);simpa using this
    ·have:=rcLt_alikeAll xs ys A.in1 s vs.toList vs'.toList _ _ h4 k4 hal (room_in hu) j (by simpa using j1) (by simpa using j2) hj;simpa using this
    ·exact wpAny_truthy_bool hq
def neD:PyData→Bool
 | .tuple []=>false
 | _=>true
theorem firsts_tups {M:Model}:∀{vs:List Value} {ds:List PyData} {Q:List (Option Value)→Shared→Prop},EachIs (fun v d=>∃as,Reads s.heap v d as) vs ds→(∀d,d∈ds→∃xs,d = .tuple xs) →
  (∀fs:List (Option Value),fs.map Option.isSome=ds.map neD→Q fs s)→wpAny M A (vs.mapM firstOfTuple') Q E s
 | _,_,Q,.nil,_,h=>by rw [List.mapM_nil];exact wpAny_pure (h [] rfl)
 | _,_,Q,.cons (b:=d) (as:=vs) ⟨as,r⟩ t,ht,h=>by
  obtain ⟨xs,rfl⟩:=ht d (List.mem_cons_self ..);rw [List.mapM_cons];refine wpAny_bind ?_;cases r with
  | @tuple a o its n _ _ ho hc hd hr =>
   rw [kas_first_eq];refine wpAny_bind (Looks.here (show Looks M s.heap (typeOf (.ref a)) o.cls from (Looks.ld ho).andThen .now) ?_);rw [hc,if_neg (by first | decide | simp)];refine wpAny_bind (listItems_at ho hd (wpAny_pure ?_));refine wpAny_bind (firsts_tups t (fun d' hd'=>ht d' (List.mem_cons_of_mem _ hd')) fun fs hfs=>wpAny_pure (h _ ?_));rw [List.map_cons,List.map_cons,hfs];congr 1
   have n1:its.size=xs.length:=by simpa using ReadsAll.length _ _ _ hr
   cases xs with
   | nil =>
    have:its[0]?=none:=by rw [Array.getElem?_eq_none];simpa using n1
    rw [this];rfl
   | cons x r =>
    have:0<its.size:=by rw [n1];simp
    rw [Array.getElem?_eq_getElem this];rfl
theorem kind_tups {M:Model} {vs:List Value} {d₀:PyData} {ds:List PyData} {Q:SortKind→Shared→Prop} (e:EachIs (fun v d=>∃as,Reads s.heap v d as) vs (d₀::ds)) (ht:∀d,d∈d₀::ds→∃xs,d = .tuple xs) (he:PyData.tuple []∈d₀::ds)
  (h:Q (if neD d₀ then general' else oneType') s):wpAny M A (keyKind' vs.toArray) Q E s:=by
 rw [kat_kind_eq,List.mapM_toArray,map_eq_pure_bind];refine wpAny_bind (wpAny_bind (firsts_tups e ht fun fs hfs=>wpAny_pure ?_));have hall:(fs.toArray.all fun x=>x.isSome)=false:=by
  rw [List.all_toArray];rw [Bool.eq_false_iff];intro z;have z2:∀b,b∈fs.map Option.isSome→b=true:=fun b hb=>by
   obtain ⟨x,hx,rfl⟩:=List.mem_map.mp hb;exact List.all_eq_true.mp z x hx
  rw [hfs] at z2;exact absurd (z2 (neD (.tuple [])) (List.mem_map.mpr ⟨_,he,rfl⟩)) (by decide)
 rw [if_neg (by rw [hall];decide)];have h0:(fs.toArray[0]?.bind id).isSome=neD d₀:=by
  cases fs with
  | nil=>cases hfs
  | cons f fs =>
   have:=(List.cons.inj hfs).1;simpa using this
 cases hn:neD d₀ with
 | true =>
  rw [hn] at h0 h;rw [if_pos h0];exact wpAny_pure h
 | false =>
  rw [hn] at h0 h;rw [if_neg (by rw [h0];decide)];rw [oneTypeOnly'_eq,List.mapM_toArray,map_eq_pure_bind];refine wpAny_bind (wpAny_bind (wpAny_bind (kas_mapM (r := .type "tuple") _ (fun v hv Q' hq=>?_) (wpAny_pure ?_))))
  ·obtain ⟨d,hd,as,r⟩:=e.left v hv;obtain ⟨xs,rfl⟩:=ht d hd;exact (looks_reads r).here hq
  ·have hall:((List.map (fun _=>Value.type "tuple") vs).toArray.all fun x=>x == .type "tuple")=true:=by
    simp only [List.all_toArray,List.all_map,List.all_eq_true];intro _ _;exact beq_self_eq_true _
   have h0:(List.map (fun _=>Value.type "tuple") vs).toArray[0]?=some (.type "tuple"):=by
    cases e with
    | cons _ _=>simp
   rw [h0];simp only [hall,if_true];exact wpAny_pure (wpAny_pure h)
theorem sortsAt_tups {vs:List Value} {ds:List PyData} (e:EachIs (fun v d=>∃as,Reads s.heap v d as) vs ds) (hal:AllAlike ds) (ht:∀d,d∈ds→∃xs,d = .tuple xs) (hu:∀d,d∈ds→A.units+d.depth<cLine):SortsAt prog w A s (dataKind s.heap ds) vs:=by
 by_cases he:PyData.tuple []∈ds
 ·refine ⟨fun v hv=>?_,?_⟩
  ·obtain ⟨d,hd,as,r⟩:=e.left v hv;exact ⟨_,dataKind_some hal hd r⟩
  ·cases ds with
   | nil=>cases he
   | cons d₀ ds =>
    refine ⟨if neD d₀ then general' else oneType',?_,fun h2 E Q hq=>kind_tups e ht he hq⟩;intro E x y a b Q ha hb hq;obtain ⟨d,as,hd,ra,rfl⟩:=dataKind_inv ha;obtain ⟨d',as',hd',rb,rfl⟩:=dataKind_inv hb;have hroom:A.units+min d.depth d'.depth<cLine:=Nat.lt_of_le_of_lt (Nat.add_le_add_left (Nat.min_le_left _ _) _) (hu d hd);have hdd:=hal d hd d' hd';obtain ⟨xs,rfl⟩:=ht d hd;obtain ⟨ys,rfl⟩:=ht d' hd';cases neD d₀ with
    | true=>exact (show wpAny (model prog w) A (oneLt' false x y) Q E s from oneLt_tup ra rb hdd hroom hq)
    | false=>exact (show wpAny (model prog w) A (oneLt' true x y) Q E s from oneLt_tup ra rb hdd hroom hq)
 ·refine SortsAt.data e hal (.inl fun d hd=>?_) hu;obtain ⟨xs,rfl⟩:=ht d hd;cases xs with
  | nil=>exact absurd hd he
  | cons x r=>exact ⟨x,r,rfl⟩
end
end AW
namespace AW
open PySem
abbrev D:=PyData
class Nm where
 n:Nat→Str
inductive R (α:Type) where
 | ok (a:α) | ex (c:Nat) | no
namespace R
def bind {α β:Type}:R α→(α→R β)→R β
 | .ok a,f=>f a
 | .ex c,_ => .ex c
 | .no,_ => .no
def nox {α:Type}:R α→R α
 | .ok a => .ok a
 | _ => .no
@[simp] theorem bind_ok {α β:Type} (a:α) (f:α→R β):(R.ok a).bind f=f a:=rfl
@[simp] theorem bind_ex {α β:Type} (c:Nat) (f:α→R β):(R.ex c:R α).bind f = .ex c:=rfl
@[simp] theorem bind_no {α β:Type} (f:α→R β):(R.no:R α).bind f = .no:=rfl
@[simp] theorem nox_ok {α:Type} (a:α):(R.ok a).nox = .ok a:=rfl
theorem bind_assoc {α β γ:Type} (r:R α) (f:α→R β) (g:β→R γ):(r.bind f).bind g=r.bind fun a=>(f a).bind g:=by cases r <;> rfl
theorem of_bind {α β:Type} {r:R α} {f:α→R β} {b:β} (h:r.bind f = .ok b):∃a,r = .ok a∧f a = .ok b:=by
 cases r with
 | ok a=>exact ⟨a,rfl,h⟩
 | ex c=>cases h
 | no=>cases h
theorem of_nox {α:Type} {r:R α} {a:α} (h:r.nox = .ok a):r = .ok a:=by
 cases r with
 | ok b=>exact h
 | ex c=>cases h
 | no=>cases h
end R
inductive Sl where
 | un | va (d:D) | ow (ds:List D) | rd (ds:List D) | er (c:Nat) | fn (n:Str) | dk (kvs:List (D×D)) | fd (kvs:List (D×D)) | dj (kvs:List (D×D)) | st (ds:List D)
def Sl.mu:Sl→Bool
 | .ow _=>true
 | .st _=>true
 | .dk _=>true
 | .dj _=>true
 | _=>false
def Sl.own:Sl→Bool
 | .ow _=>true
 | .st _=>true
 | .dk _=>true
 | .dj _=>true
 | .er _=>true
 | _=>false
abbrev En:=List Sl
mutual
inductive Tg where
 | nm (i:Nat) | tp (ts:Tgs)
inductive Tgs where
 | nil | cons (t:Tg) (r:Tgs)
end
inductive O1 where
 | neg | abs | len | list | tuple | all | strI | intB
inductive O2 where
 | add | sub | mul | fdiv | mod | pow | eq | ne | lt | le | gt | ge | is_ | isn | idx | inn | nin | max2 | min2
inductive M1 where
 | count | index
inductive Tm1 where
 | part | split | sw | strip | join
inductive Tm2 where
 | sw3 | find3
inductive Ty where
 | bi (n:String) | ow (c:Nat)
inductive Te where
 | ow (c:Nat) | top | ve
def erTy (c:Nat):Te→Bool
 | .ow k=>c==k
 | _=>true
mutual
inductive E where
 | var (i:Nat) | peek (i:Nat) | con (d:D) | emp | glb (x:Nat)
 | tup (es:Es) | lst (es:Es) | rep (es:Es) (n:E)
 | op1 (o:O1) (a:E) | op2 (o:O2) (a b:E)
 | chn (o p:O2) (a b c:E)
 | and (a b:E) | or (a b:E) | not (a:E) | ife (t a b:E)
 | slc (a:E) (lo hi:Eo)
 | revs (a:E) | trev (a:E) | repE (a n:E)
 | call (j:Nat) (es:Es) (m:Nat)
 | callv (j:Nat) (es:Es) (m:Nat)
 | fnv (n:Str) | callL (i:Nat) (cs:List (Str×Nat)) (es:Es)
 | isi (a:E) (ts:List Ty)
 | mth (o:M1) (a b:E)
 | dget (i:Nat) (k x:E) | dvals (i:Nat) | dne (i:Nat) | dkeys (i:Nat)
 | srt (a:E) | dsrt (i:Nat) | dix (i:Nat) (k:E)
 | jget (i:Nat) (k x:E) | jix (i:Nat) (k:E) | jin (i:Nat) (k:E) (neg:Bool) | jlen (i:Nat) | jsrt (i:Nat)
 | max4 (a b c d:E)
 | tx1 (o:Tm1) (a b:E) | tx2 (o:Tm2) (a b c:E) | stp (a:E) (lo hi st:Eo) | lrng (a:E) | jmax (i:Nat) | dofP (a:E) | ditl (i:Nat) | lset (a:E) | dpix (a k:E) | rplE (i:Nat) (c d:Str)
 | rfd (j:Nat) (ks:List Nat) (e:E)
 | cmpP (elt:E) (tg:Tg) (i:Nat) (ifs:Eo) (own:List (Str×Nat))
 | erv (i:Nat) | isE (i:Nat) (ks:List Nat) (ts:List Te) | isN (i:Nat) (neg:Bool)
 | cmp (elt:E) (tg:Tg) (it:It) (ifs:Eo) (own:List (Str×Nat))
inductive Es where
 | nil | cons (e:E) (r:Es)
inductive Eo where
 | none | some (e:E)
inductive It where
 | seq (a:E) | rng1 (a:E) | rng2 (a b:E) | rng3 (a b c:E) | rev (a:E) | revr (a:E) | enum (a:E) | zip (a b:E) | ditems (i:Nat) | txt (a:E)
end
mutual
inductive XE where
 | pu (e:E) | st (j i:Nat) (xs:Xs) | not (a:XE) | op2 (o:O2) (a b:XE) | tup (xs:Xs) | lst (xs:Xs) | call (j:Nat) (xs:Xs) (m:Nat) | and (a b:XE) | or (a b:XE)
 | cmp (elt:XE) (i:Nat) (n:XE) (own:List (Str×Nat))
inductive Xs where
 | nil | cons (x:XE) (r:Xs) | ln (i:Nat) (r:Xs)
end
mutual
inductive S where
 | pass
 | asg (tg:Tg) (e:E)
 | asgO (i:Nat) (e:E)
 | dnew (i:Nat) | jnew (i:Nat)
 | ins (i:Nat) (k e:E)
 | asgC (i:Nat) (own:Bool) (e:E)
 | par (is:List Nat) (es:Es)
 | parL (i j k:Nat) (a b e:E)
 | parM (i j k:Nat) (a b e:E)
 | xpar (i j:Nat) (a b:XE)
 | setI (i:Nat) (k e:E)
 | aug (i:Nat) (o:O2) (e:E)
 | app (i:Nat) (e:E)
 | extT (i:Nat) (e:E)
 | pop (i:Nat)
 | popA (tg:Tg) (i:Nat)
 | minK (i k lo:Nat) (t:E)
 | popT (f i lo:Nat)
 | rvs (i:Nat)
 | frz (i:Nat)
 | ite (t:E) (a b:Ss)
 | whl (t:E) (b:Ss)
 | for_ (tg:Tg) (it:It) (b:Ss)
 | ret (e:E) | retO (i:Nat) | retN
 | retT (i:Nat) (e:E) | retL (a e:E)
 | brk | cnt
 | rai (c:Nat)
 | exp (e:E)
 | tryA (h i:Nat) (ks:List Nat) (b:Ss)
 | tryN (k i:Nat) (b:Ss)
 | iteR (t:E) (f i:Nat) (c d:Str) (e:E) (b:Ss)
 | xasg (tg:Tg) (x:XE) | xret (x:XE) | xite (x:XE) (a b:Ss) | xapp (i:Nat) (x:XE) | xfor (i:Nat) (x:XE) (b:Ss) | augI (i:Nat) (o:O2) (k e:E)
 | dead
inductive Ss where
 | nil | cons (s:S) (r:Ss)
 | spl (i j n:Nat) (es:Es) (t:E) (r:Ss)
 | rf (h i:Nat) (r:Ss)
 | wks (i w j:Nat) (ks:List Nat) (es:Es) (r:Ss)
 | tok (s t:S) (r:Ss)
end
inductive Fl where
 | nx (en:En) | bk (en:En) | ct (en:En) | rt (d:D) (f:Bool) | ex (c:Nat) (en:En) | rtT (ds r:List D) | rtS (d:D) (ds:List D)
def lf {α:Type} (en:En):R α→(α→R Fl)→R Fl
 | .ok a,f=>f a
 | .ex c,_ => .ok (.ex c en)
 | .no,_ => .no
@[simp] theorem lf_ok {α:Type} (en:En) (a:α) (f:α→R Fl):lf en (.ok a) f=f a:=rfl
@[simp] theorem lf_no {α:Type} (en:En) (f:α→R Fl):lf en .no f = .no:=rfl
@[simp] theorem lf_ex {α:Type} (en:En) (c:Nat) (f:α→R Fl):lf en (.ex c) f = .ok (.ex c en):=rfl
mutual
def nk:D→NestedKey
 | .int i => .num i
 | .tuple ds => .tup (nks ds)
 | _ => .none
def nks:List D→List NestedKey
 | []=>[]
 | d::ds=>nk d::nks ds
end
mutual
def keyB:D→Bool
 | .int _=>true
 | .tuple ds=>keyBs ds
 | _=>false
def keyBs:List D→Bool
 | []=>true
 | d::ds=>keyB d&&keyBs ds
end
def tupB:D→Bool
 | .tuple _=>true
 | _=>false
def keyOk (d:D):Bool:=tupB d&&keyB d&&decide ((nk d).depth≤8)
def line:Nat:=16777216
def tru:D→Bool
 | .none=>false
 | .bool b=>b
 | .int i=>i != 0
 | .str x=>(x.length:Int) != 0
 | .list xs => !xs.isEmpty
 | .tuple xs => !xs.isEmpty
 | .dict kvs => !kvs.isEmpty
def truR:D→R Bool
 | .dict _ => .no
 | .str x=>if x.length≤line then .ok (tru (.str x)) else .no
 | d => .ok (tru d)
def mulOk (i j:Int):Bool:=decide (i.natAbs<2^64∨j.natAbs<2^64∨i.natAbs.log2+j.natAbs.log2<100000000)
def cutL (xs:List D) (lo hi:Option Int):List D:=(xs.drop (HT.sIx xs.length 0 lo)).take (HT.sIx xs.length xs.length hi-HT.sIx xs.length 0 lo)
def allB:List D→R Bool
 | [] => .ok true
 | .bool b::r=>(allB r).bind fun c => .ok (b&&c)
 | _ => .no
def v1 (d:D):R (D×Bool) := .ok (d,false)
def sem1:O1→D→R (D×Bool)
 | .neg,.int i=>v1 (.int (-i))
 | .abs,.int i=>v1 (.int (if i<0 then -i else i))
 | .len,.list xs=>v1 (.int xs.length)
 | .len,.tuple xs=>v1 (.int xs.length)
 | .len,.str x=>if x.length≤line then v1 (.int x.length) else .no
 | .list,.list xs => .ok (.list xs,true)
 | .list,.tuple xs => .ok (.list xs,true)
 | .tuple,.list xs=>v1 (.tuple xs)
 | .tuple,.tuple xs=>v1 (.tuple xs)
 | .all,.list xs=>(allB xs).bind fun b=>v1 (.bool b)
 | .intB,.bool b=>v1 (.int (if b then 1 else 0))
 | .intB,.int i=>v1 (.int i)
 | .intB,.str x=>if x.length≤640 then (match PySem.intText? x with
  | some n=>v1 (.int n)
  | none => .no) else .no
 | .strI,.int i=>if i.natAbs.log2<1920 then v1 (.str (toString i)) else .no
 | _,_ => .no
def isD:D→D→R Bool
 | .none,.none => .ok true
 | _,.none => .ok false
 | .bool a,.bool b => .ok (a==b)
 | _,_ => .no
def cmpI (f:Int→Int→Bool):D→D→R (D×Bool)
 | .int i,.int j=>v1 (.bool (f i j))
 | _,_ => .no
def ltR:D→D→R (D×Bool)
 | .int i,.int j=>v1 (.bool (decide (i<j)))
 | .tuple xs,.tuple ys=>if keyB (.tuple xs)=true∧keyB (.tuple ys)=true∧(PyData.tuple xs).depth≤8∧PySem.W.alike (.tuple xs) (.tuple ys)=true then v1 (.bool (PySem.W.dataLt (.tuple xs) (.tuple ys))) else .no
 | _,_ => .no
def atD (xs:List D) (i:Int):R (D×Bool):=match L2.atI xs i with
 | some d=>v1 d
 | none => .no
def sgn1 (x:Str):Option Nat:=match x.cps.toList with
 | [c]=>some c
 | _=>none
def sgnAt (x:Str) (i:Int):R (D×Bool):=if x.length≤line then (match L2.atI x.cps.toList i with
 | some c=>v1 (.str ⟨#[c]⟩)
 | none => .no) else .no
def inS (g:Bool) (x z:Str):R (D×Bool):=match sgn1 x with
 | some c=>v1 (.bool (decide (c∈z.cps.toList) != g))
 | none => .no
def isStr:D→Bool
 | .str _=>true
 | _=>false
def inT (g:Bool) (d:D) (xs:List D):R (D×Bool):=if isStr d=true∧xs.all isStr=true then v1 (.bool ((xs.any fun z=>z.eqv d) != g)) else .no
def sem2:O2→D→D→R (D×Bool)
 | .add,.int i,.int j=>v1 (.int (i+j))
 | .add,.str x,.str y=>if x.length+y.length≤line then v1 (.str (x++y)) else .no
 | .add,.list xs,.list ys=>if xs.length+ys.length≤line then .ok (.list (xs++ys),true) else .no
 | .add,.tuple xs,.tuple ys=>if xs.length+ys.length≤line then v1 (.tuple (xs++ys)) else .no
 | .sub,.int i,.int j=>v1 (.int (i-j))
 | .mul,.int i,.int j=>if mulOk i j then v1 (.int (i*j)) else .no
 | .mul,.tuple xs,.int n=>if -1000000≤n∧n≤1000000∧xs.length*n.toNat≤line then v1 (.tuple (List.replicate n.toNat xs).flatten) else .no
 | .fdiv,.int i,.int j=>if j=0 then .no else v1 (.int (i.fdiv j))
 | .mod,.int i,.int j=>if j=0 then .no else v1 (.int (i.fmod j))
 | .pow,.int i,.int j=>if 0≤j∧j≤1000000∧i.natAbs<2^64 then v1 (.int (i^j.toNat)) else .no
 | .eq,a,b=>if SeqAt.shaped a=true∧SeqAt.shaped b=true then v1 (.bool (a.eqv b)) else .no
 | .ne,a,b=>if SeqAt.shaped a=true∧SeqAt.shaped b=true then v1 (.bool (!a.eqv b)) else .no
 | .lt,a,b=>ltR a b
 | .le,a,b=>cmpI (fun i j=>decide (i≤j)) a b
 | .gt,a,b=>cmpI (fun i j=>decide (j<i)) a b
 | .ge,a,b=>cmpI (fun i j=>decide (j≤i)) a b
 | .is_,a,b=>(isD a b).bind fun c=>v1 (.bool c)
 | .isn,a,b=>(isD a b).bind fun c=>v1 (.bool (!c))
 | .idx,.list xs,.int i=>atD xs i
 | .idx,.tuple xs,.int i=>atD xs i
 | .idx,.str x,.int i=>sgnAt x i
 | .inn,.str x,.str z=>inS false x z
 | .nin,.str x,.str z=>inS true x z
 | .inn,d,.tuple xs=>inT false d xs
 | .nin,d,.tuple xs=>inT true d xs
 | .inn,d,.list xs=>if SeqAt.shaped d=true∧SeqAt.shaped (.list xs)=true then v1 (.bool (xs.any fun z=>z.eqv d)) else .no
 | .nin,d,.list xs=>if SeqAt.shaped d=true∧SeqAt.shaped (.list xs)=true then v1 (.bool (!xs.any fun z=>z.eqv d)) else .no
 | .max2,.int i,.int j=>v1 (.int (if j>i then j else i))
 | .min2,.int i,.int j=>v1 (.int (if j<i then j else i))
 | _,_,_ => .no
def semM:M1→List D→D→R (D×Bool)
 | .count,xs,d=>if SeqAt.shaped (.list xs)=true∧SeqAt.shaped d=true then v1 (.int (xs.countP fun z=>z.eqv d)) else .no
 | .index,xs,d=>if SeqAt.shaped (.list xs)=true∧SeqAt.shaped d=true then (match xs.findIdx? fun z=>z.eqv d with
  | some j=>v1 (.int (j:Nat))
  | none => .no) else .no
def semSl:D→Option Int→Option Int→R (D×Bool)
 | .list xs,lo,hi => .ok (.list (cutL xs lo hi),true)
 | .tuple xs,lo,hi=>v1 (.tuple (cutL xs lo hi))
 | .str z,lo,hi=>if z.length≤line then v1 (.str (L2.cutS z lo hi)) else .no
 | _,_,_ => .no
def strsD:List D→Option (List Str)
 | []=>some []
 | .str x::r=>(strsD r).map (x :: ·)
 | _=>none
def semT1:Tm1→Str→D→R (D×Bool)
 | .part,a,.str b=>if (b.length==0)=false∧a.length≤line then v1 (.tuple [.str (Txt.partition a b).1,.str (Txt.partition a b).2.1,.str (Txt.partition a b).2.2]) else .no
 | .split,a,.str b=>if (b.length==0)=false∧a.length+2≤line then .ok (.list ((Txt.split a b).map .str),true) else .no
 | .sw,a,.str b=>v1 (.bool (Txt.startswith a b))
 | .strip,a,.str b=>if a.length≤line then v1 (.str (Txt.stripChars a b)) else .no
 | .join,a,.list xs=>(match strsD xs with
  | some ys=>if (ys.map (·.length)).sum+ys.length*a.length≤line then v1 (.str (Txt.join a ys)) else .no
  | none => .no)
 | _,_,_ => .no
def semT2:Tm2→Str→D→D→R (D×Bool)
 | .sw3,a,.str b,.int i=>v1 (.bool (Txt.startswith3 a b i))
 | .find3,a,.str b,.int i=>v1 (.int (Txt.find3 a b i))
 | _,_,_,_ => .no
def pickL {α:Type} (xs:List α) (lo hi st:Option Int):List α:=(sliceRange (sliceBounds lo hi st xs.length).1 (sliceBounds lo hi st xs.length).2.1 (sliceBounds lo hi st xs.length).2.2).filterMap fun i=>xs[i]?
def semSt (xs:List D) (lo hi st:Option Int):R (D×Bool):=if st=some 0 then .no else .ok (.list (pickL xs lo hi st),true)
def semRev:D→R (D×Bool)
 | .list xs => .ok (.list xs.reverse,true)
 | .tuple xs=>v1 (.tuple xs.reverse)
 | _ => .no
def semTrev:D→R (D×Bool)
 | .list xs=>v1 (.tuple xs.reverse)
 | _ => .no
def semRep:D×Bool→Int→R (D×Bool)
 | (.list ds,true),k=>if -1000000≤k∧k≤1000000∧ds.length*k.toNat≤line then .ok (.list (List.replicate k.toNat ds).flatten,true) else .no
 | _,_ => .no
def isTy:D→Ty→Bool
 | .none,.bi n=>n == "NoneType"
 | .bool _,.bi n=>n == "bool" || n == "int"
 | .int _,.bi n=>n == "int"
 | .str _,.bi n=>n == "str"
 | .list _,.bi n=>n == "list"
 | .tuple _,.bi n=>n == "tuple"
 | .dict _,.bi n=>n == "dict"
 | _,.ow _=>false
def dlook (kvs:List (D×D)) (k:D):Option D:=(kvs.find? fun x=>decide (nk x.1=nk k)).map (·.2)
def dput (kvs:List (D×D)) (k d:D):List (D×D):=if (dlook kvs k).isSome then kvs.map (fun x=>if nk x.1=nk k then (x.1,d) else x) else kvs++[(k,d)]
def jkB:D→Bool
 | .int _=>true
 | .str _=>true
 | _=>false
def jeq:D→D→Bool
 | .int i,.int j=>decide (i=j)
 | .str x,.str y=>decide (x=y)
 | _,_=>false
def jlook (kvs:List (D×D)) (k:D):Option D:=(kvs.find? fun x=>jeq x.1 k).map (·.2)
def jput (kvs:List (D×D)) (k d:D):List (D×D):=if (jlook kvs k).isSome then kvs.map (fun x=>if jeq x.1 k then (x.1,d) else x) else kvs++[(k,d)]
def jints:List (D×D)→Option (List Int)
 | []=>some []
 | (.int i,_)::r=>(jints r).map (i :: ·)
 | _=>none
def jpairs:List D→Option (List (D×D))
 | []=>some []
 | .tuple [k,d]::r=>if jkB k=true then (jpairs r).map ((k,d) :: ·) else none
 | _=>none
def jmerge:List (D×D)→List (D×D)→List (D×D)
 | kvs,[]=>kvs
 | kvs,(k,d)::r=>jmerge (jput kvs k d) r
def kpairs:List D→Option (List (D×D))
 | []=>some []
 | .tuple [k,d]::r=>if keyOk k=true then (kpairs r).map ((k,d) :: ·) else none
 | _=>none
def dmerge:List (D×D)→List (D×D)→List (D×D)
 | kvs,[]=>kvs
 | kvs,(k,d)::r=>dmerge (dput kvs k d) r
def intsD:List D→Option (List Int)
 | []=>some []
 | .int i::r=>(intsD r).map (i :: ·)
 | _=>none
def tupsI:List D→Option (List (List Int))
 | []=>some []
 | .tuple ds::r=>(match intsD ds with
  | some ns=>(tupsI r).map (ns :: ·)
  | none=>none)
 | _=>none
def lsetOk (xs:List D):Bool:=decide (xs.length<64)&&((match intsD xs with
 | some ns=>decide ns.Nodup
 | none=>false)||(match tupsI xs with
 | some ks=>decide ks.Nodup
 | none=>false))
def maxL:List Int→Option Int
 | []=>none
 | i::r=>some (r.foldl (fun a b=>if b>a then b else a) i)
def jdict (en:En) (i:Nat):R (List (D×D)):=match en[i]? with
 | some (.dj kvs) => .ok kvs
 | some (.va (.dict kvs)) => .ok kvs
 | _ => .no
def kdict (en:En) (i:Nat):R (List (D×D)):=match en[i]? with
 | some (.dk kvs) => .ok kvs
 | some (.fd kvs) => .ok kvs
 | _ => .no
def isInt:D→Bool
 | .int _=>true
 | _=>false
def srtOk (ds:List D):Bool:=ds.all (fun a=>keyB a&&decide (a.depth≤8))&&(ds.all tupB||ds.all isInt)&&ds.all (fun a=>ds.all fun b=>PySem.W.alike a b)&&decide (ds.length≤line)
def srtD (ds:List D):List D:=ds.mergeSort (PySem.W.dataLe false id)
def semSrt:D→R (D×Bool)
 | .list xs=>if srtOk xs=true then .ok (.list (srtD xs),true) else .no
 | _ => .no
def maxI (i j:Int):Int:=if j>i then j else i
def val (en:En) (i:Nat):R D:=match en[i]? with
 | some (.va d) => .ok d
 | _ => .no
def rd1 (x:E) (en:En) (r:R (D×Bool)):R D:=match x with
 | .peek i=>(match en[i]? with
  | some (.ow ds) => .ok (.list ds)
  | some (.rd ds) => .ok (.list ds)
  | some (.st ds) => .ok (.list ds)
  | _ => .no)
 | _=>r.bind fun p => .ok p.1
def arg1 (x:E) (en:En) (r:R (D×Bool)):R Sl:=match x with
 | .erv i=>(match en[i]? with
  | some (.er c) => .ok (.er c)
  | some (.va .none) => .ok (.va .none)
  | _ => .no)
 | .peek i=>(match en[i]? with
  | some (.ow ds) => .ok (.rd ds)
  | some (.rd ds) => .ok (.rd ds)
  | _ => .no)
 | .fnv n => .ok (.fn n)
 | _=>r.bind fun p => .ok (.va p.1)
mutual
def noL:D→Bool
 | .list _=>false
 | .dict _=>false
 | .tuple xs=>noLs xs
 | _=>true
def noLs:List D→Bool
 | []=>true
 | d::ds=>noL d&&noLs ds
end
def asV:List Sl→List Sl
 | []=>[]
 | .rd ds::ss => .va (.list ds)::asV ss
 | s::ss=>s::asV ss
mutual
def bindT:Tg→D→En→R En
 | .nm i,d,en => .ok (en.set i (.va d))
 | .tp ts,d,en=>(match d with
  | .tuple ds=>bindTs ts ds en
  | .list ds=>bindTs ts ds en
  | _ => .no)
def bindTs:Tgs→List D→En→R En
 | .nil,[],en => .ok en
 | .cons t r,d::ds,en=>(bindT t d en).bind fun en'=>bindTs r ds en'
 | _,_,_ => .no
end
def owR (en:En) (i:Nat):R (List D):=match en[i]? with
 | some (.ow ds) => .ok ds
 | _ => .no
def wipe (en:En):List Nat→En
 | []=>en
 | v::vs=>(wipe en vs).set v .un
def intR:D→R Int
 | .int i => .ok i
 | _ => .no
def seqR:D→R (List D)
 | .list xs => .ok xs
 | .tuple xs => .ok xs
 | _ => .no
def strR:D→R Str
 | .str x => .ok x
 | _ => .no
def listR:D→R (List D)
 | .list xs => .ok xs
 | _ => .no
def small (i:Int):Bool:=Nat.ble i.natAbs.log2 61
def rngD (lo:Int) (n:Nat):List D:=(List.range n).map fun k => .int (lo+(k:Nat))
def rngR (i j:Int):R (List D):=if small i&&small j then .ok (rngD i (j-i).toNat) else .no
def rngD3 (lo c:Int) (n:Nat):List D:=(List.range n).map fun k => .int (lo+(k:Nat)*c)
def rngR3 (i j c:Int):R (List D):=if c≠0∧c.natAbs<1073741824∧Builtin.Range.small i j c=true∧0≤Builtin.Range.rangeSize i j c then .ok (rngD3 i c (Builtin.Range.rangeSize i j c).toNat) else .no
def enumD (xs:List D):List D:=(List.range xs.length).zipWith (fun k x => .tuple [.int (k:Nat),x]) xs
def zipD (xs ys:List D):List D:=List.zipWith (fun x y => .tuple [x,y]) xs ys
def zipR:D→D→R (List D)
 | .list xs,.list ys => .ok (zipD xs ys)
 | .tuple xs,.tuple ys => .ok (zipD xs ys)
 | .tuple xs,.list ys => .ok (zipD xs ys)
 | _,_ => .no
def consO {α:Type}:Option α→List α→List α
 | some y,ys=>y::ys
 | none,ys=>ys
def compL (f:D→R (Option D)):List D→R (List D)
 | [] => .ok []
 | d::ds=>(f d).bind fun o=>(compL f ds).bind fun ys => .ok (consO o ys)
def rfR (ks:List Nat) (r:R (D×Bool)) (k:Sl→R (D×Bool)):R (D×Bool):=match r with
 | .ok _=>(k (.va .none)).nox
 | .ex c=>if ks.contains c then (k (.er c)).nox else .no
 | .no => .no
section
variable (G:Nat→D) (c:Nat→List Sl→R (D×Bool)) (dfl:Nat→Nat→List D)
mutual
def evF:E→En→R (D×Bool)
 | .var i,en=>(val en i).bind v1
 | .peek _,_ => .no
 | .con d,_=>v1 d
 | .emp,_=>v1 (.dict [])
 | .glb x,_=>v1 (G x)
 | .tup es,en=>(evs es en).bind fun ds=>if ds.length≤line then v1 (.tuple ds) else .no
 | .lst es,en=>(evs es en).bind fun ds=>if ds.length≤line then .ok (.list ds,true) else .no
 | .rep es n,en=>(evs es en).bind fun ds=>if ds.length≤line then (evF n en).bind fun x=>(intR x.1).bind fun k=>if -1000000≤k∧k≤1000000∧ds.length*k.toNat≤line then .ok (.list (List.replicate k.toNat ds).flatten,true) else .no else .no
 | .op1 o a,en=>(rd1 a en (evF a en)).bind (sem1 o)
 | .op2 o a b,en=>(rd1 a en (evF a en)).bind fun x=>(rd1 b en (evF b en)).bind fun y=>sem2 o x y
 | .chn o p a b z,en=>(rd1 a en (evF a en)).bind fun x=>(rd1 b en (evF b en)).bind fun y=>(sem2 o x y).bind fun r=>(match r.1 with
  | .bool true=>(rd1 z en (evF z en)).bind fun w=>sem2 p y w
  | .bool false=>v1 (.bool false)
  | _ => .no)
 | .and a b,en=>(evF a en).bind fun x=>(truR x.1).bind fun t=>if t then evF b en else v1 x.1
 | .or a b,en=>(evF a en).bind fun x=>(truR x.1).bind fun t=>if t then .ok x else evF b en
 | .not a,en=>(rd1 a en (evF a en)).bind fun x=>(truR x).bind fun t=>v1 (.bool (!t))
 | .ife t a b,en=>(rd1 t en (evF t en)).bind fun x=>(truR x).bind fun t=>if t then evF a en else evF b en
 | .slc a lo hi,en=>(rd1 a en (evF a en)).bind fun x=>(evO lo en).bind fun l=>(evO hi en).bind fun h=>semSl x l h
 | .revs a,en=>(rd1 a en (evF a en)).bind semRev
 | .trev a,en=>(rd1 a en (evF a en)).bind semTrev
 | .repE a n,en=>(evF a en).bind fun x=>(evF n en).bind fun y=>(intR y.1).bind fun k=>semRep x k
 | .call j es m,en=>(evAs es en).bind fun ss=>c j (ss++(dfl j m).map .va)
 | .callv j es m,en=>(evAs es en).bind fun ss=>(c j (asV ss++(dfl j m).map .va)).bind fun p=>if p.2=false∧noL p.1=true then .ok p else .no
 | .dget i k x,en=>(match en[i]? with
  | some (.dk kvs)=>(evF k en).bind fun kd=>(evF x en).bind fun xd=>if keyOk kd.1=true then (match dlook kvs kd.1 with
   | some d=>v1 d
   | none=>v1 xd.1) else .no
  | _ => .no)
 | .dvals i,en=>(match en[i]? with
  | some (.dk kvs) => .ok (.list (kvs.map (·.2)),true)
  | _ => .no)
 | .dne i,en=>(match en[i]? with
  | some (.dk kvs)=>v1 (.bool (!kvs.isEmpty))
  | _ => .no)
 | .dkeys i,en=>(match en[i]? with
  | some (.dk kvs) => .ok (.list (kvs.map (·.1)),true)
  | _ => .no)
 | .srt a,en=>(rd1 a en (evF a en)).bind semSrt
 | .dsrt i,en=>(kdict en i).bind fun kvs=>if srtOk (kvs.map (·.1))=true then .ok (.list (srtD (kvs.map (·.1))),true) else .no
 | .dix i k,en=>(kdict en i).bind fun kvs=>(evF k en).bind fun kd=>if keyOk kd.1=true then (match dlook kvs kd.1 with
  | some d=>v1 d
  | none => .no) else .no
 | .jget i k x,en=>(jdict en i).bind fun kvs=>(evF k en).bind fun kd=>(evF x en).bind fun xd=>if jkB kd.1=true then (match jlook kvs kd.1 with
  | some d=>v1 d
  | none=>v1 xd.1) else .no
 | .jix i k,en=>(jdict en i).bind fun kvs=>(evF k en).bind fun kd=>if jkB kd.1=true then (match jlook kvs kd.1 with
  | some d=>v1 d
  | none => .no) else .no
 | .jin i k g,en=>(jdict en i).bind fun kvs=>(evF k en).bind fun kd=>if jkB kd.1=true then v1 (.bool ((jlook kvs kd.1).isSome != g)) else .no
 | .jlen i,en=>(jdict en i).bind fun kvs=>v1 (.int kvs.length)
 | .jsrt i,en=>(jdict en i).bind fun kvs=>(match jints kvs with
  | some ks=>if ks.length<64 then .ok (.list ((ks.mergeSort fun a b=>decide (a≤b)).map .int),true) else .no
  | none => .no)
 | .max4 a b z w,en=>(evF a en).bind fun x=>(evF b en).bind fun y=>(evF z en).bind fun u=>(evF w en).bind fun v=>(intR x.1).bind fun i=>(intR y.1).bind fun j=>(intR u.1).bind fun k=>(intR v.1).bind fun l=>v1 (.int (maxI (maxI (maxI i j) k) l))
 | .tx1 o a b,en=>(evF a en).bind fun x=>(strR x.1).bind fun u=>(rd1 b en (evF b en)).bind fun y=>semT1 o u y
 | .tx2 o a b z,en=>(evF a en).bind fun x=>(strR x.1).bind fun u=>(evF b en).bind fun y=>(evF z en).bind fun w=>semT2 o u y.1 w.1
 | .stp a lo hi st,en=>(rd1 a en (evF a en)).bind fun x=>(listR x).bind fun u=>(evO lo en).bind fun l=>(evO hi en).bind fun h=>(evO st en).bind fun s=>semSt u l h s
 | .lrng a,en=>(evF a en).bind fun x=>(intR x.1).bind fun j=>if small j=true∧j≤line then .ok (.list (rngD 0 j.toNat),true) else .no
 | .rplE i c' d,en=>((val en i).bind strR).bind fun x=>if (c'==d)=false∧x.length+(x.length+1)*d.length≤line then v1 (.str (Txt.replace x c' d)) else .no
 | .jmax i,en=>(jdict en i).bind fun kvs=>(match jints kvs with
  | some ks=>(match maxL ks with
   | some n=>v1 (.int n)
   | none => .no)
  | none => .no)
 | .dofP a,en=>(rd1 a en (evF a en)).bind fun x=>(listR x).bind fun xs=>(match jpairs xs with
  | some kvs=>v1 (.dict (jmerge [] kvs))
  | none => .no)
 | .ditl i,en=>(match en[i]? with
  | some (.dk kvs) => .ok (.list (kvs.map fun x => .tuple [x.1,x.2]),true)
  | _ => .no)
 | .lset a,en=>(rd1 a en (evF a en)).bind fun x=>(listR x).bind fun xs=>if lsetOk xs=true then v1 (.int xs.length) else .no
 | .dpix a k,en=>(rd1 a en (evF a en)).bind fun x=>(listR x).bind fun xs=>(match kpairs xs with
  | some kvs=>(evF k en).bind fun kd=>if keyOk kd.1=true then (match dlook (dmerge [] kvs) kd.1 with
   | some d=>v1 d
   | none => .no) else .no
  | none => .no)
 | .fnv _,_ => .no
 | .callL i cs es,en=>(match en[i]? with
  | some (.fn n)=>(match cs.lookup n with
   | some j=>(evAs es en).bind fun ss=>c j ss
   | none => .no)
  | _ => .no)
 | .isi a ts,en=>(rd1 a en (evF a en)).bind fun x=>v1 (.bool (ts.any fun t=>isTy x t))
 | .mth o a b,en=>(rd1 a en (evF a en)).bind fun x=>(listR x).bind fun xs=>(rd1 b en (evF b en)).bind fun y=>semM o xs y
 | .rfd j ks e,en=>rfR ks (evF e en) fun s=>c j [.un,.un,s]
 | .erv _,_ => .no
 | .isE i ks ts,en=>(match en[i]? with
  | some (.va .none)=>v1 (.bool false)
  | some (.er c)=>if ks.contains c then v1 (.bool (ts.any (erTy c))) else .no
  | _ => .no)
 | .isN i g,en=>(match en[i]? with
  | some (.va d)=>(isD d .none).bind fun b=>v1 (.bool (b != g))
  | some (.er _)=>v1 (.bool g)
  | _ => .no)
 | .cmp elt tg it ifs own,en=>(evI it en).bind fun ds=>(compL (fun d=>(bindT tg d (wipe en (own.map (·.2)))).bind fun en'=>(evB ifs en').nox.bind fun b =>
   if b then (evF elt en').nox.bind fun y => .ok (some y.1) else .ok none) ds).bind fun ys=>if ds.length≤line then .ok (.list ys,true) else .no
 | .cmpP elt tg i ifs own,en=>(owR en i).bind fun ds=>(compL (fun d=>(bindT tg d (wipe en (own.map (·.2)))).bind fun en'=>(evB ifs en').nox.bind fun b =>
   if b then (evF elt en').nox.bind fun y => .ok (some y.1) else .ok none) ds).bind fun ys=>if ds.length≤line then .ok (.list ys,true) else .no
def evs:Es→En→R (List D)
 | .nil,_ => .ok []
 | .cons e r,en=>(evF e en).bind fun x=>(evs r en).bind fun xs => .ok (x.1::xs)
def evAs:Es→En→R (List Sl)
 | .nil,_ => .ok []
 | .cons e r,en=>(arg1 e en (evF e en)).bind fun x=>(evAs r en).bind fun xs => .ok (x::xs)
def evO:Eo→En→R (Option Int)
 | .none,_ => .ok none
 | .some e,en=>(evF e en).bind fun x=>(intR x.1).bind fun i => .ok (some i)
def evB:Eo→En→R Bool
 | .none,_ => .ok true
 | .some e,en=>(rd1 e en (evF e en)).bind fun x=>truR x
def evI:It→En→R (List D)
 | .seq a,en=>(evF a en).bind fun x=>seqR x.1
 | .rng1 a,en=>(evF a en).bind fun x=>(intR x.1).bind fun j=>rngR 0 j
 | .rng2 a b,en=>(evF a en).bind fun x=>(evF b en).bind fun y=>(intR x.1).bind fun i=>(intR y.1).bind fun j=>rngR i j
 | .rng3 a b z,en=>(evF a en).bind fun x=>(evF b en).bind fun y=>(evF z en).bind fun w=>(intR x.1).bind fun i=>(intR y.1).bind fun j=>(intR w.1).bind fun k=>rngR3 i j k
 | .rev a,en=>(evF a en).bind fun x=>(seqR x.1).bind fun xs => .ok xs.reverse
 | .revr a,en=>(evF a en).bind fun x=>(intR x.1).bind fun j=>(rngR 0 j).bind fun xs => .ok xs.reverse
 | .enum a,en=>(evF a en).bind fun x=>(seqR x.1).bind fun xs => .ok (enumD xs)
 | .zip a b,en=>(evF a en).bind fun x=>(evF b en).bind fun y=>zipR x.1 y.1
 | .ditems i,en=>(match en[i]? with
  | some (.fd kvs) => .ok (kvs.map fun x => .tuple [x.1,x.2])
  | _ => .no)
 | .txt a,en=>(evF a en).bind fun x=>(strR x.1).bind fun z => .ok (z.cps.toList.map fun c => .str ⟨#[c]⟩)
end
def evT (x:E) (en:En):R Bool:=(rd1 x en (evF G c dfl x en)).bind truR
inductive XR (α:Type) where
 | ok (a:α) (en:En) | ex (c:Nat) (en:En) | no
def XR.bind {α β:Type}:XR α→(α→En→XR β)→XR β
 | .ok a en,f=>f a en
 | .ex c en,_ => .ex c en
 | .no,_ => .no
def XR.of {α:Type} (en:En):R α→XR α
 | .ok a => .ok a en
 | .ex c => .ex c en
 | .no => .no
inductive XA where
 | va (d:D) | ln (i:Nat)
def xSl (en:En) (ne:Nat):XA→Option Sl
 | .va d=>some (.va d)
 | .ln i=>if i=ne then none else (match en[i]? with
  | some (.ow ds)=>some (.rd ds)
  | _=>none)
def xSls (en:En) (ne:Nat):List XA→Option (List Sl)
 | []=>some []
 | a::r=>(match xSl en ne a with
  | some s=>(xSls en ne r).map (s :: ·)
  | none=>none)
def xVs:List XA→Option (List D)
 | []=>some []
 | .va d::r=>(xVs r).map (d :: ·)
 | _=>none
def lentless:List Sl→Bool
 | []=>true
 | .va _::r=>lentless r
 | _=>false
def stR (ss:List Sl) (r:R (D×Bool)) (k:List D→D→XR D) (ek:Nat→XR D):XR D:=match r with
 | .ok (.tuple [.list ds,d],_)=>if (lentless ss||(noL d&&noLs ds))=true then k ds d else .no
 | .ex n=>if lentless ss=true then ek n else .no
 | _ => .no
def isL (en:En) (i:Nat):Bool:=match en[i]? with
 | some (.ow _)=>true
 | some (.st _)=>true
 | _=>false
def compX (F:D→En→XR D):List D→En→XR (List D)
 | [],en => .ok [] en
 | d::ds,en=>(match F d en with
  | .ok v en1=>(match compX F ds en1 with
   | .ok vs en2 => .ok (v::vs) en2
   | _ => .no)
  | _ => .no)
mutual
def evX:XE→En→XR D
 | .pu e,en=>XR.of en ((evF G c dfl e en).bind fun p => .ok p.1)
 | .st j i xs,en=>if isL en i=true then (evXs xs en).bind fun rs en1=>(match xSls en1 i rs with
  | some ss=>(match en1[i]? with
   | some (.ow ds)=>stR ss (c j (.ow ds::asV ss)) (fun ds' d => .ok d (en1.set i (.ow ds'))) fun n => .ex n en1
   | some (.st ds)=>stR ss (c j (.ow ds::asV ss)) (fun ds' d => .ok d (en1.set i (.st ds'))) fun n => .ex n en1
   | _ => .no)
  | none => .no) else .no
 | .not a,en=>(evX a en).bind fun x en1=>(XR.of en1 (truR x)).bind fun t en1 => .ok (.bool (!t)) en1
 | .op2 o a b,en=>(evX a en).bind fun x en1=>(evX b en1).bind fun y en2=>XR.of en2 ((sem2 o x y).bind fun p => .ok p.1)
 | .tup xs,en=>(evXs xs en).bind fun rs en1=>(match xVs rs with
  | some ds=>if ds.length≤line then .ok (.tuple ds) en1 else .no
  | none => .no)
 | .lst xs,en=>(evXs xs en).bind fun rs en1=>(match xVs rs with
  | some ds=>if ds.length≤line then .ok (.list ds) en1 else .no
  | none => .no)
 | .call j xs m,en=>(evXs xs en).bind fun rs en1=>(match xVs rs with
  | some ds=>XR.of en1 ((c j (ds.map .va++(dfl j m).map .va)).bind fun p => .ok p.1)
  | none => .no)
 | .and a b,en=>(evX a en).bind fun x en1=>(XR.of en1 (truR x)).bind fun t en1=>if t then evX b en1 else .ok x en1
 | .or a b,en=>(evX a en).bind fun x en1=>(XR.of en1 (truR x)).bind fun t en1=>if t then .ok x en1 else evX b en1
 | .cmp elt i n own,en=>(evX n en).bind fun x en1=>(XR.of en1 ((intR x).bind fun j=>rngR 0 j)).bind fun ds en1 =>
   if ds.length≤line then (match compX (fun d en=>evX elt ((wipe en (own.map (·.2))).set i (.va d))) ds en1 with
    | .ok vs en2 => .ok (.list vs) (wipe en2 (own.map (·.2)))
    | _ => .no) else .no
def evXs:Xs→En→XR (List XA)
 | .nil,en => .ok [] en
 | .cons x r,en=>(evX x en).bind fun d en1=>(evXs r en1).bind fun rs en2 => .ok (.va d::rs) en2
 | .ln i r,en=>if isL en i=true then (evXs r en).bind fun rs en1 => .ok (.ln i::rs) en1 else .no
end
def lx {α:Type}:XR α→(α→En→R Fl)→R Fl
 | .ok a en,f=>f a en
 | .ex c en,_ => .ok (.ex c en)
 | .no,_ => .no
def wksR (j:Nat) (ks:List Nat) (en:En):Es→R (List D)
 | .nil => .ok []
 | .cons e r=>(match rfR ks (evF G c dfl e en) fun s=>c j [.un,.un,s] with
  | .ok (.bool b,false)=>(wksR j ks en r).bind fun ds => .ok (.bool b::ds)
  | _ => .no)
def setD (xs:List D) (i:Int) (d:D):R (List D):=match L2.ixN xs.length i with
 | some j => .ok (xs.set j d)
 | none => .no
def extL:O2→List D→D×Bool→R (List D)
 | .add,ds,(.list xs,true)=>if ds.length+xs.length≤line then .ok (ds++xs) else .no
 | _,_,_ => .no
def nextFl (k:En→R Fl):Fl→R Fl
 | .nx e=>k e
 | .ct e=>k e
 | .bk e => .ok (.nx e)
 | .rt d f => .ok (.rt d f)
 | .ex c e => .ok (.ex c e)
 | .rtT d r => .ok (.rtT d r)
 | .rtS d r => .ok (.rtS d r)
def whileN (t:En→R Bool) (b:En→R Fl):Nat→En→R Fl
 | 0,_ => .no
 | n+1,en=>lf en (t en) fun k=>if k then (b en).bind (nextFl (whileN t b n)) else .ok (.nx en)
open Classical in
noncomputable def whileR (t:En→R Bool) (b:En→R Fl) (en:En):R Fl :=
 if h:∃n,whileN t b n en ≠ .no then whileN t b h.choose en else .no
def minR (t:En→R Bool) (k lo:Nat):List D→En→R Fl
 | [],en => .ok (.nx en)
 | d::ds,en=>(match t (en.set k (.va d)) with
  | .ok c=>minR t k lo ds (if c then (en.set k (.va d)).set lo (.va d) else en.set k (.va d))
  | _ => .no)
def ddel (kvs:List (D×D)) (k:D):List (D×D):=kvs.filter fun x=>decide (nk x.1≠nk k)
def forR (g:D→En→R En) (b:En→R Fl):List D→En→R Fl
 | [],en => .ok (.nx en)
 | d::ds,en=>(g d en).bind fun e1=>(b e1).bind (nextFl (forR g b ds))
mutual
noncomputable def evS:S→En→R Fl
 | .pass,en => .ok (.nx en)
 | .asg tg e,en=>lf en (evF G c dfl e en) fun x=>(bindT tg x.1 en).bind fun en' => .ok (.nx en')
 | .asgO i e,en=>lf en (evF G c dfl e en) fun x=>(match x with
  | (.list ds,true) => .ok (.nx (en.set i (.ow ds)))
  | _ => .no)
 | .dnew i,en => .ok (.nx (en.set i (.dk [])))
 | .jnew i,en => .ok (.nx (en.set i (.dj [])))
 | .ins i k e,en=>lf en (owR en i) fun ds=>lf en ((evF G c dfl k en).bind fun x=>(evF G c dfl e en).bind fun y => .ok (x.1,y.1)) fun p=>(match p with
  | (.int j,y)=>if 0≤j∧j≤ds.length∧ds.length<line then .ok (.nx (en.set i (.ow (ds.take j.toNat++[y]++ds.drop j.toNat)))) else .no
  | _ => .no)
 | .asgC i o e,en=>lf en (evF G c dfl e en) fun x=>(match x with
  | (.list ds,true) => .ok (.nx (en.set i (if o then .ow ds else .va (.list ds))))
  | _ => .no)
 | .par is es,en=>lf en (evs G c dfl es en) fun ds=>if ds.length=is.length then .ok (.nx ((is.zip ds).foldl (fun e p=>e.set p.1 (.va p.2)) en)) else .no
 | .parL i j k a b e,en=>lf en ((evF G c dfl a en).bind fun x=>(evF G c dfl b en).bind fun y=>(evF G c dfl e en).bind fun z => .ok (x.1,y.1,z)) fun r=>(match r with
  | (x,y,(.list ds,true)) => .ok (.nx (((en.set i (.va x)).set j (.va y)).set k (.ow ds)))
  | _ => .no)
 | .parM i j k a b e,en=>lf en ((evF G c dfl a en).bind fun x=>(evF G c dfl b en).bind fun y=>(evF G c dfl e en).bind fun z => .ok (x,y,z)) fun r=>(match r with
  | ((.list xs,true),(.list ys,true),(.list zs,true)) => .ok (.nx (((en.set i (.ow xs)).set j (.ow ys)).set k (.ow zs)))
  | _ => .no)
 | .xpar i j a b,en=>lx ((evX G c dfl a en).bind fun x en1=>(evX G c dfl b en1).bind fun y en2 => .ok (x,y) en2) fun p en1 => .ok (.nx ((en1.set i (.va p.1)).set j (.va p.2)))
 | .setI i k e,en=>lf en (evF G c dfl e en) fun x=>(match en[i]? with
  | some (.ow ds)=>lf en (evF G c dfl k en) fun kv=>(intR kv.1).bind fun j=>(setD ds j x.1).bind fun ds' => .ok (.nx (en.set i (.ow ds')))
  | some (.st ds)=>lf en (evF G c dfl k en) fun kv=>(intR kv.1).bind fun j=>(setD ds j x.1).bind fun ds' => .ok (.nx (en.set i (.st ds')))
  | some (.dk kvs)=>lf en (evF G c dfl k en) fun kv=>if keyOk kv.1=true∧kvs.length<line then .ok (.nx (en.set i (.dk (dput kvs kv.1 x.1)))) else .no
  | some (.dj kvs)=>lf en (evF G c dfl k en) fun kv=>if jkB kv.1=true∧kvs.length<line then .ok (.nx (en.set i (.dj (jput kvs kv.1 x.1)))) else .no
  | _ => .no)
 | .aug i o e,en=>(match en[i]? with
  | some (.va (.int d))=>lf en (evF G c dfl e en) fun x=>(sem2 o (.int d) x.1).bind fun z => .ok (.nx (en.set i (.va z.1)))
  | some (.va (.str d))=>lf en (evF G c dfl e en) fun x=>(sem2 o (.str d) x.1).bind fun z => .ok (.nx (en.set i (.va z.1)))
  | some (.ow ds)=>lf en (evF G c dfl e en) fun x=>(extL o ds x).bind fun ds' => .ok (.nx (en.set i (.ow ds')))
  | _ => .no)
 | .app i e,en=>(match en[i]? with
  | some (.ow ds)=>lf en (evF G c dfl e en) fun x=>if ds.length<line then .ok (.nx (en.set i (.ow (ds++[x.1])))) else .no
  | _ => .no)
 | .extT i e,en=>(match en[i]? with
  | some (.ow ds)=>lf en (evF G c dfl e en) fun x=>(match x.1 with
   | .tuple xs=>if ds.length+xs.length<line then .ok (.nx (en.set i (.ow (ds++xs)))) else .no
   | _ => .no)
  | _ => .no)
 | .pop i,en=>(match en[i]? with
  | some (.ow ds)=>if ds=[] then .no else .ok (.nx (en.set i (.ow ds.dropLast)))
  | _ => .no)
 | .popA tg i,en=>(match en[i]? with
  | some (.ow ds)=>(match ds.getLast? with
   | some d=>(bindT tg d (en.set i (.ow ds.dropLast))).bind fun en' => .ok (.nx en')
   | none => .no)
  | _ => .no)
 | .minK i k lo t,en=>(match en[i]? with
  | some (.dk kvs)=>if i≠k∧i≠lo∧k<en.length then minR (evT G c dfl t) k lo (kvs.map (·.1)) en else .no
  | _ => .no)
 | .popT f i lo,en=>(match en[f]? with
  | some (.ow ds)=>(match en[i]? with
   | some (.dk kvs)=>(match en[lo]? with
    | some (.va kd)=>if keyOk kd=true∧ds.length<line then (match dlook kvs kd with
     | some (.list xs) => .ok (.nx ((en.set i (.dk (ddel kvs kd))).set f (.ow (ds++[.tuple [kd,.tuple xs]]))))
     | _ => .no) else .no
    | _ => .no)
   | _ => .no)
  | _ => .no)
 | .rvs i,en=>(match en[i]? with
  | some (.ow ds) => .ok (.nx (en.set i (.ow ds.reverse)))
  | _ => .no)
 | .frz i,en=>(match en[i]? with
  | some (.ow ds) => .ok (.nx (en.set i (.va (.list ds))))
  | some (.dk kvs) => .ok (.nx (en.set i (.fd kvs)))
  | some (.dj kvs) => .ok (.nx (en.set i (.va (.dict kvs))))
  | _ => .no)
 | .ite t a b,en=>lf en (evT G c dfl t en) fun k=>if k then evSs a en else evSs b en
 | .whl t b,en=>whileR (evT G c dfl t) (evSs b) en
 | .for_ tg it b,en=>lf en (evI G c dfl it en) fun ds=>forR (bindT tg) (evSs b) ds en
 | .ret e,en=>lf en (evF G c dfl e en) fun x => .ok (.rt x.1 x.2)
 | .retO i,en=>(match en[i]? with
  | some (.ow ds) => .ok (.rt (.list ds) true)
  | _ => .no)
 | .retN,_ => .ok (.rt .none false)
 | .retT i e,en=>(match en[i]? with
  | some (.ow ds)=>lf en (evF G c dfl e en) fun x => .ok (.rtT ds [x.1])
  | _ => .no)
 | .retL a e,en=>lf en ((evF G c dfl a en).bind fun x=>(evF G c dfl e en).bind fun y => .ok (x,y.1)) fun p=>(match p with
  | ((.list ds,true),y) => .ok (.rtT ds [y])
  | _ => .no)
 | .brk,en => .ok (.bk en)
 | .cnt,en => .ok (.ct en)
 | .rai k,en => .ok (.ex k en)
 | .exp e,en=>lf en (evF G c dfl e en) fun _ => .ok (.nx en)
 | .tryA h i ks b,en=>(evSs b en).bind fun fl=>(match fl with
  | .ex c e=>if ks.contains c then .ok (.nx ((e.set h .un).set i (.er c))) else .no
  | fl => .ok fl)
 | .tryN k i b,en=>(evSs b en).bind fun fl=>(match fl with
  | .ex c e=>if c==k then .ok (.nx (e.set i (.va .none))) else .no
  | fl => .ok fl)
 | .iteR t f i c' d e b,en=>lf en (evT G c dfl t en) fun k=>if k then lf en ((val en i).bind strR) fun x=>if (c'==d)=false∧x.length+(x.length+1)*d.length≤line then lf en (evF G c dfl e en) fun y=>(match y.1 with
   | .str z=>if (Txt.replace x c' d).length+z.length≤line then .ok (.nx (en.set f (.va (.str (Txt.replace x c' d++z))))) else .no
   | _ => .no) else .no else evSs b en
 | .xasg tg x,en=>lx (evX G c dfl x en) fun d en1=>(bindT tg d en1).bind fun en' => .ok (.nx en')
 | .xret x,en=>lx (evX G c dfl x en) fun d en1=>(match en1[(0:Nat)]? with
  | some (.st ds) => .ok (.rtS d ds)
  | _ => .no)
 | .xite x a b,en=>lx (evX G c dfl x en) fun d en1=>lf en1 (truR d) fun k=>if k then evSs a en1 else evSs b en1
 | .xapp i x,en=>(match en[i]? with
  | some (.ow _)=>lx (evX G c dfl x en) fun d en1=>(match en1[i]? with
   | some (.ow ds)=>if ds.length<line then .ok (.nx (en1.set i (.ow (ds++[d])))) else .no
   | _ => .no)
  | _ => .no)
 | .xfor i x b,en=>lx (evX G c dfl x en) fun d en1=>lf en1 ((intR d).bind fun j=>rngR 0 j) fun ds=>forR (bindT (.nm i)) (evSs b) ds en1
 | .augI i o k e,en=>(match en[i]? with
  | some (.st ds)=>lf en (evF G c dfl k en) fun kv=>(intR kv.1).bind fun j=>(match L2.atI ds j with
   | some (.int d)=>lf en (evF G c dfl e en) fun x=>(sem2 o (.int d) x.1).bind fun z=>(setD ds j z.1).bind fun ds' => .ok (.nx (en.set i (.st ds')))
   | _ => .no)
  | _ => .no)
 | .dead,_ => .no
noncomputable def evSs:Ss→En→R Fl
 | .nil,en => .ok (.nx en)
 | .cons s r,en=>(evS s en).bind fun fl=>(match fl with
  | .nx e=>evSs r e
  | fl => .ok fl)
 | .rf _ _ _,_ => .no
 | .tok s t r,en=>(evS s en).bind fun fl=>(match fl with
  | .nx e=>(evS t e).bind fun fl=>(match fl with
   | .nx e=>evSs r e
   | fl => .ok fl)
  | fl => .ok fl)
 | .wks i w j ks es r,en=>if i<en.length∧w<en.length then (match wksR G c dfl j ks (en.set i .un) es with
  | .ok ds=>if ds.length<line then (match sem2 .inn (.bool false) (.list ds) with
   | .ok (.bool true,_) => .ok (.rt (.bool false) false)
   | .ok (.bool false,_)=>evSs r (en.set i .un)
   | _ => .no) else .no
  | _ => .no) else .no
 | .spl i j n es t r,en=>lf en (evAs G c dfl es en) fun ss=>if ss.length=n∧i<en.length then (match c j (.un::ss) with
  | .ok (.tuple (.list ds::rs),true)=>lf (en.set i (.va (.tuple (.list ds::rs)))) (evT G c dfl t (en.set i (.va (.tuple (.list ds::rs))))) fun b=>if b then .ok (.rt (.bool false) false) else if ds.length<line then evSs r (en.set i .un) else .no
  | _ => .no) else .no
end
end
structure Fn where
 name:Str
 ps:List Str
 N:List Str
 dfl:List D
 body:Ss
 lm:Bool:=false
def rfN:Ss→List Sl→Option (Nat×Ss×Sl)
 | .rf _ i r,[.un,.un,s]=>some (i,r,s)
 | _,_=>none
def Fn.dv (f:Fn) (m:Nat):List D:=f.dfl.drop (f.dfl.length-m)
open Classical in
noncomputable def stE (ds:List D):R Fl→R (D×Bool)
 | .ok (.rtS d ds') => .ok (.tuple [.list ds',d],false)
 | .ok (.nx en)=>(match en[(0:Nat)]? with
  | some (.st ds') => .ok (.tuple [.list ds',.none],false)
  | _ => .no)
 | .ok (.ex c en)=>if en[(0:Nat)]?=some (.st ds) then .ex c else .no
 | _ => .no
noncomputable def callN (G:Nat→D) (T:List Fn):Nat→Nat→List Sl→R (D×Bool)
 | 0,_,_ => .no
 | k+1,j,ss=>if j=k then (match T[k]? with
  | some f=>if ss.length=f.ps.length then (match ss with
   | .ow ds::r=>stE ds (evSs G (callN G T k) (fun j m=>((T[j]?).map fun g=>g.dv m).getD []) f.body (.st ds::r++List.replicate (f.N.length-(r.length+1)) .un))
   | _=>(match evSs G (callN G T k) (fun j m=>((T[j]?).map fun g=>g.dv m).getD []) f.body (ss++List.replicate (f.N.length-ss.length) .un) with
    | .ok (.rt d fr) => .ok (d,fr)
    | .ok (.nx _) => .ok (.none,false)
    | .ok (.ex c _) => .ex c
    | _ => .no)) else (match rfN f.body ss with
   | some (i,r,s)=>(match evSs G (callN G T k) (fun j m=>((T[j]?).map fun g=>g.dv m).getD []) r ((List.replicate f.N.length .un).set i s) with
    | .ok (.rt d fr) => .ok (d,fr)
    | .ok (.nx _) => .ok (.none,false)
    | .ok (.ex c _) => .ex c
    | _ => .no)
   | none=>(match ss with
    | .un::ss'=>(match evSs G (callN G T k) (fun j m=>((T[j]?).map fun g=>g.dv m).getD []) f.body (ss'++List.replicate (f.N.length-ss'.length) .un) with
     | .ok (.rtT ds r) => .ok (.tuple (.list ds::r),true)
     | _ => .no)
    | _ => .no))
  | none => .no) else callN G T k j ss
end AW
namespace AW
open PySem PySem.Spec PyProof.Rows L2
class CdT where
 T:List (Addr×Str)
instance (priority:=low) CdT.none:CdT:=⟨[]⟩
structure SameT (H H':Hp):Prop where
 keep:∀b o,H b=some o→(∀ps,o ≠ .tbl ps)→H' b=some o
def Nw (H:Hp) (p:Addr):Prop:=∀o,H p=some o→∃ps,o=HO.tbl ps
theorem nw {H:Hp} {p:Addr} (h:H p=none):Nw H p:=fun o e=>by rw [h] at e;cases e
theorem Nw.no {H:Hp} {p:Addr} {o:HO} (h:Nw H p) (e:H p=some o) (n:∀ps,o ≠ .tbl ps:=by (intro _ z;first | (cases z;done) | exact HO.noConfusion z)):False:=by
 obtain ⟨ps,z⟩:=h o e;exact n ps z
theorem SameT.refl (H:Hp):SameT H H:=⟨fun _ _ e _=>e⟩
theorem SameT.of {H H':Hp} (e:Same H H'):SameT H H':=⟨fun b o h _=>e b o h⟩
theorem SameT.trans {H H1 H2:Hp} (a:SameT H H1) (b:SameT H1 H2):SameT H H2:=⟨fun c o h n=>b.keep c o (a.keep c o h n) n⟩
theorem SameT.freeN {H H':Hp} (e:SameT H H') {l:Addr} (h:Nw H' l):Nw H l:=fun o q=>by
 by_cases t:∃ps,o = .tbl ps
 ·exact t
 ·exact h o (e.keep l o q fun ps z=>t ⟨ps,z⟩)
theorem SameT.free {H H':Hp} (e:SameT H H') {l:Addr} (h:H' l=none):Nw H l:=e.freeN (nw h)
theorem SameT.k {H H':Hp} (e:SameT H H') {b:Addr} {o:HO} (h:H b=some o) (n:∀ps,o ≠ .tbl ps:=by (intro _ z;first | (cases z;done) | exact HO.noConfusion z)):H' b=some o:=e.keep b o h n
theorem SameT.lst {H H':Hp} (e:SameT H H') {b:Addr} {vs:List V} (h:H b=some (.lst vs)):H' b=some (.lst vs):=e.keep b _ h (by intro _ z;cases z)
theorem SameT.frz {H H':Hp} (e:SameT H H') {b:Addr} {o:Obj} {u:HO} (h:H b=some (.frz o u)):H' b=some (.frz o u):=e.keep b _ h (by intro _ z;cases z)
theorem SameT.ext {H H':Hp} (e:SameT H H') {b:Addr} {P:Heap→Prop} (h:H b=some (.ext P)):H' b=some (.ext P):=e.keep b _ h (by intro _ z;cases z)
theorem SameT.up {H H':Hp} (e:SameT H H') {p:Addr} {o:HO} (h:Nw H p):SameT H (upd H' p o):=⟨fun b x q n=>by
 have hb:b≠p:=fun z=>by
  subst z;exact h.no q n
 rw [upd_ne hb];exact e.keep b x q n⟩
section
variable [CdT]
structure Po (f H f' H':Hp):Prop where
 sH:SameT H H'
 sf:Same f f'
 sub:Same f' H'
 gro:∀a o,f' a=some o→f a=some o∨Nw H a
 nt:(∀b ps,f b≠some (.tbl ps))→∀b ps,f' b≠some (.tbl ps)
 tab:LamX.Tabs CdT.T H→LamX.Tabs CdT.T H'
theorem Po.refl {f H:Hp} (h:Same f H):Po f H f H:=⟨SameT.refl H,Same.refl f,h,fun _ _ e => .inl e,id,id⟩
theorem Po.trans {f H f1 H1 f2 H2:Hp} (a:Po f H f1 H1) (b:Po f1 H1 f2 H2):Po f H f2 H2 :=
 ⟨a.sH.trans b.sH,a.sf.trans b.sf,b.sub,fun p o e=>by
  rcases b.gro p o e with h | h
  ·exact a.gro p o h
  ·exact .inr (a.sH.freeN h),fun n=>b.nt (a.nt n),fun t=>b.tab (a.tab t)⟩
theorem Po.new {f H f1 H1:Hp} (a:Po f H f1 H1) {p:Addr} {o:HO} (h:H1 p=none) (ho:∀ps,o ≠ .tbl ps:=by (intro _ z;first | (cases z;done) | exact HO.noConfusion z)):Po f H (upd f1 p o) (upd H1 p o):=by
 refine ⟨a.sH.trans (SameT.of fun b x e=>?_),a.sf.trans fun b x e=>?_,fun b x e=>?_,fun b x e=>?_,fun n b ps=>?_,fun t=>?_⟩
 ·rw [upd_ne (ne_of_none e h)];exact e
 ·rw [upd_ne (ne_of_none (a.sub _ _ e) h)];exact e
 ·by_cases hb:b=p
  ·subst hb;rw [upd_same] at e ⊢;exact e
  ·rw [upd_ne hb] at e ⊢;exact a.sub _ _ e
 ·by_cases hb:b=p
  ·subst hb;exact .inr (a.sH.free h)
  ·rw [upd_ne hb] at e;exact a.gro _ _ e
 ·by_cases hb:b=p
  ·subst hb;rw [upd_same];exact fun z=>ho ps (Option.some.inj z)
  ·rw [upd_ne hb];exact a.nt n b ps
 ·exact (a.tab t).ext fun b x e=>by rw [upd_ne (ne_of_none e h)];exact e
theorem Po.newH {f H f1 H1:Hp} (a:Po f H f1 H1) {p:Addr} {o:HO} (h:H1 p=none):Po f H f1 (upd H1 p o):=by
 refine ⟨a.sH.trans (SameT.of fun b x e=>?_),a.sf,fun b x e=>?_,a.gro,a.nt,fun t=>(a.tab t).ext fun b x e=>?_⟩
 ·rw [upd_ne (ne_of_none e h)];exact e
 ·rw [upd_ne (ne_of_none (a.sub _ _ e) h)];exact a.sub _ _ e
 ·rw [upd_ne (ne_of_none e h)];exact e
end
theorem same_none {H H':Hp} (e:Same H H') {p:Addr} (h:H' p=none):H p=none:=e.free h
section
variable [CdT]
theorem Po.loose {f H f' H':Hp} (a:Po f H f' H') {p:Addr} {o:HO} (h1:f p=none) (h2:H p=some o) (n:∀ps,o ≠ .tbl ps:=by (intro _ z;first | (cases z;done) | exact HO.noConfusion z)):f' p=none:=by
 cases e:f' p with
 | none=>rfl
 | some x =>
  rcases a.gro p x e with h | h
  ·rw [h1] at h;cases h
  ·exact (h.no h2 n).elim
end
theorem nt_upd {f:Hp} {p:Addr} {o:HO} (n:∀b ps,f b≠some (.tbl ps)) (ho:∀ps,o ≠ .tbl ps):∀b ps,upd f p o b≠some (.tbl ps):=fun b ps=>by
 by_cases hb:b=p
 ·subst hb;rw [upd_same];exact fun z=>ho ps (Option.some.inj z)
 ·rw [upd_ne hb];exact n b ps
theorem tabs_upd {T:List (Addr×Str)} {H:Hp} {p:Addr} {o o':HO} (t:LamX.Tabs T H) (hp:H p=some o') (n1:∀ps,o' ≠ .tbl ps) (n2:∀q,o'≠LamX.CodeO p q):LamX.Tabs T (upd H p o):=fun z hz=>by
 obtain ⟨ps,h1,h2,h3⟩:=t z hz;have a1:z.1≠p:=fun e=>by rw [e,hp] at h1;exact n1 ps (Option.some.inj h1)
 refine ⟨ps,by rw [upd_ne a1];exact h1,h2,fun pos cv hc=>?_⟩;obtain ⟨c,e1,e2⟩:=h3 pos cv hc;have a2:c≠p:=fun e=>by rw [e,hp] at e2;exact n2 z.2 (Option.some.inj e2)
 exact ⟨c,e1,by rw [upd_ne a2];exact e2⟩
theorem rd_same {H H':Hp} (e:Same H H') {a:Addr} {u:HO} (h:Rd H a u):Rd H' a u:=by
 rcases h with h | ⟨o,h⟩
 ·exact .inl (e _ _ h)
 ·exact .inr ⟨o,e _ _ h⟩
theorem rd_sameT {H H':Hp} (e:SameT H H') {a:Addr} {u:HO} (hu:∀ps,u ≠ .tbl ps) (h:Rd H a u):Rd H' a u:=by
 rcases h with h | ⟨o,h⟩
 ·exact .inl (e.keep _ _ h hu)
 ·exact .inr ⟨o,e.frz h⟩
theorem sql_sameT {K:PySem.W.Frag} {H H':Hp} (e:SameT H H') {a:Addr} {xs:List V} (h:SqL K H a xs):SqL K H' a xs:=by
 rcases h with h | h
 ·exact .inl (rd_sameT e (by intro _ z;cases z) h)
 ·exact .inr h
theorem sql_same {K:PySem.W.Frag} {H H':Hp} (e:Same H H') {a:Addr} {xs:List V} (h:SqL K H a xs):SqL K H' a xs:=e.seq h
theorem sqt_same {K:PySem.W.Frag} {H H':Hp} (e:Same H H') {a:Addr} {xs:List V} (h:SqT K H a xs):SqT K H' a xs:=by
 rcases h with h | h
 ·exact .inl (rd_same e h)
 ·exact .inr h
def jkey:D→Option Key
 | .int i=>some (.inl i)
 | .str x=>some (.inr x)
 | _=>none
mutual
inductive Dp (K:PySem.W.Frag) (H:Hp):V→PyData→Prop
 | non:Dp K H .non .none
 | bl (b:Bool):Dp K H (.bl b) (.bool b)
 | int (i:Int):Dp K H (.int i) (.int i)
 | str (x:Str):Dp K H (.str x) (.str x)
 | lst {a:Addr} {xs:List V} {ds:List PyData}:SqL K H a xs→DpAll K H xs ds→Dp K H (.ref a) (.list ds)
 | tup {a:Addr} {xs:List V} {ds:List PyData}:SqT K H a xs→DpAll K H xs ds→Dp K H (.ref a) (.tuple ds)
 | dcj {a:Addr} {xs:List (Key×V)} {kvs:List (D×D)}:H a=some (.dK xs)→DjAll K H xs kvs→Dp K H (.ref a) (.dict kvs)
inductive DpAll (K:PySem.W.Frag) (H:Hp):List V→List PyData→Prop
 | nil:DpAll K H [] []
 | cons {v:V} {vs:List V} {d:PyData} {ds:List PyData}:Dp K H v d→DpAll K H vs ds→DpAll K H (v::vs) (d::ds)
inductive DjAll (K:PySem.W.Frag) (H:Hp):List (Key×V)→List (D×D)→Prop
 | nil:DjAll K H [] []
 | cons {q:Key} {v:V} {xs:List (Key×V)} {k d:PyData} {kvs:List (D×D)}:jkey k=some q→Dp K H v d→DjAll K H xs kvs→DjAll K H ((q,v)::xs) ((k,d)::kvs)
end
section
variable {K:PySem.W.Frag} {H H':Hp}
mutual
theorem dp_same (e:Same H H'):∀{v:V} {d:PyData},Dp K H v d→Dp K H' v d
 | _,_,.non => .non
 | _,_,.bl b => .bl b
 | _,_,.int i => .int i
 | _,_,.str x => .str x
 | _,_,.lst h a => .lst (sql_same e h) (dpa_same e a)
 | _,_,.tup h a => .tup (sqt_same e h) (dpa_same e a)
 | _,_,.dcj h a => .dcj (e _ _ h) (dj_same e a)
theorem dpa_same (e:Same H H'):∀{vs:List V} {ds:List PyData},DpAll K H vs ds→DpAll K H' vs ds
 | _,_,.nil => .nil
 | _,_,.cons h t => .cons (dp_same e h) (dpa_same e t)
theorem dj_same (e:Same H H'):∀{xs:List (Key×V)} {kvs:List (D×D)},DjAll K H xs kvs→DjAll K H' xs kvs
 | _,_,.nil => .nil
 | _,_,.cons q h t => .cons q (dp_same e h) (dj_same e t)
end
mutual
theorem Dp.old:∀{v:V} {d:PyData},d.canLay0=true→Dp K H v d→L2.Dp K H v d
 | _,_,_,.non => .non
 | _,_,_,.bl b => .bl b
 | _,_,_,.int i => .int i
 | _,_,_,.str x => .str x
 | _,.list ds,c,.lst h a => .lst h (DpAll.old (show PyData.canLayAll0 ds=true from c) a)
 | _,.tuple ds,c,.tup h a => .tup h (DpAll.old (show PyData.canLayAll0 ds=true from c) a)
 | _,_,c,.dcj h a=>by cases c
theorem DpAll.old:∀{vs:List V} {ds:List PyData},PyData.canLayAll0 ds=true→DpAll K H vs ds→L2.DpAll K H vs ds
 | _,_,_,.nil => .nil
 | _,d::ds,c,.cons h t => .cons (Dp.old (Bool.and_eq_true_iff.mp (show (d.canLay0&&PyData.canLayAll0 ds)=true from c)).1 h) (DpAll.old (Bool.and_eq_true_iff.mp (show (d.canLay0&&PyData.canLayAll0 ds)=true from c)).2 t)
end
theorem Dp.shp {v:V} {d:PyData} (c:SeqAt.shaped d=true) (h:Dp K H v d):L2.Dp K H v d:=h.old (SeqAt.canLay_of_shaped c)
end
end AW
namespace AW
open PySem PySem.Spec PyProof.Rows L2
section
variable {K:PySem.W.Frag} {H H':Hp}
theorem DpAll.length:∀{vs:List V} {ds:List PyData},DpAll K H vs ds→vs.length=ds.length
 | _,_,.nil=>rfl
 | _,_,.cons _ t=>congrArg Nat.succ (DpAll.length t)
theorem DpAll.get:∀{vs:List V} {ds:List PyData} {i:Nat} {d:PyData},DpAll K H vs ds→ds[i]?=some d→∃v,vs[i]?=some v∧Dp K H v d
 | _,_,_,_,.nil,h=>by simp at h
 | _,_,0,_,.cons a _,h=>by
  have e:=Option.some.inj h;subst e;exact ⟨_,rfl,a⟩
 | _,_,i+1,_,.cons _ t,h=>DpAll.get (i:=i) t h
theorem DpAll.getV:∀{vs:List V} {ds:List PyData} {i:Nat} {v:V},DpAll K H vs ds→vs[i]?=some v→∃d,ds[i]?=some d∧Dp K H v d
 | _,_,_,_,.nil,h=>by simp at h
 | _,_,0,_,.cons a _,h=>by
  have e:=Option.some.inj h;subst e;exact ⟨_,rfl,a⟩
 | _,_,i+1,_,.cons _ t,h=>DpAll.getV (i:=i) t h
theorem DpAll.append:∀{vs us:List V} {ds es:List PyData},DpAll K H vs ds→DpAll K H us es→DpAll K H (vs++us) (ds++es)
 | _,_,_,_,.nil,h=>h
 | _,_,_,_,.cons a t,h => .cons a (t.append h)
theorem DpAll.take:∀(n:Nat) {vs:List V} {ds:List PyData},DpAll K H vs ds→DpAll K H (vs.take n) (ds.take n)
 | 0,_,_,_ => .nil
 | _+1,_,_,.nil => .nil
 | n+1,_,_,.cons a t => .cons a (DpAll.take n t)
theorem DpAll.drop:∀(n:Nat) {vs:List V} {ds:List PyData},DpAll K H vs ds→DpAll K H (vs.drop n) (ds.drop n)
 | 0,_,_,h=>h
 | _+1,_,_,.nil => .nil
 | n+1,_,_,.cons _ t=>DpAll.drop n t
theorem DpAll.reverse:∀{vs:List V} {ds:List PyData},DpAll K H vs ds→DpAll K H vs.reverse ds.reverse
 | _,_,.nil => .nil
 | _,_,.cons a t=>by
  rw [List.reverse_cons,List.reverse_cons];exact t.reverse.append (.cons a .nil)
theorem DpAll.set:∀{vs:List V} {ds:List PyData} {v:V} {d:PyData} (i:Nat),DpAll K H vs ds→Dp K H v d→DpAll K H (vs.set i v) (ds.set i d)
 | _,_,_,_,_,.nil,_ => .nil
 | _,_,_,_,0,.cons _ t,h => .cons h t
 | _,_,_,_,i+1,.cons a t,h => .cons a (DpAll.set i t h)
theorem DpAll.dropLast {vs:List V} {ds:List PyData} (h:DpAll K H vs ds):DpAll K H vs.dropLast ds.dropLast:=by
 rw [List.dropLast_eq_take,List.dropLast_eq_take,h.length];exact h.take _
theorem DpAll.cut {vs:List V} {ds:List PyData} (h:DpAll K H vs ds) (lo hi:Option Int):DpAll K H (cutV vs lo hi) (cutL ds lo hi):=by
 unfold cutV cutL;rw [h.length];exact (h.drop _).take _
theorem DpAll.rep {vs:List V} {ds:List PyData} (h:DpAll K H vs ds):∀n:Nat,DpAll K H (List.replicate n vs).flatten (List.replicate n ds).flatten
 | 0 => .nil
 | n+1=>by
  rw [List.replicate_succ,List.replicate_succ,List.flatten_cons,List.flatten_cons];exact h.append (DpAll.rep h n)
theorem DpAll.ints:∀ns:List Int,DpAll K H (ns.map V.int) (ns.map PyData.int)
 | [] => .nil
 | n::r => .cons (.int n) (DpAll.ints r)
theorem atI_all {vs:List V} {ds:List PyData} {i:Int} {d:PyData} (h:DpAll K H vs ds) (e:atI ds i=some d):∃v,atI vs i=some v∧Dp K H v d:=by
 unfold atI at e ⊢;rw [h.length];cases q:ixN ds.length i with
 | none=>rw [q] at e;cases e
 | some j =>
  rw [q] at e;exact h.get (show ds[j]?=some d from e)
end
def Vf (K:PySem.W.Frag) (H f' H':Hp) (v:V) (d:D):Bool→Prop
 | false=>Dp K f' v d
 | true=>∃ds p vs,d = .list ds∧v = .ref p∧Nw H p∧f' p=none∧H' p=some (.lst vs)∧DpAll K f' vs ds
def VfT (K:PySem.W.Frag) (H f' H':Hp) (v:V) (ds r:List D):Prop:=∃t a xs vs,v = .ref t∧t≠a∧Nw H t∧Nw H a∧f' t=none∧f' a=none∧H' t=some (.tup (.ref a::vs))∧H' a=some (.lst xs)∧DpAll K f' xs ds∧DpAll K f' vs r
theorem VfT.back {K:PySem.W.Frag} {H H1 f' H':Hp} {v:V} {ds r:List D} (e:SameT H H1) (h:VfT K H1 f' H' v ds r):VfT K H f' H' v ds r:=by
 obtain ⟨t,a,xs,vs,h1,h2,h3,h4,h5⟩:=h;exact ⟨t,a,xs,vs,h1,h2,e.freeN h3,e.freeN h4,h5⟩
def Vr (K:PySem.W.Frag) (f' H':Hp) (v:V) (d:D):Prop:=Dp K f' v d∨∃ds p vs,d = .list ds∧v = .ref p∧SqL K H' p vs∧DpAll K f' vs ds
section
variable [CdT] {K:PySem.W.Frag} {f H f1 H1 f' H':Hp} {v:V} {d:D}
theorem Vf.settle {b:Bool} (h:Vf K H f' H' v d b) (q:Po f H f' H'):∃f'',Po f H f'' H'∧Dp K f'' v d:=by
 cases b with
 | false=>exact ⟨f',q,h⟩
 | true =>
  obtain ⟨ds,p,vs,rfl,rfl,h1,h2,h3,h4⟩:=h;have e:Same f' (upd f' p (.lst vs)):=fun a o x=>by
   rw [upd_ne (ne_of_none x h2)];exact x
  refine ⟨upd f' p (.lst vs),⟨q.sH,q.sf.trans e,fun a o x=>?_,fun a o x=>?_,fun n=>nt_upd (q.nt n) (by (intro _ z;first | (cases z;done) | exact HO.noConfusion z)),q.tab⟩,.lst (.inl (.inl upd_same)) (dpa_same e h4)⟩
  ·by_cases ha:a=p
   ·subst ha;rw [upd_same] at x;rw [h3];exact x
   ·rw [upd_ne ha] at x;exact q.sub _ _ x
  ·by_cases ha:a=p
   ·subst ha;exact .inr h1
   ·rw [upd_ne ha] at x;exact q.gro _ _ x
theorem Vf.read {b:Bool} (h:Vf K H f' H' v d b):Vr K f' H' v d:=by
 cases b with
 | false=>exact .inl h
 | true =>
  obtain ⟨ds,p,vs,rfl,rfl,h1,h2,h3,h4⟩:=h;exact .inr ⟨ds,p,vs,rfl,rfl,.inl (.inl h3),h4⟩
theorem Vf.back {b:Bool} (e:SameT H H1) (h:Vf K H1 f' H' v d b):Vf K H f' H' v d b:=by
 cases b with
 | false=>exact h
 | true =>
  obtain ⟨ds,p,vs,rfl,rfl,h1,h2,h3,h4⟩:=h;exact ⟨ds,p,vs,rfl,rfl,e.freeN h1,h2,h3,h4⟩
theorem Vr.mono (q:Po f1 H1 f' H') (h:Vr K f1 H1 v d):Vr K f' H' v d:=by
 rcases h with h | ⟨ds,p,vs,e1,e2,h1,h2⟩
 ·exact .inl (dp_same q.sf h)
 ·exact .inr ⟨ds,p,vs,e1,e2,sql_sameT q.sH h1,dpa_same q.sf h2⟩
theorem Vr.dp (s:Same f' H') (h:Vr K f' H' v d):Dp K H' v d:=by
 rcases h with h | ⟨ds,p,vs,rfl,rfl,h1,h2⟩
 ·exact dp_same s h
 ·exact .lst h1 (dpa_same s h2)
theorem Vr.int (h:Vr K f' H' v (.int i)):v = .int i:=by
 rcases h with h | ⟨ds,p,vs,e,_⟩
 ·cases h;rfl
 ·cases e
theorem Vr.bool {b:Bool} (h:Vr K f' H' v (.bool b)):v = .bl b:=by
 rcases h with h | ⟨ds,p,vs,e,_⟩
 ·cases h;rfl
 ·cases e
theorem Vr.str {x:Str} (h:Vr K f' H' v (.str x)):v = .str x:=by
 rcases h with h | ⟨ds,p,vs,e,_⟩
 ·cases h;rfl
 ·cases e
theorem Vr.non (h:Vr K f' H' v .none):v = .non:=by
 rcases h with h | ⟨ds,p,vs,e,_⟩
 ·cases h;rfl
 ·cases e
theorem Vr.list {ds:List D} (s:Same f' H') (h:Vr K f' H' v (.list ds)):∃p vs,v = .ref p∧SqL K H' p vs∧DpAll K f' vs ds:=by
 rcases h with h | ⟨es,p,vs,e,rfl,h1,h2⟩
 ·cases h with
  | lst h a=>exact ⟨_,_,rfl,sql_same s h,a⟩
 ·cases e;exact ⟨_,_,rfl,h1,h2⟩
theorem Vr.tup {ds:List D} (s:Same f' H') (h:Vr K f' H' v (.tuple ds)):∃p vs,v = .ref p∧SqT K f' p vs∧SqT K H' p vs∧DpAll K f' vs ds:=by
 rcases h with h | ⟨es,p,vs,e,rfl,h1,h2⟩
 ·cases h with
  | tup h a=>exact ⟨_,_,rfl,h,sqt_same s h,a⟩
 ·cases e
end
def errN:List Str:=["NoFraction", "NoPoly", "NoQuotient", "NoForm", "NoPlace", "NoArea", "NoText", "NoRow", "TooMany", "AreaError"]
def erC (K:PySem.W.Frag) (c:Nat):Value:=match errN[c]? with
 | some n => .ref (He.ga K n)
 | none => .none
def erO (K:PySem.W.Frag) (c:Nat) (a:Addr):HO := .ext fun h=>∃(oe:Obj) (vs:Array Value),h.get? a=some oe∧Zc (erC K c) none oe∧oe.data = .fields vs
theorem erO_ok {P:Program} {w:World} {K:PySem.W.Frag} {H:Hp} {h:Heap} {a:Addr} {c:Nat} {oe:Obj} {vs:Array Value} (e:h.get? a=some oe) (z:Zc (erC K c) none oe) (d:oe.data = .fields vs):ObjOk P w H h a (erO K c a) :=
 ⟨⟨oe,vs,e,z,d⟩,⟨oe,e⟩,fun _ _ ⟨o,v,q,r⟩ k=>⟨o,v,k o q,r⟩⟩
mutual
def kh:NestedKey→Int
 | .num i=>hashInt i
 | .tup ks=>reduceHash (Builtin.Tuple.tupleHashOf (khs ks))
 | _=>0
def khs:List NestedKey→List Int
 | []=>[]
 | k::ks=>kh k::khs ks
end
mutual
theorem kh_hash (w:World):∀d:D,keyB d=true→(nk d).hash w=kh (nk d)
 | .int i,_=>rfl
 | .tuple ds,h=>by
  show reduceHash (Builtin.Tuple.tupleHashOf (NestedKey.hashes w (nks ds)))=reduceHash (Builtin.Tuple.tupleHashOf (khs (nks ds)));rw [khs_hash w ds h]
 | .none,h=>by cases h
 | .bool _,h=>by cases h
 | .str _,h=>by cases h
 | .list _,h=>by cases h
 | .dict _,h=>by cases h
theorem khs_hash (w:World):∀ds:List D,keyBs ds=true→NestedKey.hashes w (nks ds)=khs (nks ds)
 | [],_=>rfl
 | d::ds,h=>by
  have h':=Bool.and_eq_true_iff.mp (show (keyB d&&keyBs ds)=true from h);show (nk d).hash w::NestedKey.hashes w (nks ds)=kh (nk d)::khs (nks ds);rw [kh_hash w d h'.1,khs_hash w ds h'.2]
end
def dicO (xs:List (NestedKey×Addr×Value)) (ep:Nat) (p:Addr):HO := .ext fun h=>∃(o:Obj) (es:Array DictEntry),h.get? p=some o∧o.ExactDict∧o.data = .dict es ep∧es.toList=xs.map fun x=>⟨kh x.1,.ref x.2.1,x.2.2⟩
theorem dicO_nc {xs:List (NestedKey×Addr×Value)} {ep:Nat} {p:Addr} (q:Str):dicO xs ep p≠LamX.CodeO p q:=fun z=>by
 unfold dicO LamX.CodeO at z;injection z with z
 let o:Obj:={ cls := .type "dict", data := .dict (xs.map fun x=>(⟨kh x.1,.ref x.2.1,x.2.2⟩:DictEntry)).toArray ep }
 have hg:(Heap.mk (Array.replicate (p+1) o) {}).get? p=some o:=by
  unfold Heap.get?;simp [o]
 obtain ⟨oc,vs,t,h1,h2,_⟩:=(congrFun z (Heap.mk (Array.replicate (p+1) o) {})).mp ⟨o,_,hg,⟨rfl,rfl,rfl⟩,rfl,by simp⟩;rw [hg] at h1;cases h1;cases h2
inductive DkAll (K:PySem.W.Frag) (f:Hp):List (D×D)→List (NestedKey×Addr×Value)→Prop where
 | nil:DkAll K f [] []
 | cons {k d:D} {a:Addr} {v:V} {u:Value} {r:List (D×D)} {xs:List (NestedKey×Addr×Value)} (hk:keyOk k=true) (ha:Dp K f (.ref a) k) (hu:RelV v u) (hd:Dp K f v d) (t:DkAll K f r xs):DkAll K f ((k,d)::r) ((nk k,a,u)::xs)
theorem DkAll.same {K:PySem.W.Frag} {f f':Hp} (e:Same f f'):∀{kvs:List (D×D)} {xs:List (NestedKey×Addr×Value)},DkAll K f kvs xs→DkAll K f' kvs xs
 | _,_,.nil => .nil
 | _,_,.cons hk ha hu hd t => .cons hk (dp_same e ha) hu (dp_same e hd) (t.same e)
class StA where
 p:Option Addr
instance (priority:=low) StA.none:StA:=⟨Option.none⟩
inductive SlOk [StA] (K:PySem.W.Frag) (H0 f H:Hp):Option V→Sl→Prop where
 | un (o:Option V):SlOk K H0 f H o .un
 | va {v:V} {d:D} (h:Dp K f v d):SlOk K H0 f H (some v) (.va d)
 | ow {p:Addr} {vs:List V} {ds:List D} (h0:Nw H0 p) (hf:f p=none) (hH:H p=some (.lst vs)) (h:DpAll K f vs ds):SlOk K H0 f H (some (.ref p)) (.ow ds)
 | rd {p:Addr} {vs:List V} {ds:List D} (hH:SqL K H0 p vs) (h:DpAll K f vs ds):SlOk K H0 f H (some (.ref p)) (.rd ds)
 | er {p:Addr} {c:Nat} (hH:H p=some (erO K c p)):SlOk K H0 f H (some (.ref p)) (.er c)
 | fn {n:Str}:SlOk K H0 f H (some (.ref (He.ga K n))) (.fn n)
 | dk {p:Addr} {ep:Nat} {xs:List (NestedKey×Addr×Value)} {kvs:List (D×D)} (hp:(p==sysModules)=false) (h0:Nw H0 p) (hf:f p=none) (hH:H p=some (dicO xs ep p)) (hn:(xs.map (·.1)).Nodup) (hl:xs.length≤sizeLine) (h:DkAll K f kvs xs):SlOk K H0 f H (some (.ref p)) (.dk kvs)
 | dj {p:Addr} {xs:List (Key×V)} {kvs:List (D×D)} (h0:Nw H0 p) (hf:f p=none) (hH:H p=some (.dK xs)) (h:DjAll K f xs kvs):SlOk K H0 f H (some (.ref p)) (.dj kvs)
 | st {p:Addr} {vs:List V} {ds:List D} (hs:StA.p=some p) (h0:Nw H0 p) (hf:f p=none) (hH:H p=some (.lst vs)) (h:DpAll K f vs ds):SlOk K H0 f H (some (.ref p)) (.st ds)
 | fd {p:Addr} {ep:Nat} {xs:List (NestedKey×Addr×Value)} {kvs:List (D×D)} (hp:(p==sysModules)=false) (hf:f p=some (dicO xs ep p)) (hn:(xs.map (·.1)).Nodup) (hl:xs.length≤sizeLine) (h:DkAll K f kvs xs):SlOk K H0 f H (some (.ref p)) (.fd kvs)
structure Mt [CdT] [StA] (K:PySem.W.Frag) (f0 H0 f H:Hp) (σ:L2.St) (en:En):Prop where
 po:Po f0 H0 f H
 tb:LamX.Tabs CdT.T H0∧∀b ps,f0 b≠some (.tbl ps)
 len:σ.length=en.length
 sl:∀(i:Nat) (s:Sl),en[i]?=some s→∃o,σ[i]?=some o∧SlOk K H0 f H o s
 dis:∀(i j:Nat) (p:V) (s t:Sl),en[i]?=some s→en[j]?=some t→s.mu=true→t.own=true→σ[i]?=some (some p)→σ[j]?=some (some p)→i=j
section
variable [CdT] [StA] {K:PySem.W.Frag} {f0 H0 f H f' H':Hp} {σ:L2.St} {en:En}
theorem SlOk.mono {o:Option V} {s:Sl} (q:Po f H f' H') (h:SlOk K H0 f H o s):SlOk K H0 f' H' o s:=by
 cases h with
 | un o=>exact .un o
 | va h=>exact .va (dp_same q.sf h)
 | ow h0 hf hH h=>exact .ow h0 (q.loose hf hH) (q.sH.lst hH) (dpa_same q.sf h)
 | rd hH h=>exact .rd hH (dpa_same q.sf h)
 | er hH=>exact .er (q.sH.ext hH)
 | fn=>exact .fn
 | dk hp h0 hf hH hn hl h=>exact .dk hp h0 (q.loose hf hH) (q.sH.ext hH) hn hl (h.same q.sf)
 | st hs h0 hf hH h=>exact .st hs h0 (q.loose hf hH) (q.sH.lst hH) (dpa_same q.sf h)
 | dj h0 hf hH h=>exact .dj h0 (q.loose hf hH) (q.sH.keep _ _ hH (by (intro _ z;first | (cases z;done) | exact HO.noConfusion z))) (dj_same q.sf h)
 | fd hp hf hn hl h=>exact .fd hp (q.sf _ _ hf) hn hl (h.same q.sf)
theorem Mt.mono (m:Mt K f0 H0 f H σ en) (q:Po f H f' H'):Mt K f0 H0 f' H' σ en :=
 ⟨m.po.trans q,m.tb,m.len,fun i s e=>let ⟨o,h1,h2⟩:=m.sl i s e;⟨o,h1,h2.mono q⟩,m.dis⟩
theorem Mt.ct (m:Mt K f0 H0 f H σ en):LamX.Tabs CdT.T H∧∀b ps,f b≠some (.tbl ps):=⟨m.po.tab m.tb.1,m.po.nt m.tb.2⟩
theorem Mt.va {i:Nat} {d:D} (m:Mt K f0 H0 f H σ en) (e:en[i]?=some (.va d)):∃v,σ[i]?=some (some v)∧Dp K f v d:=by
 obtain ⟨o,h1,h2⟩:=m.sl i _ e;cases h2 with
 | va h=>exact ⟨_,h1,h⟩
theorem Mt.ow {i:Nat} {ds:List D} (m:Mt K f0 H0 f H σ en) (e:en[i]?=some (.ow ds)):∃p vs,σ[i]?=some (some (.ref p))∧Nw H0 p∧f p=none∧H p=some (.lst vs)∧DpAll K f vs ds:=by
 obtain ⟨o,h1,h2⟩:=m.sl i _ e;cases h2 with
 | ow h0 hf hH h=>exact ⟨_,_,h1,h0,hf,hH,h⟩
theorem Mt.st {i:Nat} {ds:List D} (m:Mt K f0 H0 f H σ en) (e:en[i]?=some (.st ds)):∃p vs,σ[i]?=some (some (.ref p))∧StA.p=some p∧Nw H0 p∧f p=none∧H p=some (.lst vs)∧DpAll K f vs ds:=by
 obtain ⟨o,h1,h2⟩:=m.sl i _ e;cases h2 with
 | st hs h0 hf hH h=>exact ⟨_,_,h1,hs,h0,hf,hH,h⟩
theorem Mt.er {i:Nat} {c:Nat} (m:Mt K f0 H0 f H σ en) (e:en[i]?=some (.er c)):∃p,σ[i]?=some (some (.ref p))∧H p=some (erO K c p):=by
 obtain ⟨o,h1,h2⟩:=m.sl i _ e;cases h2 with
 | er hH=>exact ⟨_,h1,hH⟩
theorem Mt.fn {i:Nat} {n:Str} (m:Mt K f0 H0 f H σ en) (e:en[i]?=some (.fn n)):σ[i]?=some (some (.ref (He.ga K n))):=by
 obtain ⟨o,h1,h2⟩:=m.sl i _ e;cases h2 with
 | fn=>exact h1
theorem Mt.fd {i:Nat} {kvs:List (D×D)} (m:Mt K f0 H0 f H σ en) (e:en[i]?=some (.fd kvs)):∃p xs ep,σ[i]?=some (some (.ref p))∧(p==sysModules)=false∧f p=some (dicO xs ep p)∧xs.length≤sizeLine∧DkAll K f kvs xs:=by
 obtain ⟨o,h1,h2⟩:=m.sl i _ e;cases h2 with
 | fd hp hf hn hl h=>exact ⟨_,_,_,h1,hp,hf,hl,h⟩
theorem Mt.fdn {i:Nat} {kvs:List (D×D)} (m:Mt K f0 H0 f H σ en) (e:en[i]?=some (.fd kvs)):∃p xs ep,σ[i]?=some (some (.ref p))∧(p==sysModules)=false∧f p=some (dicO xs ep p)∧(xs.map (·.1)).Nodup∧xs.length≤sizeLine∧DkAll K f kvs xs:=by
 obtain ⟨o,h1,h2⟩:=m.sl i _ e;cases h2 with
 | fd hp hf hn hl h=>exact ⟨_,_,_,h1,hp,hf,hn,hl,h⟩
theorem Mt.rd {i:Nat} {ds:List D} (m:Mt K f0 H0 f H σ en) (e:en[i]?=some (.rd ds)):∃p vs,σ[i]?=some (some (.ref p))∧SqL K H0 p vs∧DpAll K f vs ds:=by
 obtain ⟨o,h1,h2⟩:=m.sl i _ e;cases h2 with
 | rd hH h=>exact ⟨_,_,h1,hH,h⟩
theorem mu_own:∀{s:Sl},s.mu=true→s.own=true
 | .ow _,_=>rfl
 | .dk _,_=>rfl
 | .dj _,_=>rfl
 | .st _,_=>rfl
 | .un,h=>by cases h
 | .va _,h=>by cases h
 | .rd _,h=>by cases h
 | .er _,h=>by cases h
 | .fn _,h=>by cases h
 | .fd _,h=>by cases h
theorem Mt.at_ {i:Nat} {s:Sl} (m:Mt K f0 H0 f H σ en) (e:en[i]?=some s) (h:s.own=true):∃p o,σ[i]?=some (some (.ref p))∧H p=some o∧∀ps,o ≠ .tbl ps:=by
 obtain ⟨o,h1,h2⟩:=m.sl i _ e;cases h2 with
 | ow _ _ hH _=>exact ⟨_,_,h1,hH,by (intro _ z;first | (cases z;done) | exact HO.noConfusion z)⟩
 | er hH=>exact ⟨_,_,h1,hH,by (intro _ z;first | (cases z;done) | exact HO.noConfusion z)⟩
 | dk _ _ _ hH _ _ _=>exact ⟨_,_,h1,hH,by (intro _ z;first | (cases z;done) | exact HO.noConfusion z)⟩
 | st _ _ _ hH _=>exact ⟨_,_,h1,hH,by (intro _ z;first | (cases z;done) | exact HO.noConfusion z)⟩
 | dj _ _ hH _=>exact ⟨_,_,h1,hH,by (intro _ z;first | (cases z;done) | exact HO.noConfusion z)⟩
 | un=>cases h
 | va=>cases h
 | rd=>cases h
 | fn=>cases h
 | fd=>cases h
theorem Mt.freshN {p:Addr} (m:Mt K f0 H0 f H σ en) (hp:Nw H p) (k:Nat) (t:Sl) (e:en[k]?=some t) (h:t.own=true):σ[k]?≠some (some (.ref p)):=fun z=>by
 obtain ⟨p',o,h1,h2,h3⟩:=m.at_ e h;rw [z] at h1;cases h1;exact hp.no h2 h3
theorem Mt.fresh {p:Addr} (m:Mt K f0 H0 f H σ en) (hp:H p=none) (k:Nat) (t:Sl) (e:en[k]?=some t) (h:t.own=true):σ[k]?≠some (some (.ref p)):=m.freshN (nw hp) k t e h
theorem set_at {α:Type} {l:List α} {i j:Nat} {a b:α} (h:(l.set i a)[j]?=some b):(i=j∧i<l.length∧a=b)∨(i≠j∧l[j]?=some b):=by
 by_cases hj:i=j
 ·subst hj;by_cases hl:i<l.length
  ·rw [List.getElem?_set_self hl] at h;exact .inl ⟨rfl,hl,Option.some.inj h⟩
  ·rw [List.getElem?_eq_none (by rw [List.length_set];omega)] at h;cases h
 ·rw [List.getElem?_set_ne hj] at h;exact .inr ⟨hj,h⟩
theorem Mt.disNo {i:Nat} {o:Option V} {s':Sl} (m:Mt K f0 H0 f H σ en) (hs:s'.own=false) (j k:Nat) (p:V) (s t:Sl) (e1:(en.set i s')[j]?=some s) (e2:(en.set i s')[k]?=some t) (h1:s.mu=true) (h2:t.own=true) (e3:(σ.set i o)[j]?=some (some p)) (e4:(σ.set i o)[k]?=some (some p)):j=k:=by
 rcases set_at e1 with ⟨rfl,_,rfl⟩ | ⟨n1,e1⟩
 ·rw [mu_own h1] at hs;cases hs
 ·rcases set_at e2 with ⟨rfl,_,rfl⟩ | ⟨n2,e2⟩
  ·rw [h2] at hs;cases hs
  ·rw [List.getElem?_set_ne n1] at e3;rw [List.getElem?_set_ne n2] at e4;exact m.dis j k p s t e1 e2 h1 h2 e3 e4
theorem Mt.disNew {i:Nat} {p:Addr} {s':Sl} (m:Mt K f0 H0 f H σ en) (fr:∀(k:Nat) (t:Sl),en[k]?=some t→t.own=true→σ[k]?≠some (some (.ref p))) (j k:Nat) (q:V) (s t:Sl) (e1:(en.set i s')[j]?=some s) (e2:(en.set i s')[k]?=some t) (h1:s.mu=true) (h2:t.own=true) (e3:(σ.set i (some (.ref p)))[j]?=some (some q)) (e4:(σ.set i (some (.ref p)))[k]?=some (some q)):j=k:=by
 rcases set_at e1 with ⟨rfl,_,rfl⟩ | ⟨n1,e1⟩
 ·rcases set_at e2 with ⟨rfl,_,rfl⟩ | ⟨n2,e2⟩
  ·rfl
  ·rcases set_at e3 with ⟨_,_,e3⟩ | ⟨n3,_⟩
   ·cases e3;rw [List.getElem?_set_ne n2] at e4;exact absurd e4 (fr k t e2 h2)
   ·exact absurd rfl n3
 ·rcases set_at e2 with ⟨rfl,_,rfl⟩ | ⟨n2,e2⟩
  ·rcases set_at e4 with ⟨_,_,e4⟩ | ⟨n4,_⟩
   ·cases e4;rw [List.getElem?_set_ne n1] at e3;exact absurd e3 (fr j s e1 (mu_own h1))
   ·exact absurd rfl n4
  ·rw [List.getElem?_set_ne n1] at e3;rw [List.getElem?_set_ne n2] at e4;exact m.dis j k q s t e1 e2 h1 h2 e3 e4
theorem Mt.disUp {i:Nat} {s0 s':Sl} (m:Mt K f0 H0 f H σ en) (e:en[i]?=some s0) (hm:s0.mu=true) (j k:Nat) (q:V) (s t:Sl) (e1:(en.set i s')[j]?=some s) (e2:(en.set i s')[k]?=some t) (h1:s.mu=true) (h2:t.own=true) (e3:σ[j]?=some (some q)) (e4:σ[k]?=some (some q)):j=k:=by
 have b1:∃z,en[j]?=some z∧z.mu=true:=by
  rcases set_at e1 with ⟨rfl,_,_⟩ | ⟨_,e1⟩
  ·exact ⟨_,e,hm⟩
  ·exact ⟨_,e1,h1⟩
 have b2:∃z,en[k]?=some z∧z.own=true:=by
  rcases set_at e2 with ⟨rfl,_,_⟩ | ⟨_,e2⟩
  ·exact ⟨_,e,mu_own hm⟩
  ·exact ⟨_,e2,h2⟩
 obtain ⟨z1,a1,a2⟩:=b1;obtain ⟨z2,a3,a4⟩:=b2;exact m.dis j k q z1 z2 a1 a3 a2 a4 e3 e4
theorem Mt.slSet {i:Nat} {o:Option V} {s':Sl} (m:Mt K f0 H0 f H σ en) (h:SlOk K H0 f H o s') (j:Nat) (s:Sl) (e:(en.set i s')[j]?=some s):∃o',(σ.set i o)[j]?=some o'∧SlOk K H0 f H o' s:=by
 rcases set_at e with ⟨rfl,hl,rfl⟩ | ⟨n1,e⟩
 ·exact ⟨_,List.getElem?_set_self (by rw [m.len];exact hl),h⟩
 ·rw [List.getElem?_set_ne n1];exact m.sl j s e
theorem Mt.setV {i:Nat} {v:V} {d:D} (m:Mt K f0 H0 f H σ en) (h:Dp K f v d):Mt K f0 H0 f H (σ.set i (some v)) (en.set i (.va d)) :=
 ⟨m.po,m.tb,by rw [List.length_set,List.length_set];exact m.len,m.slSet (.va h),m.disNo rfl⟩
theorem Mt.setU {i:Nat} {o:Option V} (m:Mt K f0 H0 f H σ en):Mt K f0 H0 f H (σ.set i o) (en.set i .un) :=
 ⟨m.po,m.tb,by rw [List.length_set,List.length_set];exact m.len,m.slSet (.un o),m.disNo rfl⟩
theorem Mt.setE {i:Nat} {p:Addr} {c:Nat} (m:Mt K f0 H0 f H σ en) (hp:H p=none):Mt K f0 H0 f (upd H p (erO K c p)) (σ.set i (some (.ref p))) (en.set i (.er c)):=by
 have m':=m.mono ((Po.refl m.po.sub).newH (o:=erO K c p) hp);exact ⟨m'.po,m'.tb,by rw [List.length_set,List.length_set];exact m'.len,m'.slSet (.er upd_same),m'.disNew (m.fresh hp)⟩
theorem Mt.setO {i:Nat} {p:Addr} {vs:List V} {ds:List D} (m:Mt K f0 H0 f H σ en) (q:Po f H f' H') (h1:Nw H p) (h2:f' p=none) (h3:H' p=some (.lst vs)) (h4:DpAll K f' vs ds) :
  Mt K f0 H0 f' H' (σ.set i (some (.ref p))) (en.set i (.ow ds)):=by
 have m':=m.mono q;exact ⟨m'.po,m'.tb,by rw [List.length_set,List.length_set];exact m'.len,m'.slSet (.ow (m.po.sH.freeN h1) h2 h3 h4),m'.disNew (m.freshN h1)⟩
theorem Mt.setD {i ep:Nat} {p:Addr} (m:Mt K f0 H0 f H σ en) (hp:(p==sysModules)=false) (h1:H p=none) :
  Mt K f0 H0 f (upd H p (dicO [] ep p)) (σ.set i (some (.ref p))) (en.set i (.dk [])):=by
 have hf:f p=none:=same_none m.po.sub h1;have m':=m.mono ((Po.refl m.po.sub).newH (o:=dicO [] ep p) h1);exact ⟨m'.po,m'.tb,by rw [List.length_set,List.length_set];exact m'.len,m'.slSet (.dk hp (m.po.sH.free h1) hf upd_same List.nodup_nil (Nat.zero_le _) .nil),m'.disNew (m.fresh h1)⟩
theorem Mt.slUp {i:Nat} {p:Addr} {o:HO} {s0 s':Sl} (m:Mt K f0 H0 f H σ en) (e:en[i]?=some s0) (hm:s0.mu=true) (es:σ[i]?=some (some (.ref p))) (hn:SlOk K H0 f (upd H p o) (some (.ref p)) s') (j:Nat) (s:Sl) (e':(en.set i s')[j]?=some s):∃o',σ[j]?=some o'∧SlOk K H0 f (upd H p o) o' s:=by
 rcases set_at e' with ⟨rfl,hl,rfl⟩ | ⟨hj,e'⟩
 ·exact ⟨_,es,hn⟩
 ·obtain ⟨o1,h1,h2⟩:=m.sl j s e';refine ⟨o1,h1,?_⟩;have np:∀{p2:Addr},s.own=true→o1=some (.ref p2)→p2≠p:=fun {p2} hs eo z=>by
   subst z;subst eo;exact hj (m.dis i j _ _ _ e e' hm hs es h1)
  cases h2 with
  | un=>exact .un _
  | va h=>exact .va h
  | rd hH h=>exact .rd hH h
  | fn=>exact .fn
  | fd gp gf gn gl g=>exact .fd gp gf gn gl g
  | er gH=>exact .er (by rw [upd_ne (np rfl rfl)];exact gH)
  | ow g0 gf gH g=>exact .ow g0 gf (by rw [upd_ne (np rfl rfl)];exact gH) g
  | dk gp g0 gf gH gn gl g=>exact .dk gp g0 gf (by rw [upd_ne (np rfl rfl)];exact gH) gn gl g
  | dj g0 gf gH g=>exact .dj g0 gf (by rw [upd_ne (np rfl rfl)];exact gH) g
  | st gs g0 gf gH g=>exact .st gs g0 gf (by rw [upd_ne (np rfl rfl)];exact gH) g
theorem Mt.poUp {p:Addr} {o o':HO} (m:Mt K f0 H0 f H σ en) (h0:Nw H0 p) (hf:f p=none) (hp:H p=some o') (n1:∀ps,o' ≠ .tbl ps) (n2:∀q,o'≠LamX.CodeO p q):Po f0 H0 f (upd H p o) :=
 ⟨m.po.sH.up h0,m.po.sf,fun a x e=>by rw [upd_ne (ne_of_none e hf)];exact m.po.sub _ _ e,m.po.gro,m.po.nt,fun t=>tabs_upd (m.po.tab t) hp n1 n2⟩
theorem Mt.upO {i:Nat} {p:Addr} {ws:List V} {ds es:List D} (m:Mt K f0 H0 f H σ en) (e:en[i]?=some (.ow ds)) (es':σ[i]?=some (some (.ref p))) (hw:DpAll K f ws es) :
  Mt K f0 H0 f (upd H p (.lst ws)) σ (en.set i (.ow es)):=by
 obtain ⟨p',vs',e1,h0,hf,hH,h⟩:=m.ow e;rw [es'] at e1;cases e1;exact ⟨m.poUp h0 hf hH (by (intro _ z;first | (cases z;done) | exact HO.noConfusion z)) (by (first | (intro _ z;first | (cases z;done) | exact HO.noConfusion z) | exact fun q=>dicO_nc q)),m.tb,by rw [List.length_set];exact m.len,m.slUp e rfl es' (.ow h0 hf upd_same hw),m.disUp e rfl⟩
theorem Mt.upS {i:Nat} {p:Addr} {ws:List V} {ds es:List D} (m:Mt K f0 H0 f H σ en) (e:en[i]?=some (.st ds)) (es':σ[i]?=some (some (.ref p))) (hw:DpAll K f ws es) :
  Mt K f0 H0 f (upd H p (.lst ws)) σ (en.set i (.st es)):=by
 obtain ⟨p',vs',e1,hs,h0,hf,hH,h⟩:=m.st e;rw [es'] at e1;cases e1;exact ⟨m.poUp h0 hf hH (by (intro _ z;first | (cases z;done) | exact HO.noConfusion z)) (by (first | (intro _ z;first | (cases z;done) | exact HO.noConfusion z) | exact fun q=>dicO_nc q)),m.tb,by rw [List.length_set];exact m.len,m.slUp e rfl es' (.st hs h0 hf upd_same hw),m.disUp e rfl⟩
theorem Mt.dk {i:Nat} {kvs:List (D×D)} (m:Mt K f0 H0 f H σ en) (e:en[i]?=some (.dk kvs)):∃p xs ep,σ[i]?=some (some (.ref p))∧(p==sysModules)=false∧Nw H0 p∧f p=none∧H p=some (dicO xs ep p)∧(xs.map (·.1)).Nodup∧xs.length≤sizeLine∧DkAll K f kvs xs:=by
 obtain ⟨o,h1,h2⟩:=m.sl i _ e;cases h2 with
 | dk hp h0 hf hH hn hl h=>exact ⟨_,_,_,h1,hp,h0,hf,hH,hn,hl,h⟩
theorem Mt.upD {i ep:Nat} {p:Addr} {xs:List (NestedKey×Addr×Value)} {kvs kvs':List (D×D)} (m:Mt K f0 H0 f H σ en) (e:en[i]?=some (.dk kvs)) (es':σ[i]?=some (some (.ref p))) (hn:(xs.map (·.1)).Nodup) (hl:xs.length≤sizeLine) (h:DkAll K f kvs' xs) :
  Mt K f0 H0 f (upd H p (dicO xs ep p)) σ (en.set i (.dk kvs')):=by
 obtain ⟨p',xs',ep',e1,hp,h0,hf,hH,_⟩:=m.dk e;rw [es'] at e1;cases e1;exact ⟨m.poUp h0 hf hH (by (intro _ z;first | (cases z;done) | exact HO.noConfusion z)) (by (first | (intro _ z;first | (cases z;done) | exact HO.noConfusion z) | exact fun q=>dicO_nc q)),m.tb,by rw [List.length_set];exact m.len,m.slUp e rfl es' (.dk hp h0 hf upd_same hn hl h),m.disUp e rfl⟩
theorem Mt.dj {i:Nat} {kvs:List (D×D)} (m:Mt K f0 H0 f H σ en) (e:en[i]?=some (.dj kvs)):∃p xs,σ[i]?=some (some (.ref p))∧Nw H0 p∧f p=none∧H p=some (.dK xs)∧DjAll K f xs kvs:=by
 obtain ⟨o,h1,h2⟩:=m.sl i _ e;cases h2 with
 | dj h0 hf hH h=>exact ⟨_,_,h1,h0,hf,hH,h⟩
theorem Mt.setJ {i:Nat} {p:Addr} (m:Mt K f0 H0 f H σ en) (h1:H p=none) :
  Mt K f0 H0 f (upd H p (.dK [])) (σ.set i (some (.ref p))) (en.set i (.dj [])):=by
 have hf:f p=none:=same_none m.po.sub h1;have m':=m.mono ((Po.refl m.po.sub).newH (o := .dK []) h1);exact ⟨m'.po,m'.tb,by rw [List.length_set,List.length_set];exact m'.len,m'.slSet (.dj (m.po.sH.free h1) hf upd_same .nil),m'.disNew (m.fresh h1)⟩
theorem Mt.upJ {i:Nat} {p:Addr} {xs:List (Key×V)} {kvs kvs':List (D×D)} (m:Mt K f0 H0 f H σ en) (e:en[i]?=some (.dj kvs)) (es':σ[i]?=some (some (.ref p))) (h:DjAll K f xs kvs') :
  Mt K f0 H0 f (upd H p (.dK xs)) σ (en.set i (.dj kvs')):=by
 obtain ⟨p',xs',e1,h0,hf,hH,_⟩:=m.dj e;rw [es'] at e1;cases e1;exact ⟨m.poUp h0 hf hH (by (intro _ z;first | (cases z;done) | exact HO.noConfusion z)) (by (first | (intro _ z;first | (cases z;done) | exact HO.noConfusion z) | exact fun q=>dicO_nc q)),m.tb,by rw [List.length_set];exact m.len,m.slUp e rfl es' (.dj h0 hf upd_same h),m.disUp e rfl⟩
theorem Mt.frz {i:Nat} {ds:List D} (m:Mt K f0 H0 f H σ en) (e:en[i]?=some (.ow ds)):∃f',Same f f'∧Mt K f0 H0 f' H σ (en.set i (.va (.list ds))):=by
 obtain ⟨p,vs,e1,h0,hf,hH,h⟩:=m.ow e;have sm:Same f (upd f p (.lst vs)):=fun a o x=>by
  rw [upd_ne (ne_of_none x hf)];exact x
 refine ⟨_,sm,⟨m.po.sH,m.po.sf.trans sm,fun a o x=>?_,fun a o x=>?_,fun n=>nt_upd (m.po.nt n) (by (intro _ z;first | (cases z;done) | exact HO.noConfusion z)),m.po.tab⟩,m.tb,by rw [List.length_set];exact m.len,fun j s e'=>?_,fun j k q s t a1 a2 h1 h2 a3 a4=>?_⟩
 ·by_cases ha:a=p
  ·subst ha;rw [upd_same] at x;rw [hH];exact x
  ·rw [upd_ne ha] at x;exact m.po.sub _ _ x
 ·by_cases ha:a=p
  ·subst ha;exact .inr h0
  ·rw [upd_ne ha] at x;exact m.po.gro _ _ x
 ·rcases set_at e' with ⟨rfl,hl,rfl⟩ | ⟨hj,e'⟩
  ·exact ⟨_,e1,.va (.lst (.inl (.inl upd_same)) (dpa_same sm h))⟩
  ·obtain ⟨o1,g1,g2⟩:=m.sl j s e';refine ⟨o1,g1,?_⟩;have np:∀{p2:Addr},s.own=true→o1=some (.ref p2)→p2≠p:=fun {p2} hs eo z=>by
    subst z;subst eo;exact hj (m.dis i j _ _ _ e e' rfl hs e1 g1)
   cases g2 with
   | un=>exact .un _
   | va h=>exact .va (dp_same sm h)
   | rd hH h=>exact .rd hH (dpa_same sm h)
   | er hH=>exact .er hH
   | fn=>exact .fn
   | fd gp gf gn gl g=>exact .fd gp (sm _ _ gf) gn gl (g.same sm)
   | ow g0 gf gH g=>exact .ow g0 (by rw [upd_ne (np rfl rfl)];exact gf) gH (dpa_same sm g)
   | dk gp g0 gf gH gn gl g=>exact .dk gp g0 (by rw [upd_ne (np rfl rfl)];exact gf) gH gn gl (g.same sm)
   | dj g0 gf gH g=>exact .dj g0 (by rw [upd_ne (np rfl rfl)];exact gf) gH (dj_same sm g)
   | st gs g0 gf gH g=>exact .st gs g0 (by rw [upd_ne (np rfl rfl)];exact gf) gH (dpa_same sm g)
 ·rcases set_at a1 with ⟨rfl,_,rfl⟩ | ⟨n1,a1⟩
  ·cases h1
  ·rcases set_at a2 with ⟨rfl,_,rfl⟩ | ⟨n2,a2⟩
   ·cases h2
   ·exact m.dis j k q s t a1 a2 h1 h2 a3 a4
theorem Mt.frzD {i:Nat} {kvs:List (D×D)} (m:Mt K f0 H0 f H σ en) (e:en[i]?=some (.dk kvs)):∃f',Same f f'∧Mt K f0 H0 f' H σ (en.set i (.fd kvs)):=by
 obtain ⟨p,vs,ep,e1,hp,h0,hf,hH,hn,hl',h⟩:=m.dk e;have sm:Same f (upd f p (dicO vs ep p)):=fun a o x=>by
  rw [upd_ne (ne_of_none x hf)];exact x
 refine ⟨_,sm,⟨m.po.sH,m.po.sf.trans sm,fun a o x=>?_,fun a o x=>?_,fun n=>nt_upd (m.po.nt n) (by (intro _ z;first | (cases z;done) | exact HO.noConfusion z)),m.po.tab⟩,m.tb,by rw [List.length_set];exact m.len,fun j s e'=>?_,fun j k q s t a1 a2 h1 h2 a3 a4=>?_⟩
 ·by_cases ha:a=p
  ·subst ha;rw [upd_same] at x;rw [hH];exact x
  ·rw [upd_ne ha] at x;exact m.po.sub _ _ x
 ·by_cases ha:a=p
  ·subst ha;exact .inr h0
  ·rw [upd_ne ha] at x;exact m.po.gro _ _ x
 ·rcases set_at e' with ⟨rfl,hl,rfl⟩ | ⟨hj,e'⟩
  ·exact ⟨_,e1,.fd hp upd_same hn hl' (h.same sm)⟩
  ·obtain ⟨o1,g1,g2⟩:=m.sl j s e';refine ⟨o1,g1,?_⟩;have np:∀{p2:Addr},s.own=true→o1=some (.ref p2)→p2≠p:=fun {p2} hs eo z=>by
    subst z;subst eo;exact hj (m.dis i j _ _ _ e e' rfl hs e1 g1)
   cases g2 with
   | un=>exact .un _
   | va h=>exact .va (dp_same sm h)
   | rd hH h=>exact .rd hH (dpa_same sm h)
   | er hH=>exact .er hH
   | fn=>exact .fn
   | fd gp gf gn gl g=>exact .fd gp (sm _ _ gf) gn gl (g.same sm)
   | ow g0 gf gH g=>exact .ow g0 (by rw [upd_ne (np rfl rfl)];exact gf) gH (dpa_same sm g)
   | dk gp g0 gf gH gn gl g=>exact .dk gp g0 (by rw [upd_ne (np rfl rfl)];exact gf) gH gn gl (g.same sm)
   | dj g0 gf gH g=>exact .dj g0 (by rw [upd_ne (np rfl rfl)];exact gf) gH (dj_same sm g)
   | st gs g0 gf gH g=>exact .st gs g0 (by rw [upd_ne (np rfl rfl)];exact gf) gH (dpa_same sm g)
 ·rcases set_at a1 with ⟨rfl,_,rfl⟩ | ⟨n1,a1⟩
  ·cases h1
  ·rcases set_at a2 with ⟨rfl,_,rfl⟩ | ⟨n2,a2⟩
   ·cases h2
   ·exact m.dis j k q s t a1 a2 h1 h2 a3 a4
theorem Mt.frzJ {i:Nat} {kvs:List (D×D)} (m:Mt K f0 H0 f H σ en) (e:en[i]?=some (.dj kvs)):∃f',Same f f'∧Mt K f0 H0 f' H σ (en.set i (.va (.dict kvs))):=by
 obtain ⟨p,vs,e1,h0,hf,hH,h⟩:=m.dj e;have sm:Same f (upd f p (HO.dK vs)):=fun a o x=>by
  rw [upd_ne (ne_of_none x hf)];exact x
 refine ⟨_,sm,⟨m.po.sH,m.po.sf.trans sm,fun a o x=>?_,fun a o x=>?_,fun n=>nt_upd (m.po.nt n) (by (intro _ z;first | (cases z;done) | exact HO.noConfusion z)),m.po.tab⟩,m.tb,by rw [List.length_set];exact m.len,fun j s e'=>?_,fun j k q s t a1 a2 h1 h2 a3 a4=>?_⟩
 ·by_cases ha:a=p
  ·subst ha;rw [upd_same] at x;rw [hH];exact x
  ·rw [upd_ne ha] at x;exact m.po.sub _ _ x
 ·by_cases ha:a=p
  ·subst ha;exact .inr h0
  ·rw [upd_ne ha] at x;exact m.po.gro _ _ x
 ·rcases set_at e' with ⟨rfl,hl,rfl⟩ | ⟨hj,e'⟩
  ·exact ⟨_,e1,.va (.dcj upd_same (dj_same sm h))⟩
  ·obtain ⟨o1,g1,g2⟩:=m.sl j s e';refine ⟨o1,g1,?_⟩;have np:∀{p2:Addr},s.own=true→o1=some (.ref p2)→p2≠p:=fun {p2} hs eo z=>by
    subst z;subst eo;exact hj (m.dis i j _ _ _ e e' rfl hs e1 g1)
   cases g2 with
   | un=>exact .un _
   | va h=>exact .va (dp_same sm h)
   | rd hH h=>exact .rd hH (dpa_same sm h)
   | er hH=>exact .er hH
   | fn=>exact .fn
   | fd gp gf gn gl g=>exact .fd gp (sm _ _ gf) gn gl (g.same sm)
   | ow g0 gf gH g=>exact .ow g0 (by rw [upd_ne (np rfl rfl)];exact gf) gH (dpa_same sm g)
   | dk gp g0 gf gH gn gl g=>exact .dk gp g0 (by rw [upd_ne (np rfl rfl)];exact gf) gH gn gl (g.same sm)
   | dj g0 gf gH g=>exact .dj g0 (by rw [upd_ne (np rfl rfl)];exact gf) gH (dj_same sm g)
   | st gs g0 gf gH g=>exact .st gs g0 (by rw [upd_ne (np rfl rfl)];exact gf) gH (dpa_same sm g)
 ·rcases set_at a1 with ⟨rfl,_,rfl⟩ | ⟨n1,a1⟩
  ·cases h1
  ·rcases set_at a2 with ⟨rfl,_,rfl⟩ | ⟨n2,a2⟩
   ·cases h2
   ·exact m.dis j k q s t a1 a2 h1 h2 a3 a4
theorem Mt.wipe1 {i:Nat} (m:Mt K f0 H0 f H σ en):Mt K f0 H0 f H (σ.set i none) (en.set i .un):=m.setU
theorem Mt.wipes (m:Mt K f0 H0 f H σ en):∀vs:List Nat,Mt K f0 H0 f H (L2.wipe σ vs) (AW.wipe en vs)
 | []=>m
 | v::vs=>(m.wipes vs).wipe1
end
end AW
namespace AW
open PySem PySem.Spec PyProof.Rows L2
variable [CdT] [StA]
theorem line_eq:line=sizeLine:=by rw [sizeLine_eq];rfl
def PyR (X:Cx):Prop:=X.A.frames=some X.stack→Mod X.K X.mg X.base→∀s:Shared,(∀b o,X.base.get? b=some o→s.heap.get? b=some o)→PylongRoom (model X.prog X.w) X.A s
theorem PyR.of {X:Cx} (h:PyR X) {pins:List (Addr×Obj)} {σ:L2.St} {H:Hp} {s:Shared} (I:Inv X pins σ H s):PylongRoom (model X.prog X.w) X.A s:=h I.ok.frames I.ok.mod s I.bk
def Ac (K:PySem.W.Frag) (f H:Hp) (Q:VK) (p:D×Bool):Prop:=∀v f' H',Po f H f' H'→Vf K H f' H' v p.1 p.2→Q v H'
section
variable {K:PySem.W.Frag} {f H f1 H1:Hp} {Q:VK}
theorem Ac.mono {p:D×Bool} (q:Po f H f1 H1) (h:Ac K f H Q p):Ac K f1 H1 Q p:=fun v f' H' q' hv=>h v f' H' (q.trans q') (hv.back q.sH)
theorem Ac.here {d:D} {v:V} (s:Same f H) (h:Ac K f H Q (d,false)) (hv:Dp K f v d):Q v H:=h v f H (Po.refl s) hv
theorem Ac.newT {ds:List D} {vs:List V} {p:Addr} (s:Same f H) (h:Ac K f H Q (.tuple ds,false)) (hv:DpAll K f vs ds) (hp:H p=none):Q (.ref p) (upd H p (.tup vs)) :=
 h _ _ _ ((Po.refl s).new hp) (.tup (.inl (.inl upd_same)) (dpa_same (fun a o e=>by rw [upd_ne (ne_of_none (s _ _ e) hp)];exact e) hv))
theorem Ac.newL {ds:List D} {vs:List V} {p:Addr} (s:Same f H) (h:Ac K f H Q (.list ds,true)) (hv:DpAll K f vs ds) (hp:H p=none):Q (.ref p) (upd H p (.lst vs)) :=
 h _ _ _ ((Po.refl s).newH hp) ⟨ds,p,vs,rfl,rfl,nw hp,s.free hp,upd_same,hv⟩
end
def rO2 (K:PySem.W.Frag) (o:O2):R2:=fun x y H Q=>∃f dx dy p,Same f H∧Vr K f H x dx∧Vr K f H y dy∧sem2 o dx dy = .ok p∧Ac K f H Q p
def rO1 (K:PySem.W.Frag) (o:O1):V→Hp→VK→Prop:=fun x H Q=>∃f dx p,Same f H∧Vr K f H x dx∧sem1 o dx = .ok p∧Ac K f H Q p
section
variable {X:Cx}
theorem op_catS:OpR X (binaryOp .Add) (fun x y H Q=>∃a b xs ys,x = .ref a∧y = .ref b∧SqL X.K H a xs∧SqL X.K H b ys∧xs.length+ys.length≤sizeLine∧∀p,H p=none→Q (.ref p) (upd H p (.lst (xs++ys)))):=by
 intro pins s σ H x y v u Q I rx ry h;obtain ⟨a,b,xs,ys,rfl,rfl,ha,hb,hz,q⟩:=h;cases rx;cases ry;obtain ⟨its,r1,p1,_⟩:=I.list ha;obtain ⟨its2,r2,p2,_⟩:=I.list hb;obtain ⟨⟨cls,dd,data,sl⟩,ho,hc,n,hd⟩:=p1.isList;obtain ⟨⟨cls2,dd2,data2,sl2⟩,ho2,hc2,n2,hd2⟩:=p2.isList;simp only at hc hd hc2 hd2;subst hc hd hc2 hd2;have e:its.toArray++its2.toArray=(its++its2).toArray:=by simp
 have l1:=r1.length;have l2:=r2.length;refine concat_meets ⟨_,ho,rfl⟩ ⟨_,ho2,rfl⟩ noFill_list_add seq_list_add PySem.F.slot_list_add PySem.F.entry_list_add (PySem.F.args_list_add_2 _ _) (list_addW a b its.toArray its2.toArray n n2 dd dd2 sl sl2 (by simp only [List.size_toArray];omega)) ⟨ho,ho2,?_⟩;rw [e];exact ⟨.ref _,_,I.lnew (t':=s.toks) (r1.append r2) (by rw [List.length_append];omega),rfl,q _ I.fresh⟩
theorem op_addA:OpR X (binaryOp .Add) (rO2 X.K .add):=by
 intro pins s σ H x y v u Q I rx ry h;obtain ⟨f,dx,dy,p,sm,hx,hy,e,q⟩:=h;cases dx <;> cases dy <;> first
  | (cases e;done)
  | skip
 case int.int i j =>
  cases e;exact op_add pins s σ H x y v u Q I rx ry ⟨i,j,hx.int,hy.int,q.here sm (.int _)⟩
 case str.str i j =>
  by_cases hz:i.length+j.length≤line
  ·have e':(if i.length+j.length≤line then v1 (.str (i++j)) else .no)=R.ok p:=e;rw [if_pos hz] at e';cases e';exact op_add_str pins s σ H x y v u Q I rx ry ⟨i,j,hx.str,hy.str,by rw [←line_eq];exact hz,q.here sm (.str _)⟩
  ·have e':(if i.length+j.length≤line then v1 (.str (i++j)) else .no)=R.ok p:=e;rw [if_neg hz] at e';cases e'
 case list.list xs ys =>
  have e':(if xs.length+ys.length≤line then R.ok (PyData.list (xs++ys),true) else .no)=R.ok p:=e;by_cases hz:xs.length+ys.length≤line
  ·rw [if_pos hz] at e';cases e';obtain ⟨a,vs,rfl,ha,ra⟩:=hx.list sm;obtain ⟨b,us,rfl,hb,rb⟩:=hy.list sm;exact op_catS pins s σ H _ _ v u Q I rx ry ⟨a,b,vs,us,rfl,rfl,ha,hb,by rw [ra.length,rb.length,←line_eq];exact hz,fun p hp=>q.newL sm (ra.append rb) hp⟩
  ·rw [if_neg hz] at e';cases e'
 case tuple.tuple xs ys =>
  have e':(if xs.length+ys.length≤line then v1 (PyData.tuple (xs++ys)) else .no)=R.ok p:=e;by_cases hz:xs.length+ys.length≤line
  ·rw [if_pos hz] at e';cases e';obtain ⟨a,vs,rfl,hfa,ha,ra⟩:=hx.tup sm;obtain ⟨b,us,rfl,hfb,hb,rb⟩:=hy.tup sm;refine op_catA pins s σ H _ _ v u Q I rx ry ⟨a,b,vs,us,rfl,rfl,ha,hb,by rw [ra.length,rb.length,←line_eq];exact hz,fun z=>?_,fun z1 z2=>?_,fun _ _ p hp=>q.newT sm (ra.append rb) hp⟩
   ·refine q.here sm ?_;subst z;cases ra;exact .tup hfb rb
   ·refine q.here sm ?_;subst z2;cases rb;rw [List.append_nil];exact .tup hfa ra
  ·rw [if_neg hz] at e';cases e'
theorem op_subA:OpR X (binaryOp .Sub) (rO2 X.K .sub):=by
 intro pins s σ H x y v u Q I rx ry h;obtain ⟨f,dx,dy,p,sm,hx,hy,e,q⟩:=h;cases dx <;> cases dy <;> first
  | (cases e;done)
  | skip
 case int.int i j =>
  cases e;exact op_sub pins s σ H x y v u Q I rx ry ⟨i,j,hx.int,hy.int,q.here sm (.int _)⟩
theorem mulOk_ok {i j:Int} (h:mulOk i j=true):IntMulOk i j:=by
 rcases (of_decide_eq_true h:i.natAbs<2^64∨j.natAbs<2^64∨i.natAbs.log2+j.natAbs.log2<100000000) with h1 | h1 | h1
 ·exact .of_left (intBits_le_64 (by omega) (by omega))
 ·exact .of_right (intBits_le_64 (by omega) (by omega))
 have b:∀x:Int,Builtin.Int.intBits x≤x.natAbs.log2+1:=fun x=>by
  unfold Builtin.Int.intBits;split <;> omega
 have h3:=b i;have h4:=b j;have e:bitsLine=134217728:=by decide
 unfold IntMulOk;intro z;rw [Bool.and_eq_true] at z;have z2:=z.2;unfold Builtin.Int.intTooBig at z2;have z3:=of_decide_eq_true z2;rw [e] at z3;omega
theorem op_mulA:OpR X (binaryOp .Mult) (rO2 X.K .mul):=by
 intro pins s σ H x y v u Q I rx ry h;obtain ⟨f,dx,dy,p,sm,hx,hy,e,q⟩:=h;cases dx <;> cases dy <;> first
  | (cases e;done)
  | skip
 case int.int i j =>
  have e':(if mulOk i j=true then v1 (.int (i*j)) else .no)=R.ok p:=e;by_cases hz:mulOk i j=true
  ·rw [if_pos hz] at e';cases e';have hr:OpR X (binaryOp .Mult) (rI (fun i j=>mulOk i j=true) fun i j => .int (i*j)):=opI fun _ _ _ _ _ _ _ hc q=>mul_int q (mulOk_ok hc);exact hr pins s σ H x y v u Q I rx ry ⟨i,j,hx.int,hy.int,hz,q.here sm (.int _)⟩
  ·rw [if_neg hz] at e';cases e'
 case tuple.int xs k =>
  have e':(if -1000000≤k∧k≤1000000∧xs.length*k.toNat≤line then v1 (.tuple (List.replicate k.toNat xs).flatten) else .no)=R.ok p:=e;by_cases hz : -1000000≤k∧k≤1000000∧xs.length*k.toNat≤line
  ·rw [if_pos hz] at e';cases e';obtain ⟨a,vs,rfl,hfa,ha,ra⟩:=hx.tup sm;obtain ⟨_,_,_,hlen⟩:=I.tuple ha;refine op_repTA pins s σ H _ y v u Q I rx ry ⟨a,k,vs,rfl,hy.int,ha,hlen,hz.2.1,hz.1,by rw [ra.length,←line_eq];exact hz.2.2,fun z=>?_,fun _ r hr=>q.newT sm (ra.rep k.toNat) hr⟩;refine q.here sm ?_;have e1:(List.replicate k.toNat xs).flatten=xs:=by
    rcases z with z | z
    ·have hx0:xs=[]:=by
      have:=ra.length;rw [z] at this;exact List.eq_nil_of_length_eq_zero this.symm
     rw [hx0];have:∀n:Nat,(List.replicate n ([]:List D)).flatten=[]:=fun n=>by induction n with | zero=>rfl | succ n ih=>rw [List.replicate_succ,List.flatten_cons,ih];rfl
     exact this _
    ·rw [z];show (List.replicate 1 xs).flatten=xs;simp
   rw [e1];exact .tup hfa ra
  ·rw [if_neg hz] at e';cases e'
theorem op_fdivA (hp:PyR X):OpR X (binaryOp .FloorDiv) (rO2 X.K .fdiv):=by
 intro pins s σ H x y v u Q I rx ry h;obtain ⟨f,dx,dy,p,sm,hx,hy,e,q⟩:=h;cases dx <;> cases dy <;> first
  | (cases e;done)
  | skip
 case int.int i j =>
  have e':(if j=0 then R.no else v1 (.int (i.fdiv j)))=R.ok p:=e;by_cases h0:j=0
  ·rw [if_pos h0] at e';cases e'
  ·rw [if_neg h0] at e';cases e';obtain ⟨t,rfl⟩:RelV (.int i) v:=by rw [←hx.int];exact rx
   obtain ⟨t',rfl⟩:RelV (.int j) u:=by rw [←hy.int];exact ry
   exact floordiv_int h0 ⟨.int (i.fdiv j),H,I.tok _,⟨_,rfl⟩,q.here sm (.int _)⟩ (.inr (hp.of I))
theorem op_modA:OpR X (binaryOp .Mod) (rO2 X.K .mod):=by
 intro pins s σ H x y v u Q I rx ry h;obtain ⟨f,dx,dy,p,sm,hx,hy,e,q⟩:=h;cases dx <;> cases dy <;> first
  | (cases e;done)
  | skip
 case int.int i j =>
  have e':(if j=0 then R.no else v1 (.int (i.fmod j)))=R.ok p:=e;by_cases h0:j=0
  ·rw [if_pos h0] at e';cases e'
  ·rw [if_neg h0] at e';cases e';exact op_modN pins s σ H x y v u Q I rx ry ⟨i,j,hx.int,hy.int,h0,q.here sm (.int _)⟩
theorem op_powA:OpR X (binaryOp .Pow) (rO2 X.K .pow):=by
 intro pins s σ H x y v u Q I rx ry h;obtain ⟨f,dx,dy,p,sm,hx,hy,e,q⟩:=h;cases dx <;> cases dy <;> first
  | (cases e;done)
  | skip
 case int.int i j =>
  have e':(if 0≤j∧j≤1000000∧i.natAbs<2^64 then v1 (.int (i^j.toNat)) else .no)=R.ok p:=e;by_cases hz:0≤j∧j≤1000000∧i.natAbs<2^64
  ·rw [if_pos hz] at e';cases e';exact op_pow pins s σ H x y v u Q I rx ry ⟨i,j,hx.int,hy.int,hz,q.here sm (.int _)⟩
  ·rw [if_neg hz] at e';cases e'
theorem op_eqA (hu:X.A.units+64<cLine):OpR X (compareOp .Eq) (rO2 X.K .eq):=by
 intro pins s σ H x y v u Q I rx ry h;obtain ⟨f,dx,dy,p,sm,hx,hy,e,q⟩:=h;have e':(if SeqAt.shaped dx=true∧SeqAt.shaped dy=true then v1 (.bool (dx.eqv dy)) else .no)=R.ok p:=by
  rw [←e];cases dx <;> cases dy <;> rfl
 by_cases hz:SeqAt.shaped dx=true∧SeqAt.shaped dy=true
 ·rw [if_pos hz] at e';cases e';exact op_eqD hu pins s σ H x y v u Q I rx ry ⟨dx,dy,(hx.dp sm).shp hz.1,(hy.dp sm).shp hz.2,hz.1,hz.2,q.here sm (.bl _)⟩
 ·rw [if_neg hz] at e';cases e'
theorem op_neA (hu:X.A.units+64<cLine):OpR X (compareOp .NotEq) (rO2 X.K .ne):=by
 intro pins s σ H x y v u Q I rx ry h;obtain ⟨f,dx,dy,p,sm,hx,hy,e,q⟩:=h;have e':(if SeqAt.shaped dx=true∧SeqAt.shaped dy=true then v1 (.bool (!dx.eqv dy)) else .no)=R.ok p:=by
  rw [←e];cases dx <;> cases dy <;> rfl
 by_cases hz:SeqAt.shaped dx=true∧SeqAt.shaped dy=true
 ·rw [if_pos hz] at e';cases e';exact op_neD hu pins s σ H x y v u Q I rx ry ⟨dx,dy,(hx.dp sm).shp hz.1,(hy.dp sm).shp hz.2,hz.1,hz.2,q.here sm (.bl _)⟩
 ·rw [if_neg hz] at e';cases e'
theorem op_cmpA {op:CmpOp} {o:O2} {g:Int→Int→Bool} (hs:∀a b,sem2 o a b=cmpI g a b) (hr:OpR X (compareOp op) (rI0 fun i j => .bl (g i j))):OpR X (compareOp op) (rO2 X.K o):=by
 intro pins s σ H x y v u Q I rx ry h;obtain ⟨f,dx,dy,p,sm,hx,hy,e,q⟩:=h;rw [hs] at e;cases dx <;> cases dy <;> first
  | (cases e;done)
  | skip
 case int.int i j =>
  cases e;exact hr pins s σ H x y v u Q I rx ry ⟨i,j,hx.int,hy.int,q.here sm (.bl _)⟩
mutual
theorem keyB_canLay:∀d:D,keyB d=true→d.canLay0=true
 | .int _,_=>rfl
 | .tuple ds,h=>keyBs_canLay ds h
 | .none,h=>by cases h
 | .bool _,h=>by cases h
 | .str _,h=>by cases h
 | .list _,h=>by cases h
 | .dict _,h=>by cases h
theorem keyBs_canLay:∀ds:List D,keyBs ds=true→PyData.canLayAll0 ds=true
 | [],_=>rfl
 | d::ds,h=>by
  have h':=Bool.and_eq_true_iff.mp (show (keyB d&&keyBs ds)=true from h);show (d.canLay0&&PyData.canLayAll0 ds)=true;rw [keyB_canLay d h'.1,keyBs_canLay ds h'.2];rfl
end
theorem op_ltA (hu:X.A.units+64<cLine):OpR X (compareOp .Lt) (rO2 X.K .lt):=by
 intro pins s σ H x y v u Q I rx ry h;obtain ⟨f,dx,dy,p,sm,hx,hy,e,q⟩:=h;replace e:ltR dx dy=R.ok p:=e
 cases dx <;> cases dy <;> first
  | (cases e;done)
  | skip
 case int.int i j =>
  cases e;exact op_lt pins s σ H x y v u Q I rx ry ⟨i,j,hx.int,hy.int,q.here sm (.bl _)⟩
 case tuple.tuple xs ys =>
  replace e:(if keyB (.tuple xs)=true∧keyB (.tuple ys)=true∧(PyData.tuple xs).depth≤8∧PySem.W.alike (.tuple xs) (.tuple ys)=true then v1 (.bool (PySem.W.dataLt (.tuple xs) (.tuple ys))) else .no)=R.ok p:=e
  by_cases hz:keyB (.tuple xs)=true∧keyB (.tuple ys)=true∧(PyData.tuple xs).depth≤8∧PySem.W.alike (.tuple xs) (.tuple ys)=true
  ·rw [if_pos hz] at e;cases e;obtain ⟨as,ra⟩:=L2.Dp.reads I _ x v ((hx.dp sm).old (keyB_canLay _ hz.1)) rx;obtain ⟨bs,rb⟩:=L2.Dp.reads I _ y u ((hy.dp sm).old (keyB_canLay _ hz.2.1)) ry;refine PySem.W.lt_data ra rb hz.2.2.2 (fun z=>by cases z) (by have:=hz.2.2.1;omega) ?_;exact ⟨.bl _,H,I,rfl,q.here sm (.bl _)⟩
  ·rw [if_neg hz] at e;cases e
theorem op_leA:OpR X (compareOp .LtE) (rO2 X.K .le):=op_cmpA (fun a b=>by cases a <;> cases b <;> rfl) op_le
theorem op_gtA:OpR X (compareOp .Gt) (rO2 X.K .gt):=op_cmpA (fun a b=>by cases a <;> cases b <;> rfl) op_gt
theorem op_geA:OpR X (compareOp .GtE) (rO2 X.K .ge):=op_cmpA (fun a b=>by cases a <;> cases b <;> rfl) op_ge
theorem Vr.isN {K:PySem.W.Frag} {f H:Hp} {v:V} {d:D} (h:Vr K f H v d):decide (v = .non)=(match d with | .none=>true | _=>false):=by
 rcases h with h | ⟨ds,p,vs,rfl,rfl,_⟩
 ·cases h <;> rfl
 ·rfl
theorem op_isA:OpR X (compareOp .Is) (rO2 X.K .is_):=by
 intro pins s σ H x y v u Q I rx ry h;obtain ⟨f,dx,dy,p,sm,hx,hy,e,q⟩:=h;have e:(isD dx dy).bind (fun c=>v1 (.bool c))=R.ok p:=by
  rw [←e];cases dx <;> cases dy <;> rfl
 cases dy with
 | none =>
  have e2:isD dx .none = .ok (decide (x = .non)):=by
   rw [hx.isN];cases dx <;> rfl
  rw [e2] at e;cases e;exact op_isN pins s σ H x y v u Q I rx ry ⟨hy.non,q.here sm (.bl _)⟩
 | bool b =>
  cases dx with
  | bool a =>
   cases e;exact op_isBl pins s σ H x y v u Q I rx ry ⟨a,b,hx.bool,hy.bool,q.here sm (by rw [show decide (a=b)=(a==b) by cases a <;> cases b <;> rfl];exact .bl _)⟩
  | _=>cases e
 | _=>cases dx <;> cases e
theorem op_isnA:OpR X (compareOp .IsNot) (rO2 X.K .isn):=by
 intro pins s σ H x y v u Q I rx ry h;obtain ⟨f,dx,dy,p,sm,hx,hy,e,q⟩:=h;have e:(isD dx dy).bind (fun c=>v1 (.bool (!c)))=R.ok p:=by
  rw [←e];cases dx <;> cases dy <;> rfl
 cases dy with
 | none =>
  have e2:isD dx .none = .ok (decide (x = .non)):=by
   rw [hx.isN];cases dx <;> rfl
  rw [e2] at e;cases e;exact op_notN pins s σ H x y v u Q I rx ry ⟨hy.non,q.here sm (.bl _)⟩
 | bool b =>
  cases dx with
  | bool a =>
   cases e;exact op_notBl pins s σ H x y v u Q I rx ry ⟨a,b,hx.bool,hy.bool,q.here sm (by rw [show decide (a=b)=(a==b) by cases a <;> cases b <;> rfl];exact .bl _)⟩
  | _=>cases e
 | _=>cases dx <;> cases e
theorem sgn1_eq {x:Str} {c:Nat} (h:sgn1 x=some c):x=⟨#[c]⟩:=by
 unfold sgn1 at h;split at h
 ·rename_i c' e;cases h;exact TL.ext_tl e
 ·cases h
theorem strs_flat {K:PySem.W.Frag} {f:Hp} {x:Str}:∀{vs:List V} {ds:List D},DpAll K f vs ds→ds.all isStr=true→vs.all flatV=true∧(ds.any fun z=>z.eqv (.str x))=inV (.str x) vs
 | _,_,.nil,_=>⟨rfl,rfl⟩
 | _,_,.cons (v:=v) (vs:=vs) (d:=d) (ds:=ds) h t,e=>by
  rw [List.all_cons,Bool.and_eq_true] at e;obtain ⟨i1,i2⟩:=strs_flat t e.2;cases h with
  | str y =>
   refine ⟨?_,?_⟩
   ·rw [List.all_cons,i1];rfl
   ·unfold inV at i2 ⊢;rw [List.any_cons,List.any_cons,i2];congr 1
  | _=>cases e.1
theorem isStr_of {d:D} (h:isStr d=true):∃x,d = .str x:=by
 cases d with
 | str x=>exact ⟨x,rfl⟩
 | _=>cases h
theorem op_inT (g:Bool) {pins:List (Addr×Obj)} {s:Shared} {σ:L2.St} {H:Hp} {x y:V} {v u:Value} {Q:VK} (I:Inv X pins σ H s) (rx:RelV x v) (ry:RelV y u) {f:Hp} {dx:D} {xs:List D} {p:D×Bool} (sm:Same f H)
  (hx:Vr X.K f H x dx) (hy:Vr X.K f H y (.tuple xs)) (e:inT g dx xs = .ok p) (q:Ac X.K f H Q p):∃a,y = .ref a∧∃vs,SqT X.K H a vs∧flatV x=true∧vs.all flatV=true∧Q (.bl (inV x vs != g)) H:=by
 unfold inT at e;by_cases hz:isStr dx=true∧xs.all isStr=true
 ·rw [if_pos hz] at e;cases e;obtain ⟨z,rfl⟩:=isStr_of hz.1;obtain ⟨a,vs,rfl,_,ha,ra⟩:=hy.tup sm;obtain ⟨h1,h2⟩:=strs_flat (x:=z) ra hz.2;have ex:=hx.str;subst ex;refine ⟨a,rfl,vs,ha,rfl,h1,?_⟩;rw [←h2];exact q.here sm (.bl _)
 ·rw [if_neg hz] at e;cases e
theorem op_inA (hu:X.A.units+65<cLine):OpR X (compareOp .In) (rO2 X.K .inn):=by
 intro pins s σ H x y v u Q I rx ry h;obtain ⟨f,dx,dy,p,sm,hx,hy,e,q⟩:=h;cases dy with
 | list xs =>
  have e':(if SeqAt.shaped dx=true∧SeqAt.shaped (.list xs)=true then v1 (.bool (xs.any fun z=>z.eqv dx)) else .no)=R.ok p:=by
   rw [←e];cases dx <;> rfl
  by_cases hz:SeqAt.shaped dx=true∧SeqAt.shaped (.list xs)=true
  ·rw [if_pos hz] at e';cases e';exact op_inD hu pins s σ H x y v u Q I rx ry ⟨dx,xs,(hx.dp sm).shp hz.1,(hy.dp sm).shp hz.2,hz.1,hz.2,q.here sm (.bl _)⟩
  ·rw [if_neg hz] at e';cases e'
 | tuple xs =>
  have e':inT false dx xs=R.ok p:=by
   rw [←e];cases dx <;> rfl
  obtain ⟨a,rfl,vs,ha,h1,h2,h3⟩:=op_inT false I rx ry sm hx hy e' q;exact op_in_seq pins s σ H x _ v u Q I rx ry ⟨a,vs,rfl,.inr ha,h1,h2,by simpa using h3⟩
 | str z =>
  cases dx with
  | str w =>
   have e':inS false w z=R.ok p:=e;unfold inS at e';cases hw:sgn1 w with
   | none=>rw [hw] at e';cases e'
   | some c =>
    rw [hw] at e';cases e';have ew:=sgn1_eq hw;subst ew;exact op_in_sign pins s σ H x y v u Q I rx ry ⟨c,z,hx.str,hy.str,by have:=q.here sm (.bl _);simpa using this⟩
  | _=>cases e
 | _=>cases dx <;> cases e
theorem op_ninA (hu:X.A.units+65<cLine):OpR X (compareOp .NotIn) (rO2 X.K .nin):=by
 intro pins s σ H x y v u Q I rx ry h;obtain ⟨f,dx,dy,p,sm,hx,hy,e,q⟩:=h;cases dy with
 | list xs =>
  have e':(if SeqAt.shaped dx=true∧SeqAt.shaped (.list xs)=true then v1 (.bool (!xs.any fun z=>z.eqv dx)) else .no)=R.ok p:=by
   rw [←e];cases dx <;> rfl
  by_cases hz:SeqAt.shaped dx=true∧SeqAt.shaped (.list xs)=true
  ·rw [if_pos hz] at e';cases e';exact op_notInD hu pins s σ H x y v u Q I rx ry ⟨dx,xs,(hx.dp sm).shp hz.1,(hy.dp sm).shp hz.2,hz.1,hz.2,q.here sm (.bl _)⟩
  ·rw [if_neg hz] at e';cases e'
 | tuple xs =>
  have e':inT true dx xs=R.ok p:=by
   rw [←e];cases dx <;> rfl
  obtain ⟨a,rfl,vs,ha,h1,h2,h3⟩:=op_inT true I rx ry sm hx hy e' q;exact op_notIn_seq pins s σ H x _ v u Q I rx ry ⟨a,vs,rfl,.inr ha,h1,h2,by simpa using h3⟩
 | str z =>
  cases dx with
  | str w =>
   have e':inS true w z=R.ok p:=e;unfold inS at e';cases hw:sgn1 w with
   | none=>rw [hw] at e';cases e'
   | some c =>
    rw [hw] at e';cases e';have ew:=sgn1_eq hw;subst ew;exact op_notIn_sign pins s σ H x y v u Q I rx ry ⟨c,z,hx.str,hy.str,by have:=q.here sm (.bl _);simpa using this⟩
  | _=>cases e
 | _=>cases dx <;> cases e
def binOf:O2→Operator→Bool
 | .add,.Add=>true
 | .sub,.Sub=>true
 | .mul,.Mult=>true
 | .fdiv,.FloorDiv=>true
 | .mod,.Mod=>true
 | .pow,.Pow=>true
 | _,_=>false
def cmpOf:O2→CmpOp→Bool
 | .eq,.Eq=>true
 | .ne,.NotEq=>true
 | .lt,.Lt=>true
 | .le,.LtE=>true
 | .gt,.Gt=>true
 | .ge,.GtE=>true
 | .is_,.Is=>true
 | .isn,.IsNot=>true
 | .inn,.In=>true
 | .nin,.NotIn=>true
 | _,_=>false
theorem op_bin {o:O2} {op:Operator} (hp:PyR X) (h:binOf o op=true):OpR X (binaryOp op) (rO2 X.K o):=by
 cases o <;> cases op <;> first
  | (cases h;done)
  | exact op_addA
  | exact op_subA
  | exact op_mulA
  | exact op_fdivA hp
  | exact op_modA
  | exact op_powA
theorem op_cmp {o:O2} {op:CmpOp} (hu:X.A.units+65<cLine) (h:cmpOf o op=true):OpR X (compareOp op) (rO2 X.K o):=by
 have hu':X.A.units+64<cLine:=Nat.lt_of_le_of_lt (Nat.add_le_add_left (by decide:64≤65) _) hu;cases o <;> cases op <;> first
  | (cases h;done)
  | exact op_eqA hu'
  | exact op_neA hu'
  | exact op_ltA hu'
  | exact op_leA
  | exact op_gtA
  | exact op_geA
  | exact op_isA
  | exact op_isnA
  | exact op_inA hu
  | exact op_ninA hu
theorem ix_A:IxR X (rO2 X.K .idx):=by
 intro value slice pins s σ H x y v u Q I rx ry h hs;obtain ⟨f,dx,dy,p,sm,hx,hy,e,q⟩:=h;cases dx <;> cases dy <;> first
  | (cases e;done)
  | skip
 case list.int xs i =>
  have e':(match atI xs i with | some d=>v1 d | none => .no)=R.ok p:=e;cases z:atI xs i with
  | none=>rw [z] at e';cases e'
  | some d =>
   rw [z] at e';cases e';obtain ⟨a,vs,rfl,ha,ra⟩:=hx.list sm;obtain ⟨w,hw,rw'⟩:=atI_all ra z;exact ix_list value slice pins s σ H _ y v u Q I rx ry ⟨a,vs,i,w,rfl,hy.int,ha,hw,q.here sm rw'⟩ hs
 case tuple.int xs i =>
  have e':(match atI xs i with | some d=>v1 d | none => .no)=R.ok p:=e;cases z:atI xs i with
  | none=>rw [z] at e';cases e'
  | some d =>
   rw [z] at e';cases e';obtain ⟨a,vs,rfl,_,ha,ra⟩:=hx.tup sm;obtain ⟨w,hw,rw'⟩:=atI_all ra z;exact ix_tup value slice pins s σ H _ y v u Q I rx ry ⟨a,vs,i,w,rfl,hy.int,ha,hw,q.here sm rw'⟩ hs
 case str.int z i =>
  have e':(if z.length≤line then (match atI z.cps.toList i with | some c=>v1 (.str ⟨#[c]⟩) | none => .no) else .no)=R.ok p:=e;by_cases hz:z.length≤line
  ·rw [if_pos hz] at e';cases hc:atI z.cps.toList i with
   | none=>rw [hc] at e';cases e'
   | some c =>
    rw [hc] at e';cases e';exact ix_str value slice pins s σ H x y v u Q I rx ry ⟨z,i,c,hx.str,hy.int,by rw [←line_eq];exact hz,hc,q.here sm (.str _)⟩ hs
  ·rw [if_neg hz] at e';cases e'
def rSl (K:PySem.W.Frag):V→Option Int→Option Int→Hp→VK→Prop:=fun x lo hi H Q=>∃f dx p,Same f H∧Vr K f H x dx∧semSl dx lo hi = .ok p∧Ac K f H Q p
theorem sl_A:SlR X (rSl X.K):=by
 intro pins s σ H x v vl vu lo hi sl Q I rx hs pl pu h;obtain ⟨f,dx,p,sm,hx,e,q⟩:=h;cases dx <;> first
  | (cases e;done)
  | skip
 case list xs =>
  cases e;obtain ⟨a,vs,rfl,ha,ra⟩:=hx.list sm;exact sl_list pins s σ H _ v vl vu lo hi sl Q I rx hs pl pu ⟨a,vs,rfl,ha,fun p hp=>q.newL sm (ra.cut lo hi) hp⟩
 case tuple xs =>
  cases e;obtain ⟨a,vs,rfl,hfa,ha,ra⟩:=hx.tup sm;refine sl_tupA pins s σ H _ v vl vu lo hi sl Q I rx hs pl pu ⟨a,vs,rfl,ha,fun z=>?_,fun _ p hp=>q.newT sm (ra.cut lo hi) hp⟩;refine q.here sm ?_;have e1:cutL xs lo hi=xs:=by
   unfold cutL;rw [←ra.length,z.1,z.2];simp [ra.length]
  rw [e1];exact .tup hfa ra
 case str z =>
  have e':(if z.length≤line then v1 (.str (cutS z lo hi)) else .no)=R.ok p:=e;by_cases hz:z.length≤line
  ·rw [if_pos hz] at e';cases e';exact sl_str pins s σ H x v vl vu lo hi sl Q I rx hs pl pu ⟨z,hx.str,by rw [←line_eq];exact hz,q.here sm (.str _)⟩
  ·rw [if_neg hz] at e';cases e'
theorem un_A:UnR X (unaryOp .USub) (rO1 X.K .neg):=by
 intro pins s σ H x v Q I rx h;obtain ⟨f,dx,p,sm,hx,e,q⟩:=h;cases dx <;> first
  | (cases e;done)
  | skip
 case int i =>
  cases e;exact un_neg pins s σ H x v Q I rx ⟨i,hx.int,q.here sm (.int _)⟩
def rB1 (K:PySem.W.Frag) (o:O1):List V→Hp→VK→Prop:=fun xs H Q=>∃x,xs=[x]∧rO1 K o x H Q
def rB2 (K:PySem.W.Frag) (o:O2):List V→Hp→VK→Prop:=fun xs H Q=>∃x y,xs=[x,y]∧rO2 K o x y H Q
theorem cr_intB:CallR X (.type "int") (rB1 X.K .intB):=by
 intro pins s σ H xs us Q I r h;obtain ⟨x,rfl,f,dx,p,sm,hx,e,q⟩:=h;cases dx <;> first
  | (cases e;done)
  | skip
 case bool b =>
  cases e;exact call_int1 pins s σ H _ us Q I r (.inr ⟨b,by rw [hx.bool],q.here sm (.int _)⟩)
 case int i =>
  cases e;exact call_int1 pins s σ H _ us Q I r (.inl ⟨i,by rw [hx.int],q.here sm (.int _)⟩)
 case str z =>
  have e':(if z.length≤640 then (match PySem.intText? z with | some n=>v1 (.int n) | none => .no) else .no)=R.ok p:=e;by_cases hz:z.length≤640
  ·rw [if_pos hz] at e';cases hc:PySem.intText? z with
   | none=>rw [hc] at e';cases e'
   | some n =>
    rw [hc] at e';cases e';exact call_int_str pins s σ H _ us Q I r ⟨z,n,by rw [hx.str],hc,hz,q.here sm (.int _)⟩
  ·rw [if_neg hz] at e';cases e'
theorem cr_abs:CallR X (.builtin "abs") (rB1 X.K .abs):=by
 intro pins s σ H xs us Q I r h;obtain ⟨x,rfl,f,dx,p,sm,hx,e,q⟩:=h;cases dx <;> first
  | (cases e;done)
  | skip
 case int i =>
  cases e;exact call_abs pins s σ H _ us Q I r ⟨i,by rw [hx.int],q.here sm (.int _)⟩
theorem cr_len:CallR X (.builtin "len") (rB1 X.K .len):=by
 intro pins s σ H xs us Q I r h;obtain ⟨x,rfl,f,dx,p,sm,hx,e,q⟩:=h;cases dx <;> first
  | (cases e;done)
  | skip
 case list ds =>
  cases e;obtain ⟨a,vs,rfl,ha,ra⟩:=hx.list sm;exact call_len_seq pins s σ H _ us Q I r ⟨a,vs,rfl,.inl ha,q.here sm (by rw [ra.length];exact .int _)⟩
 case tuple ds =>
  cases e;obtain ⟨a,vs,rfl,_,ha,ra⟩:=hx.tup sm;exact call_len_seq pins s σ H _ us Q I r ⟨a,vs,rfl,.inr ha,q.here sm (by rw [ra.length];exact .int _)⟩
 case str z =>
  have e':(if z.length≤line then v1 (.int z.length) else .no)=R.ok p:=e;by_cases hz:z.length≤line
  ·rw [if_pos hz] at e';cases e';exact call_len_str pins s σ H _ us Q I r ⟨z,by rw [hx.str],by rw [←line_eq];exact hz,q.here sm (.int _)⟩
  ·rw [if_neg hz] at e';cases e'
theorem cr_listA:CallR X (.type "list") (rB1 X.K .list):=by
 intro pins s σ H xs us Q I r h;obtain ⟨x,rfl,f,dx,p,sm,hx,e,q⟩:=h;cases dx <;> first
  | (cases e;done)
  | skip
 case list ds =>
  cases e;obtain ⟨a,vs,rfl,ha,ra⟩:=hx.list sm;exact call_list_of pins s σ H _ us Q I r ⟨a,vs,rfl,.inl ha,fun l hl=>q.newL sm ra hl⟩
 case tuple ds =>
  cases e;obtain ⟨a,vs,rfl,_,ha,ra⟩:=hx.tup sm;exact call_list_of pins s σ H _ us Q I r ⟨a,vs,rfl,.inr ha,fun l hl=>q.newL sm ra hl⟩
theorem cr_tupleA:CallR X (.type "tuple") (rB1 X.K .tuple):=by
 intro pins s σ H xs us Q I r h;obtain ⟨x,rfl,f,dx,p,sm,hx,e,q⟩:=h;cases dx <;> first
  | (cases e;done)
  | skip
 case list ds =>
  cases e;obtain ⟨a,vs,rfl,ha,ra⟩:=hx.list sm;exact call_tuple_of pins s σ H _ us Q I r ⟨a,vs,rfl,.inl ⟨ha,fun l hl=>q.newT sm ra hl⟩⟩
 case tuple ds =>
  cases e;obtain ⟨a,vs,rfl,hfa,ha,ra⟩:=hx.tup sm;exact call_tuple_of pins s σ H _ us Q I r ⟨a,vs,rfl,.inr ⟨ha,q.here sm (.tup hfa ra)⟩⟩
theorem allB_ok {K:PySem.W.Frag} {f:Hp}:∀{vs:List V} {ds:List D} {b:Bool},DpAll K f vs ds→allB ds = .ok b→∃bs:List Bool,vs=bs.map V.bl∧b=bs.all id
 | _,_,_,.nil,e=>by cases e;exact ⟨[],rfl,rfl⟩
 | _,_,b,.cons (d:=d) (ds:=ds) a t,e=>by
  cases a with
  | bl c =>
   have e':(allB ds).bind (fun k => .ok (c&&k))=R.ok b:=e;obtain ⟨k,e1,e2⟩:=R.of_bind e';obtain ⟨bs,rfl,rfl⟩:=allB_ok t e1;cases e2;exact ⟨c::bs,rfl,rfl⟩
  | _=>cases e
theorem cr_allA (hc:X.calm=true):CallR X (.builtin "all") (rB1 X.K .all):=by
 intro pins s σ H xs us Q I r h;obtain ⟨x,rfl,f,dx,p,sm,hx,e,q⟩:=h;cases dx <;> first
  | (cases e;done)
  | skip
 case list ds =>
  have e':(allB ds).bind (fun b=>v1 (.bool b))=R.ok p:=e;obtain ⟨b,e1,e2⟩:=R.of_bind e';cases e2;obtain ⟨a,vs,rfl,ha,ra⟩:=hx.list sm;obtain ⟨bs,rfl,rfl⟩:=allB_ok ra e1;exact cr_all hc pins s σ H _ us Q I r ⟨a,bs,rfl,ha,q.here sm (.bl _)⟩
theorem cr_strI:CallR X (.type "str") (rB1 X.K .strI):=by
 intro pins s σ H xs us Q I r h;obtain ⟨x,rfl,f,dx,p,sm,hx,e,q⟩:=h;cases dx <;> first
  | (cases e;done)
  | skip
 case int i =>
  have e':(if i.natAbs.log2<1920 then v1 (.str (toString i)) else .no)=R.ok p:=e;by_cases hz:i.natAbs.log2<1920
  ·rw [if_pos hz] at e';cases e';exact call_str_int pins s σ H _ us Q I r ⟨i,by rw [hx.int],hz,q.here sm (.str _)⟩
  ·rw [if_neg hz] at e';cases e'
theorem cr_max2 (hc:X.calm=true):CallR X (.builtin "max") (rB2 X.K .max2):=by
 intro pins s σ H xs us Q I r h;obtain ⟨x,y,rfl,f,dx,dy,p,sm,hx,hy,e,q⟩:=h;cases dx <;> cases dy <;> first
  | (cases e;done)
  | skip
 case int.int i j =>
  cases e;exact call_max2 hc pins s σ H _ us Q I r ⟨i,j,by rw [hx.int,hy.int],q.here sm (.int _)⟩
theorem cr_min2 (hc:X.calm=true):CallR X (.builtin "min") (rB2 X.K .min2):=by
 intro pins s σ H xs us Q I r h;obtain ⟨x,y,rfl,f,dx,dy,p,sm,hx,hy,e,q⟩:=h;cases dx <;> cases dy <;> first
  | (cases e;done)
  | skip
 case int.int i j =>
  cases e;exact call_min2 hc pins s σ H _ us Q I r ⟨i,j,by rw [hx.int,hy.int],q.here sm (.int _)⟩
end
end AW
namespace AW
open PySem PySem.Spec PyProof.Rows L2
variable [CdT] [StA]
structure Lk where
 T:List Fn
 cons:List (Str×D)
 c:Nat→List Sl→R (D×Bool)
 lev:Nat
 cls:Nat→Value
 clsN:List Str
def Lk.G (L:Lk) (x:Nat):D:=((L.cons[x]?).map (·.2)).getD .none
def dflT (T:List Fn) (j m:Nat):List D:=((T[j]?).map fun g=>g.dv m).getD []
abbrev Lk.ev (L:Lk):E→En→R (D×Bool):=evF L.G L.c (dflT L.T)
inductive ArgOk (K:PySem.W.Frag) (f H:Hp):V→Sl→Prop where
 | va {v:V} {d:D} (h:Dp K f v d):ArgOk K f H v (.va d)
 | rd {p:Addr} {vs:List V} {ds:List D} (hH:SqL K H p vs) (h:DpAll K f vs ds):ArgOk K f H (.ref p) (.rd ds)
 | er {p:Addr} {c:Nat} (hH:H p=some (erO K c p)):ArgOk K f H (.ref p) (.er c)
 | fn {n:Str}:ArgOk K f H (.ref (He.ga K n)) (.fn n)
inductive ArgsOk (K:PySem.W.Frag) (f H:Hp):List V→List Sl→Prop where
 | nil:ArgsOk K f H [] []
 | cons {v:V} {s:Sl} {vs:List V} {ss:List Sl} (h:ArgOk K f H v s) (t:ArgsOk K f H vs ss):ArgsOk K f H (v::vs) (s::ss)
section
variable {K:PySem.W.Frag} {f H f' H':Hp}
theorem ArgOk.mono {v:V} {s:Sl} (q:Po f H f' H') (h:ArgOk K f H v s):ArgOk K f' H' v s:=by
 cases h with
 | va h=>exact .va (dp_same q.sf h)
 | rd hH h=>exact .rd (sql_sameT q.sH hH) (dpa_same q.sf h)
 | er hH=>exact .er (q.sH.k hH)
 | fn=>exact .fn
theorem ArgsOk.mono (q:Po f H f' H'):∀{vs:List V} {ss:List Sl},ArgsOk K f H vs ss→ArgsOk K f' H' vs ss
 | _,_,.nil => .nil
 | _,_,.cons h t => .cons (h.mono q) (t.mono q)
theorem ArgsOk.length:∀{vs:List V} {ss:List Sl},ArgsOk K f H vs ss→vs.length=ss.length
 | _,_,.nil=>rfl
 | _,_,.cons _ t=>congrArg Nat.succ t.length
theorem ArgsOk.append {us:List V} {ds:List D} (h2:DpAll K f us ds):∀{vs:List V} {ss:List Sl},ArgsOk K f H vs ss→ArgsOk K f H (vs++us) (ss++ds.map .va)
 | _,_,.nil=>by
  have go:∀{us:List V} {ds:List D},DpAll K f us ds→ArgsOk K f H us (ds.map .va):=by
   intro us;induction us with
   | nil=>intro ds h;cases h;exact .nil
   | cons u us ih=>intro ds h;cases h with | cons a t=>exact .cons (.va a) (ih t)
  exact go h2
 | _,_,.cons h t => .cons h (t.append h2)
end
def era (p:Addr) (H:Hp):Hp:=fun a=>if a=p then none else H a
def Lk.sp (L:Lk) (K:PySem.W.Frag) (j:Nat):Sp:=fun vs H Q E=>∃f ss,Same f H∧(LamX.Tabs CdT.T H∧∀b ps,f b≠some (.tbl ps))∧ArgsOk K f H vs ss∧((match L.c j ss with
 | .ok p=>Ac K f H Q p
 | .ex k=>∀f' H',Po f H f' H'→E (L.cls k) none H'
 | .no=>False) ∨
 (∃g ds r,L.T[j]?=some g∧ss.length=g.ps.length∧L.c j (.un::ss) = .ok (.tuple (.list ds::r),true)∧∀v f' H',Po f H f' H'→VfT K H f' H' v ds r→Q v H') ∨
 ∃p us ds ws ss',vs = .ref p::ws∧ss = .rd ds::ss'∧f p=none∧H p=some (.lst us)∧DpAll K f us ds∧ArgsOk K f (era p H) ws ss'∧(match L.c j (.ow ds::ss') with
  | .ok (.tuple [.list ds',d],_)=>∀v f' H' us',Po f (era p H) f' H'→f' p=none→H' p=some (.lst us')→DpAll K f' us' ds'→Dp K f' v d→Q v H'
  | .ex k=>∀f' H' us',Po f (era p H) f' H'→f' p=none→H' p=some (.lst us')→DpAll K f' us' ds→E (L.cls k) none H'
  | _=>False))
def blts:List Str:=["abs", "len", "list", "tuple", "all", "str", "max", "min", "range", "reversed", "enumerate", "zip", "isinstance", "int", "bool", "ValueError", "sorted", "dict", "set"]
def nsB (K:PySem.W.Frag) (a:Addr) (none_:List Str):Bool:=match K.lookup a with
 | some ⟨_,_,.dict es _,_⟩=>es.toList.all (fun e=>match e.key with
  | .str _ _=>true
  | _=>false)&&none_.all fun x=>(nsFind es x).isNone
 | _=>false
theorem nsB_ok {K:PySem.W.Frag} {h:Heap} {a:Addr} {xs:List Str} (X:K.In h) (c:nsB K a xs=true):∃m,h.Ns a m∧∀x∈xs,m x=none:=by
 unfold nsB at c;cases q:K.lookup a with
 | none=>rw [q] at c;cases c
 | some o =>
  obtain ⟨oc,od,dt,osl⟩:=o;rw [q] at c;cases dt with
  | dict es n =>
   obtain ⟨c1,c2⟩:=Bool.and_eq_true_iff.mp (show (es.toList.all (fun e=>match e.key with
    | .str _ _=>true
    | _=>false)&&xs.all fun x=>(nsFind es x).isNone)=true from c)
   refine ⟨nsFind es,⟨_,es,n,X _ _ q,rfl,fun e he=>?_,fun _=>rfl⟩,fun x hx=>Option.isNone_iff_eq_none.mp (List.all_eq_true.mp c2 x hx)⟩;have z:=List.all_eq_true.mp c1 e (Array.mem_toList_iff.mpr he);obtain ⟨eh,ek,ev⟩:=e;cases ek with
   | str y t=>exact ⟨y,t,rfl⟩
   | _=>cases z
  | _=>cases c
def seeB (K:PySem.W.Frag):Bool:=nsB K cStatics ["sys.audit-hooks", "sys.dict"]&&nsB K sysModules ["_pylong"]&&(match PySem.W.nsIn K mainGlobals "__builtins__" with
 | some (some (.ref bm))=>(match K.lookup bm with
  | some ⟨.type c,some d,_,_⟩=>c == "module" && d==builtinsNs
  | _=>false)
 | _=>false)
theorem seeB_ok {K:PySem.W.Frag} {base:Heap} {mg:Str→Option Value} (c:seeB K=true) (M:Mod K mg base):base.NoSeer:=by
 obtain ⟨c,c3⟩:=Bool.and_eq_true_iff.mp c;obtain ⟨c1,c2⟩:=Bool.and_eq_true_iff.mp c;obtain ⟨mc,n1,a1⟩:=nsB_ok M.kin c1;obtain ⟨mm,n2,a2⟩:=nsB_ok M.kin c2;refine ⟨⟨mc,n1,a1 _ List.mem_cons_self,a1 _ (List.mem_cons_of_mem _ List.mem_cons_self)⟩,⟨mm,n2,a2 _ List.mem_cons_self⟩,M.blt,?_⟩;cases e:PySem.W.nsIn K mainGlobals "__builtins__" with
 | none=>rw [e] at c3;cases c3
 | some o =>
  rw [e] at c3;cases o with
  | none=>cases c3
  | some v =>
   cases v with
   | ref bm =>
    have c3:(match K.lookup bm with
     | some ⟨.type c,some d,_,_⟩=>c == "module" && d==builtinsNs
     | _=>false)=true:=c3
    cases q:K.lookup bm with
    | none=>rw [q] at c3;cases c3
    | some ob =>
     obtain ⟨oc,od,dt,osl⟩:=ob;rw [q] at c3;cases oc with
     | type c =>
      cases od with
      | none=>cases c3
      | some d =>
       obtain ⟨h1,h2⟩:=Bool.and_eq_true_iff.mp (show (c == "module" && d==builtinsNs)=true from c3);refine ⟨mg,bm,_,M.glob,PySem.W.mg_of M.kin M.glob e,M.kin _ _ q,congrArg Value.type (eq_of_beq h1),congrArg some (eq_of_beq h2)⟩
     | _=>cases od <;> cases c3
   | _=>cases c3
def ecB (K:PySem.W.Frag) (D:Addr):Bool :=
 decide (PySem.W.findIn K (.ref D) "__getattribute__" = some (some (.builtin "BaseException.__getattribute__")))&&decide (PySem.W.findIn K (.ref D) "__getattr__" = some none) &&
 decide (PySem.W.subIn K (.ref D) (.type "BaseException")=some true)&&PySem.W.hasDictIn K D&&decide (PySem.W.findIn K (.ref D) "__class__" = some (some (.builtin "object.__class__"))) &&
 decide (PySem.W.specialIn K (.builtin "object.__class__") "__get__" = some (some (.builtin "getset_descriptor.__get__")))&&decide (PySem.W.takesIn K (.builtin "object.__class__")=some true)&&decide (PySem.W.mroIn K D (.type "object")=some true)
theorem ecB_ok {K:PySem.W.Frag} {D:Addr} (h:ecB K D=true):ExcC K D:=by
 unfold ecB at h;simp only [Bool.and_eq_true,decide_eq_true_eq] at h;obtain ⟨⟨⟨⟨⟨⟨⟨h1,h2⟩,h3⟩,h4⟩,h5⟩,h6⟩,h7⟩,h8⟩:=h;exact ⟨h1,h2,h3,h4,h5,h6,h7,h8⟩
def erB1 (K:PySem.W.Frag) (ns:List Str) (n:Str):Bool:=n == "" ||
  (
   ecB K (He.ga K n)&&decide (PySem.W.kitOne K (.ref (He.ga K n)) (.type "ValueError")=some true)&&decide (PySem.W.kitOne K (.type "NoneType") (.ref (He.ga K n))=some false) &&
   decide (PySem.W.exmOne K (.ref (He.ga K n)) (.ref (He.ga K "AreaError"))=some true)&&decide (PySem.W.exmOne K (.ref (He.ga K n)) (.ref (He.ga K n))=some true) &&
   ns.all fun m=>m == "" || decide (PySem.W.kitOne K (.ref (He.ga K n)) (.ref (He.ga K m))=some (n==m||m == "AreaError")))
def erB (K:PySem.W.Frag) (ns:List Str):Bool := !ns.contains "AreaError" || ns.all (erB1 K ns)
abbrev Nms:=List (Str×NameKind)
def glOk (sc:Nms) (x:Str):Bool:=sc.lookup x==some .globalImplicit&&x != "__debug__" && x != "__name__"
def nmOk (N:List Str) (sc:Nms) (i:Nat) (x:Str):Bool:=N[i]?==some x&&(sc.lookup x==some .local||sc.lookup x==some .cell||sc.lookup x==some .free)&&x != "__debug__" && x != "__classdict__"
def locOk (N:List Str) (sc:Nms) (i:Nat) (x:Str):Bool:=N[i]?==some x&&(sc.lookup x==some .local||sc.lookup x==some .cell)
def mkN:Str := "<maker>"
def isMk (sc:Nms):Bool:=match sc with
 | (x,.globalExplicit)::_=>x==mkN
 | _=>false
def rfOk (cl:List Str) (N:List Str) (sc:Nms) (h i:Nat) (s1 s2:Stmt):Bool:=match s1,s2 with
 | .Assign [.Name e1 _] (.Constant .none _ _) _,.Try [.Expr (.Call (.Name a _) [] [] _) _] [.ExceptHandler (some (.Name x _)) (some n) [.Assign [.Name e2 _] (.Name n2 _) _] _] [] [] _ =>
   e2==e1&&n2==n&&nmOk N sc 0 a&&nmOk N sc i e1&&nmOk N sc h n&&sc.lookup e1==some .local&&sc.lookup n==some .local&&x == "AreaError" && cl[9]?==some x&&glOk sc x &&
   h != 0&&i != 0&&h != i && !isMk sc
 | _,_=>false
def lamOk (sc:Nms) (scope:Scope):Bool:=scope.kind == .function && !scope.isCoroutine && !scope.isGenerator && !isMk scope.names&&scope.names.all fun y=>y.2 != .local&&y.2 != .cell&&(y.2 != .free||sc.lookup y.1==some .cell||sc.lookup y.1==some .free)
def NmOk (X:Cx) (x:Str):NameKind→Prop
 | .local=>X.env.scope.names.lookup x=some .local
 | .cell=>X.env.scope.names.lookup x=some .cell∧X.fn x=true
 | .free=>X.env.scope.names.lookup x=some .cell∨X.env.scope.names.lookup x=some .free
 | .globalImplicit=>Gl X x
 | _=>True
def W0:WX:=fun _ _ _ _=>False
structure XC1 (P:Program) (w:World) (K:PySem.W.Frag) (mg:Str→Option Value) (base:Heap) (lev:Nat) (N:List Str) (sc:Nms) (X:Cx):Prop where
 eP:X.prog=P
 ew:X.w=w
 eK:X.K=K
 em:X.mg=mg
 eb:X.base=base
 N:X.N=N
 nd:X.N.Nodup
 kind:X.env.scope.kind = .function
 nm:∀x k,sc.lookup x=some k→NmOk X x k
 calm:X.calm=true
 room:Room lev X.A
 py:PyR X
 hp:PassesOwn (model X.prog X.w) X.A X.env X.xe
 st:X.stack=X.env::X.outer
 fr:X.env.frame=some X.env.locals
 ex:X.ex=[]
 nmk:isMk sc=false
def RestW (P:Program) (w:World) (K:PySem.W.Frag) (mg:Str→Option Value) (base:Heap) (lev:Nat) (N:List Str) (sc:Nms) (i:Nat) (r:List Stmt) (o:Sl→R (D×Bool)):Prop :=
 ∀Y:Cx,XC1 P w K mg base lev N sc Y→∃t,PSs Y r t∧∀(s:Sl) (v:V) (σ:L2.St) (f H:Hp) (Q:VK),Same f H→(LamX.Tabs CdT.T H∧∀b ps,f b≠some (.tbl ps))→ArgOk K f H v s→((∃k,s = .er k)∨s = .va .none)→σ.length=N.length→σ[i]?=some (some v) →
  (match o s with
  | .ok p=>Ac K f H Q p
  | _=>False)→t { nx:=fun _ H'=>Q .non H',rt:=Q } σ H
structure LkOk (L:Lk) (P:Program) (w:World) (K:PySem.W.Frag) (mg:Str→Option Value) (base:Heap):Prop where
 fn:∀(j:Nat) (g:Fn),L.T[j]?=some g→∀m,m≤g.dfl.length→∃(fa:Addr) (fd:FuncData) (dvs:List V) (ds:List Value),mg g.name=some (.ref fa)∧PySem.W.keepIn K (.ref fa)=true ∧
  FnOk P w K mg base (L2.CX P w) L.lev fa fd g.ps (L.sp K j)∧Vals dvs ds∧(∀H,DpAll K H dvs (g.dv m))∧Binds K fd g.ps ds
 con:∀(x:Nat) (n:Str) (d:D),L.cons[x]?=some (n,d)→∃(v:V) (u:Value),mg n=some u∧RelV v u∧∀H,Dp K H v d
 fga:∀(j:Nat) (g:Fn),L.T[j]?=some g→mg g.name=some (.ref (He.ga K g.name))
 blt:∀n∈blts,mg n=none
 see:seeB K=true∧P.given.tree=none
 ga:∀(k:Nat) (n:Str),L.clsN[k]?=some n→n ≠ "" → L.cls k = .ref (He.ga K n)∧errN[k]?=some n
 er:erB K L.clsN=true
 exc:∀(k:Nat) (n:Str),L.clsN[k]?=some n→n ≠ "" → ∃C:Addr,L.cls k = .ref C∧mg n=some (.ref C)∧PySem.W.excIn K C [.type "ValueError", .type "Exception", .type "BaseException", .type "object"] "ValueError.__new__" = true ∧
  PySem.W.keepIn K (.ref C)=true∧PySem.W.subIn K (.ref C) (.type "BaseException")=some true∧PySem.W.typeIn K (.ref C)=some (.type "type")
 rf:∀(j h i:Nat) (r:Ss) (g:Fn),L.T[j]?=some g→g.body = .rf h i r→∃(fa:Addr) (params:Arguments) (s1 s2:Stmt) (rest:List Stmt) (scope:Scope) (a:Str) (oc:Value) (od:Option Addr) (dV kV doc pm:Value) (an:Option Addr) (cdv ct:Value) (osl:Array (Option Value)),
  mg g.name=some (.ref fa)∧PySem.W.keepIn K (.ref fa)=true∧K.lookup fa=some ⟨oc,od,.func (PySem.W.fnOf g.name g.name params (s1::s2::rest) scope dV kV doc pm an cdv ct),osl⟩∧PySem.W.codeIn K cdv g.name=true ∧
  g.ps=[a]∧Binds K (PySem.W.fnOf g.name g.name params (s1::s2::rest) scope dV kV doc pm an cdv ct) [a] []∧FnScope g.N [a] scope∧rfOk L.clsN g.N scope.names h i s1 s2=true∧RestW P w K mg base L.lev g.N scope.names i rest fun s=>L.c j [.un,.un,s]
structure LmMk (L:Lk) (X:Cx):Prop where
 room:Room (L.lev+2) X.A
 lv:32≤L.lev
 tb:∃c P,LamX.TabB X.base X.mg c P∧X.env.code = .ref c∧(P,X.env.qual ++ "<lambda>")∈CdT.T∧∀p∈CdT.T,p.1=P→p.2=X.env.qual ++ "<lambda>"
structure XC (L:Lk) (N:List Str) (sc:Nms) (W:WX) (X:Cx):Prop where
 lk:LkOk L X.prog X.w X.K X.mg X.base
 N:X.N=N
 nd:X.N.Nodup
 kind:X.env.scope.kind = .function
 nm:∀x k,sc.lookup x=some k→NmOk X x k
 calm:X.calm=true
 room:Room L.lev X.A
 tk:Takes X W
 py:PyR X
 mkr:isMk sc=true→LmMk L X
def Out (cls:Nat→Value) (W:WX) (σ:L2.St) (f H:Hp) {α:Type} (r:R α) (P:α→Prop):Prop:=match r with
 | .ok a=>P a
 | .ex k=>∀f' H',Po f H f' H'→W (cls k) none σ H'
 | .no=>False
section
variable {cls:Nat→Value} {W:WX} {σ:L2.St} {f H f1 H1:Hp} {α β:Type}
theorem Out.bind {r:R α} {g:α→R β} {P:β→Prop} (h:Out cls W σ f H (r.bind g) P):Out cls W σ f H r fun a=>Out cls W σ f H (g a) P:=by
 cases r <;> exact h
theorem Out.imp {r:R α} {P P':α→Prop} (h:Out cls W σ f H r P) (q:Po f H f1 H1) (hp:∀a,r = .ok a→P a→P' a):Out cls W σ f1 H1 r P':=by
 cases r with
 | ok a=>exact hp a rfl h
 | ex k=>exact fun f' H' q'=>h f' H' (q.trans q')
 | no=>exact h
theorem Out.okk {r:R α} {P:α→Prop} (h:Out cls W σ f H r P) (hn:∀k,r ≠ .ex k):∃a,r = .ok a∧P a:=by
 cases r with
 | ok a=>exact ⟨a,rfl,h⟩
 | ex k=>exact absurd rfl (hn k)
 | no=>exact h.elim
end
section
variable (L:Lk) (K:PySem.W.Frag) (W:WX)
def dV (x:E):TE:=fun σ H Q=>∃f0 H0 f en,Mt K f0 H0 f H σ en∧Out L.cls W σ f H (L.ev x en) (Ac K f H Q)
def dR (x:E):TE:=fun σ H Q=>∃f0 H0 f en,Mt K f0 H0 f H σ en∧Out L.cls W σ f H (rd1 x en (L.ev x en)) fun d=>∀v f' H',Po f H f' H'→Vr K f' H' v d→Q v H'
def dT (x:E):TT:=fun σ H Q=>∃f0 H0 f en,Mt K f0 H0 f H σ en∧Out L.cls W σ f H (evT L.G L.c (dflT L.T) x en) fun b=>∀f' H',Po f H f' H'→Q b H'
def dVs (es:Es):TA:=fun σ H Q=>∃f0 H0 f en,Mt K f0 H0 f H σ en∧Out L.cls W σ f H (evs L.G L.c (dflT L.T) es en) fun ds=>∀vs f' H',Po f H f' H'→DpAll K f' vs ds→Q vs H'
def dAs (es:Es):TA:=fun σ H Q=>∃f0 H0 f en,Mt K f0 H0 f H σ en∧Out L.cls W σ f H (evAs L.G L.c (dflT L.T) es en) fun ss=>∀vs f' H',Po f H f' H'→ArgsOk K f' H' vs ss→Q vs H'
def dA (x:E):TE:=fun σ H Q=>∃f0 H0 f en,Mt K f0 H0 f H σ en∧Out L.cls W σ f H (arg1 x en (L.ev x en)) fun s=>∀v f' H',Po f H f' H'→ArgOk K f' H' v s→Q v H'
def dO (x:Eo):TO:=fun σ H Q=>∃f0 H0 f en,Mt K f0 H0 f H σ en∧Out L.cls W σ f H (evO L.G L.c (dflT L.T) x en) fun o=>∀f' H',Po f H f' H'→Q o H'
end
structure Wk (K:PySem.W.Frag) (f:Hp) (J:L2.It) (ds:List D):Prop where
 go:∀i H,Same f H→i<ds.length→J.go i H
 stop:∀H,Same f H→J.stop ds.length H
 yld:∀i H x H',i<ds.length→Same f H→J.yld i H x H'→∃d,ds[i]?=some d∧∀fc,Same f fc→Same fc H→∃f',Po fc H f' H'∧Dp K f' x d
section
variable (L:Lk) (K:PySem.W.Frag) (W:WX)
def dI (x:It):TI:=fun σ H Rr=>∃f0 H0 f en,Mt K f0 H0 f H σ en∧Out L.cls W σ f H (evI L.G L.c (dflT L.T) x en) fun ds=>∀J f' H',Po f H f' H'→Wk K f' J ds→Rr J H'
end
def o1Fn:O1→Option Str
 | .abs=>some "abs"
 | .len=>some "len"
 | .list=>some "list"
 | .tuple=>some "tuple"
 | .all=>some "all"
 | .strI=>some "str"
 | .intB=>some "int"
 | .neg=>none
def t1Fn:Tm1→Str
 | .part => "partition"
 | .split => "split"
 | .sw => "startswith"
 | .strip => "strip"
 | .join => "join"
def t2Fn:Tm2→Str
 | .sw3 => "startswith"
 | .find3 => "find"
def rcvOk:Expr→Bool
 | .Name _ _=>true
 | .Constant _ _ _=>true
 | .Subscript _ _ _=>true
 | _=>false
def m1Fn:M1→Str
 | .count => "count"
 | .index => "index"
def o2Fn:O2→Option Str
 | .max2=>some "max"
 | .min2=>some "min"
 | _=>none
def plainE:Expr→Bool
 | .Slice .. => false
 | .Starred .. => false
 | _=>true
def conOk:D→Const→Bool
 | .int i,.int j=>i==j
 | .bool a,.bool b=>a==b
 | .none,.none=>true
 | .str x,.str y=>x==y
 | _,_=>false
def tyName:Ty→Expr→Bool
 | .bi n,.Name x _=>x==Str.ofString n&&(n == "int" || n == "bool" || n == "str" || n == "tuple" || n == "list")
 | _,_=>false
def tyGl (sc:Nms):Ty→Bool
 | .bi n=>glOk sc (Str.ofString n)
 | .ow _=>false
def teOk (cl:List Str) (sc:Nms):Te→Expr→Bool
 | .ow c,.Name x _=>cl[c]?==some x&&x != "" && x != "AreaError" && glOk sc x
 | .top,.Name x _=>x == "AreaError" && cl.contains x&&glOk sc x
 | .ve,.Name x _=>x == "ValueError" && glOk sc x
 | _,_=>false
def ksOk (cl:List Str) (ks:List Nat):Bool:=ks.all fun k=>(cl[k]?).any fun (y:Str)=>y != ""
def tesOk (cl:List Str) (sc:Nms):List Te→List Expr→Bool
 | [],[]=>true
 | t::ts,e::es=>teOk cl sc t e&&tesOk cl sc ts es
 | _,_=>false
def tysOk (sc:Nms):List Ty→List Expr→Bool
 | [],[]=>true
 | t::ts,e::es=>tyName t e&&tyGl sc t&&tysOk sc ts es
 | _,_=>false
mutual
def tgSlots:Tg→List Nat
 | .nm i=>[i]
 | .tp ts=>tgsSlots ts
def tgsSlots:Tgs→List Nat
 | .nil=>[]
 | .cons t r=>tgSlots t++tgsSlots r
end
mutual
def ckT (N:List Str) (sc:Nms):Tg→Expr→Bool
 | .nm i,.Name x _=>locOk N sc i x
 | .tp ts,.Tuple es _ _=>ckTs N sc ts es
 | _,_=>false
def ckTs (N:List Str) (sc:Nms):Tgs→List Expr→Bool
 | .nil,[]=>true
 | .cons t r,e::es=>ckT N sc t e&&ckTs N sc r es
 | _,_=>false
end
def blkOkB (N:List Str) (sc:Nms) (scope:Scope) (own:List (Str×Nat)):Bool :=
 scope.kind == .function&&scope.names.all (fun y=>scope.names.lookup y.1==some y.2)&&own.all (fun p=>N[p.2]?==some p.1) &&
 scope.names.all (fun y=>y.2 != .free||sc.lookup y.1==some .cell||sc.lookup y.1==some .free) &&
 scope.names.all (fun y => !(y.2 == .local||y.2 == .cell)||own.any (fun p=>p.1==y.1) || !N.contains y.1) && !isMk scope.names
def isTup:Expr→Bool
 | .Tuple .. => true
 | _=>false
mutual
def ckE (T:List Fn) (cs:List (Str×D)) (cl:List Str) (N:List Str) (sc:Nms):E→Expr→Bool
 | .var i,e=>(match e with
  | .Name x _=>nmOk N sc i x
  | _=>false)
 | .peek i,e=>(match e with
  | .Name x _=>nmOk N sc i x
  | _=>false)
 | .con d,e=>(match e with
  | .Constant c _ _=>conOk d c
  | _=>false)
 | .emp,e=>(match e with
  | .Dict [] [] _=>true
  | _=>false)
 | .glb j,e=>(match e with
  | .Name x _=>(cs[j]?).map (·.1)==some x&&glOk sc x
  | _=>false)
 | .tup es,e=>(match e with
  | .Tuple xs _ _=>ckEs T cs cl N sc es xs
  | _=>false)
 | .lst es,e=>(match e with
  | .List xs _=>ckEs T cs cl N sc es xs
  | _=>false)
 | .rep es n,e=>(match e with
  | .BinOp (.List xs _) .Mult b _=>ckEs T cs cl N sc es xs&&ckE T cs cl N sc n b
  | _=>false)
 | .op1 o a,e=>(match e with
  | .UnaryOp .USub b _=>(match o with | .neg=>true | _=>false)&&ckE T cs cl N sc a b
  | .Call (.Name f _) [b] [] _=>o1Fn o==some f&&glOk sc f&&ckE T cs cl N sc a b
  | _=>false)
 | .op2 o a b,e=>(match e with
  | .BinOp l op r _=>binOf o op&&ckE T cs cl N sc a l&&ckE T cs cl N sc b r
  | .Compare l [op] [r] _=>cmpOf o op && !behindInMarks op r&&ckE T cs cl N sc a l&&ckE T cs cl N sc b r
  | .Subscript l r _=>(match o with | .idx=>true | _=>false)&&ckE T cs cl N sc a l&&ckE T cs cl N sc b r&&plainE r
  | .Call (.Name f _) [l,r] [] _=>o2Fn o==some f&&glOk sc f&&ckE T cs cl N sc a l&&ckE T cs cl N sc b r
  | _=>false)
 | .chn o p a b c,e=>(match e with
  | .Compare l [op,op'] [m,r] _=>cmpOf o op&&cmpOf p op' && !lastMarks [op,op'] [m,r]&&ckE T cs cl N sc a l&&ckE T cs cl N sc b m&&ckE T cs cl N sc c r
  | _=>false)
 | .and a b,e=>(match e with
  | .BoolOp .And (l::r::[]) _=>ckE T cs cl N sc a l&&ckE T cs cl N sc b r
  | .BoolOp .And (l::r::q::rest) p=>ckE T cs cl N sc a l&&ckE T cs cl N sc b (.BoolOp .And (r::q::rest) p)
  | _=>false)
 | .or a b,e=>(match e with
  | .BoolOp .Or (l::r::[]) _=>ckE T cs cl N sc a l&&ckE T cs cl N sc b r
  | .BoolOp .Or (l::r::q::rest) p=>ckE T cs cl N sc a l&&ckE T cs cl N sc b (.BoolOp .Or (r::q::rest) p)
  | _=>false)
 | .not a,e=>(match e with
  | .UnaryOp .Not b _=>ckE T cs cl N sc a b
  | _=>false)
 | .ife t a b,e=>(match e with
  | .IfExp t' a' b' _=>ckE T cs cl N sc t t'&&ckE T cs cl N sc a a'&&ckE T cs cl N sc b b'
  | _=>false)
 | .slc a lo hi,e=>(match e with
  | .Subscript l (.Slice lo' hi' none _) _=>ckE T cs cl N sc a l&&ckO T cs cl N sc lo lo'&&ckO T cs cl N sc hi hi'
  | _=>false)
 | .revs a,e=>(match e with
  | .Subscript l (.Slice none none (some (.UnaryOp .USub (.Constant (.int 1) _ _) _)) _) _=>ckE T cs cl N sc a l
  | _=>false)
 | .trev a,e=>(match e with
  | .Call (.Name f _) [.Call (.Name g _) [b] [] _] [] _=>f == "tuple" && g == "reversed" && glOk sc f&&glOk sc g&&ckE T cs cl N sc a b
  | _=>false)
 | .repE a n,e=>(match e with
  | .BinOp l .Mult r _=>ckE T cs cl N sc a l&&ckE T cs cl N sc n r
  | _=>false)
 | .call j es m,e=>(match e with
  | .Call (.Name f _) (x::xs) [] _=>(match T[j]? with
   | some g=>g.name==f&&decide (m≤g.dfl.length)
   | none=>false)&&glOk sc f&&ckEs T cs cl N sc es (x::xs)
  | _=>false)
 | .callv j es m,e=>(match e with
  | .Call (.Name f _) (x::xs) [] _=>(match T[j]? with
   | some g=>g.name==f&&decide (m≤g.dfl.length)
   | none=>false)&&glOk sc f&&ckEs T cs cl N sc es (x::xs)
  | _=>false)
 | .dget i k x,e=>(match e with
  | .Call (.Attribute (.Name y _) m ap) [a,b] [] cp=>nmOk N sc i y&&m == "get" && ckE T cs cl N sc k a&&ckE T cs cl N sc x b&&ap.endLine==cp.line
  | _=>false)
 | .dvals i,e=>(match e with
  | .Call (.Name f _) [.Call (.Attribute (.Name y _) m ap) [] [] cp] [] _=>f == "list" && glOk sc f&&nmOk N sc i y&&m == "values" && ap.endLine==cp.line
  | _=>false)
 | .dne i,e=>(match e with
  | .Compare (.Name y _) [.NotEq] [.Dict [] [] _] _=>nmOk N sc i y
  | _=>false)
 | .dkeys i,e=>(match e with
  | .Call (.Name f _) [.Name y _] [] _=>f == "list" && glOk sc f&&nmOk N sc i y
  | _=>false)
 | .srt a,e=>(match e with
  | .Call (.Name f _) [b] [] _=>f == "sorted" && glOk sc f&&ckE T cs cl N sc a b
  | _=>false)
 | .dsrt i,e=>(match e with
  | .Call (.Name f _) [.Name y _] [] _=>f == "sorted" && glOk sc f&&nmOk N sc i y
  | _=>false)
 | .dix i k,e=>(match e with
  | .Subscript (.Name y _) a _=>nmOk N sc i y&&plainE a&&ckE T cs cl N sc k a
  | _=>false)
 | .jget i k x,e=>(match e with
  | .Call (.Attribute (.Name y _) m ap) [a,b] [] cp=>nmOk N sc i y&&m == "get" && ckE T cs cl N sc k a&&ckE T cs cl N sc x b&&ap.endLine==cp.line
  | _=>false)
 | .jix i k,e=>(match e with
  | .Subscript (.Name y _) a _=>nmOk N sc i y&&plainE a&&ckE T cs cl N sc k a
  | _=>false)
 | .jin i k g,e=>(match e with
  | .Compare a [op] [.Name y _] _=>nmOk N sc i y&&(match op with | .In => !g | .NotIn=>g | _=>false)&&ckE T cs cl N sc k a
  | _=>false)
 | .jlen i,e=>(match e with
  | .Call (.Name f _) [.Name y _] [] _=>f == "len" && glOk sc f&&nmOk N sc i y
  | _=>false)
 | .jsrt i,e=>(match e with
  | .Call (.Name f _) [.Name y _] [] _=>f == "sorted" && glOk sc f&&nmOk N sc i y
  | _=>false)
 | .max4 a b c d,e=>(match e with
  | .Call (.Name f _) [p,q,r,s] [] _=>f == "max" && glOk sc f&&ckE T cs cl N sc a p&&ckE T cs cl N sc b q&&ckE T cs cl N sc c r&&ckE T cs cl N sc d s
  | _=>false)
 | .rfd j ks e0,e=>(match e with
  | .Call (.Name f _) [.Lambda ⟨[],[],none,[],[],none,[]⟩ b scope _] [] _=>isMk sc&&glOk sc f&&(match T[j]? with | some g=>g.name==f&&(match g.body with | .rf _ _ _=>true | _=>false) | none=>false)&&lamOk sc scope&&ksOk cl ks&&ckE T cs cl N scope.names e0 b
  | _=>false)
 | .tx1 o a b,e=>(match e with
  | .Call (.Attribute x m ap) [y] [] cp=>t1Fn o==m&&rcvOk x&&ckE T cs cl N sc a x&&ckE T cs cl N sc b y&&ap.endLine==cp.line
  | _=>false)
 | .tx2 o a b z,e=>(match e with
  | .Call (.Attribute x m ap) [y,w] [] cp=>t2Fn o==m&&rcvOk x&&ckE T cs cl N sc a x&&ckE T cs cl N sc b y&&ckE T cs cl N sc z w&&ap.endLine==cp.line
  | _=>false)
 | .stp a lo hi st,e=>(match e with
  | .Subscript l (.Slice lo' hi' (some st') _) _=>ckE T cs cl N sc a l&&ckO T cs cl N sc lo lo'&&ckO T cs cl N sc hi hi'&&ckO T cs cl N sc st (some st')
  | _=>false)
 | .lrng a,e=>(match e with
  | .Call (.Name f _) [.Call (.Name g _) [b] [] _] [] _=>f == "list" && g == "range" && glOk sc f&&glOk sc g&&ckE T cs cl N sc a b
  | _=>false)
 | .rplE _ _ _,_=>false
 | .jmax i,e=>(match e with
  | .Call (.Name f _) [.Name y _] [] _=>f == "max" && glOk sc f&&nmOk N sc i y
  | _=>false)
 | .dofP a,e=>(match e with
  | .Call (.Name f _) [b] [] _=>f == "dict" && glOk sc f&&ckE T cs cl N sc a b
  | _=>false)
 | .ditl i,e=>(match e with
  | .Call (.Name f _) [.Call (.Attribute (.Name y _) m ap) [] [] cp] [] _=>f == "list" && glOk sc f&&nmOk N sc i y&&m == "items" && ap.endLine==cp.line
  | _=>false)
 | .lset a,e=>(match e with
  | .Call (.Name f _) [.Call (.Name g _) [b] [] _] [] _=>f == "len" && g == "set" && glOk sc f&&glOk sc g&&ckE T cs cl N sc a b
  | _=>false)
 | .dpix a k,e=>(match e with
  | .Subscript (.Call (.Name f _) [b] [] _) y _=>f == "dict" && glOk sc f&&plainE y&&ckE T cs cl N sc a b&&ckE T cs cl N sc k y
  | _=>false)
 | .fnv n,e=>(match e with
  | .Name x _=>x==n&&glOk sc x&&T.any (fun g=>g.name==n)
  | _=>false)
 | .callL i ds es,e=>(match e with
  | .Call (.Name f _) (x::xs) [] _=>nmOk N sc i f&&ds.all (fun q=>(match T[q.2]? with | some g=>g.name==q.1 | none=>false))&&ckEs T cs cl N sc es (x::xs)
  | _=>false)
 | .mth o a b,e=>(match e with
  | .Call (.Attribute (.Name x px) m ap) [y] [] cp=>m1Fn o==m&&ckE T cs cl N sc a (.Name x px)&&ckE T cs cl N sc b y&&ap.endLine==cp.line
  | _=>false)
 | .erv i,e=>(match e with
  | .Name x _=>nmOk N sc i x
  | _=>false)
 | .isE i ks ts,e=>(match e with
  | .Call (.Name f _) [.Name y _,.Tuple xs _ _] [] _=>f == "isinstance" && decide (ts.length≤100)&&glOk sc f&&nmOk N sc i y&&cl.contains "AreaError" && ksOk cl ks&&tesOk cl sc ts xs
  | .Call (.Name f _) [.Name y _,.Name x p] [] _=>f == "isinstance" && glOk sc f&&nmOk N sc i y&&cl.contains "AreaError" && ksOk cl ks&&tesOk cl sc ts [.Name x p]
  | _=>false)
 | .isN i g,e=>(match e with
  | .Compare (.Name y _) [op] [.Constant .none _ _] _=>(match op with | .Is => !g | .IsNot=>g | _=>false)&&nmOk N sc i y
  | _=>false)
 | .isi a ts,e=>(match e with
  | .Call (.Name f _) [b,.Tuple xs _ _] [] _=>f == "isinstance" && decide (ts.length≤100)&&glOk sc f&&ckE T cs cl N sc a b&&tysOk sc ts xs
  | .Call (.Name f _) [b,.Name x p] [] _=>f == "isinstance" && glOk sc f&&ckE T cs cl N sc a b&&tysOk sc ts [.Name x p]
  | _=>false)
 | .cmp elt tg it ifs own,e=>(match e with
  | .ListComp elt' [⟨tg',it',ifs',0⟩] scope _=>ckI T cs cl N sc it it' (isTup tg')&&blkOkB N sc scope own&&ckT N scope.names tg tg'&&(tgSlots tg).all (fun i=>(own.map (·.2)).contains i) &&
    ckIf T cs cl N scope.names ifs ifs'&&ckE T cs cl N scope.names elt elt'
  | _=>false)
 | .cmpP elt tg i ifs own,e=>(match e with
  | .ListComp elt' [⟨tg',.Name y _,ifs',0⟩] scope _=>nmOk N sc i y&&blkOkB N sc scope own&&ckT N scope.names tg tg'&&(tgSlots tg).all (fun i=>(own.map (·.2)).contains i) &&
    ckIf T cs cl N scope.names ifs ifs'&&ckE T cs cl N scope.names elt elt'
  | _=>false)
def ckEs (T:List Fn) (cs:List (Str×D)) (cl:List Str) (N:List Str) (sc:Nms):Es→List Expr→Bool
 | .nil,xs=>xs.isEmpty
 | .cons e r,xs=>(match xs with
  | x::xs=>ckE T cs cl N sc e x&&ckEs T cs cl N sc r xs
  | []=>false)
def ckO (T:List Fn) (cs:List (Str×D)) (cl:List Str) (N:List Str) (sc:Nms):Eo→Option Expr→Bool
 | .none,x=>x.isNone
 | .some e,x=>(match x with
  | some x=>ckE T cs cl N sc e x
  | none=>false)
def ckIf (T:List Fn) (cs:List (Str×D)) (cl:List Str) (N:List Str) (sc:Nms):Eo→List Expr→Bool
 | .none,x=>x.isEmpty
 | .some e,x=>(match x with
  | [x]=>ckE T cs cl N sc e x
  | _=>false)
def ckI (T:List Fn) (cs:List (Str×D)) (cl:List Str) (N:List Str) (sc:Nms):It→Expr→Bool→Bool
 | .seq a,e,_=>ckE T cs cl N sc a e
 | .txt a,e,_=>ckE T cs cl N sc a e
 | .rng1 a,e,_=>(match e with
  | .Call (.Name f _) [b] [] _=>f == "range" && glOk sc f&&ckE T cs cl N sc a b
  | _=>false)
 | .rng2 a b,e,_=>(match e with
  | .Call (.Name f _) [x,y] [] _=>f == "range" && glOk sc f&&ckE T cs cl N sc a x&&ckE T cs cl N sc b y
  | _=>false)
 | .rng3 a b c,e,_=>(match e with
  | .Call (.Name f _) [x,y,z] [] _=>f == "range" && glOk sc f&&ckE T cs cl N sc a x&&ckE T cs cl N sc b y&&ckE T cs cl N sc c z
  | _=>false)
 | .rev a,e,_=>(match e with
  | .Call (.Name f _) [b] [] _=>f == "reversed" && glOk sc f&&ckE T cs cl N sc a b
  | _=>false)
 | .revr a,e,_=>(match e with
  | .Call (.Name f _) [.Call (.Name g _) [b] [] _] [] _=>f == "reversed" && g == "range" && glOk sc f&&glOk sc g&&ckE T cs cl N sc a b
  | _=>false)
 | .enum a,e,tt=>(match e with
  | .Call (.Name f _) [b] [] _=>tt&&f == "enumerate" && glOk sc f&&ckE T cs cl N sc a b
  | _=>false)
 | .zip a b,e,tt=>(match e with
  | .Call (.Name f _) [x,y] [] _=>tt&&f == "zip" && glOk sc f&&ckE T cs cl N sc a x&&ckE T cs cl N sc b y
  | _=>false)
 | .ditems i,e,tt=>(match e with
  | .Call (.Attribute (.Name y _) m ap) [] [] cp=>tt&&nmOk N sc i y&&m == "items" && ap.endLine==cp.line
  | _=>false)
end
end AW
namespace AW
open PySem PySem.Spec PyProof.Rows L2
variable [CdT] [StA]
theorem PE.imp {X:Cx} {e:Expr} {t t':TE} (h:PE X e t) (q:∀σ H Q,t' σ H Q→t σ H Q):PE X e t':=⟨fun pins s σ H Q I z=>h.run pins s σ H Q I (q _ _ _ z)⟩
theorem PT.imp {X:Cx} {e:Expr} {t t':TT} (h:PT X e t) (q:∀σ H Q,t' σ H Q→t σ H Q):PT X e t':=⟨fun pins s σ H Q I z=>h.run pins s σ H Q I (q _ _ _ z)⟩
theorem PA.imp {X:Cx} {e:List Expr} {t t':TA} (h:PA X e t) (q:∀σ H Q,t' σ H Q→t σ H Q):PA X e t':=⟨fun pos pins s σ H Q I z=>h.run pos pins s σ H Q I (q _ _ _ z)⟩
theorem PO.imp {X:Cx} {e:Option Expr} {t t':TO} (h:PO X e t) (q:∀σ H Q,t' σ H Q→t σ H Q):PO X e t':=⟨fun pins s σ H Q I z=>h.run pins s σ H Q I (q _ _ _ z)⟩
theorem PI.imp {X:Cx} {tg e:Expr} {t t':TI} (h:PI X tg e t) (q:∀σ H Q,t' σ H Q→t σ H Q):PI X tg e t':=⟨fun pins s σ H Q I z=>h.run pins s σ H Q I (q _ _ _ z)⟩
theorem PI.or {X:Cx} {tg e:Expr} {t t':TI} (h:PI X tg e t) (h':PI X tg e t'):PI X tg e (fun σ H R=>t σ H R∨t' σ H R):=⟨fun pins s σ H Q I z=>z.elim (fun z=>h.run pins s σ H Q I z) fun z=>h'.run pins s σ H Q I z⟩
theorem PG.imp {X:Cx} {e:Expr} {t t':TG} (h:PG X e t) (q:∀v σ H Q,t' v σ H Q→t v σ H Q):PG X e t':=⟨fun pins s σ H v u Q I r z=>h.run pins s σ H v u Q I r (q _ _ _ _ z)⟩
theorem PG.or {X:Cx} {e:Expr} {t t':TG} (h:PG X e t) (h':PG X e t'):PG X e (fun v σ H Q=>t v σ H Q∨t' v σ H Q):=⟨fun pins s σ H v u Q I r z=>z.elim (fun z=>h.run pins s σ H v u Q I r z) fun z=>h'.run pins s σ H v u Q I r z⟩
theorem PGs.imp {X:Cx} {e:List Expr} {t t':TGs} (h:PGs X e t) (q:∀v σ H Q,t' v σ H Q→t v σ H Q):PGs X e t':=⟨fun pins s σ H v u Q I r z=>h.run pins s σ H v u Q I r (q _ _ _ _ z)⟩
theorem PS.imp {X:Cx} {e:Stmt} {t t':TS} (h:PS X e t) (q:∀D σ H,t' D σ H→t D σ H):PS X e t':=⟨fun pins s σ H D I z=>h.run pins s σ H D I (q _ _ _ z)⟩
theorem PSs.imp {X:Cx} {e:List Stmt} {t t':TS} (h:PSs X e t) (q:∀D σ H,t' D σ H→t D σ H):PSs X e t':=⟨fun pins s σ H D I z=>h.run pins s σ H D I (q _ _ _ z)⟩
theorem v1_noex {d:D} {k:Nat}:v1 d ≠ .ex k:=fun h=>by cases h
theorem ite_noex {α:Type} {c:Prop} [Decidable c] {a b:R α} (ha:∀k,a ≠ .ex k) (hb:∀k,b ≠ .ex k) (k:Nat):(if c then a else b) ≠ .ex k:=by
 by_cases h:c
 ·rw [if_pos h];exact ha k
 ·rw [if_neg h];exact hb k
theorem ok_noex {α:Type} {a:α} (k:Nat):(R.ok a) ≠ .ex k:=fun h=>by cases h
theorem no_noex {α:Type} (k:Nat):(R.no:R α) ≠ .ex k:=fun h=>by cases h
theorem bind_noex {α β:Type} {r:R α} {g:α→R β} (h1:∀k,r ≠ .ex k) (h2:∀a k,g a ≠ .ex k) (k:Nat):r.bind g ≠ .ex k:=by
 cases r with
 | ok a=>exact h2 a k
 | ex c=>exact absurd rfl (h1 c)
 | no=>exact no_noex k
theorem isD_noex:∀(a b:D) (k:Nat),isD a b ≠ .ex k:=fun a b k h=>by cases a <;> cases b <;> cases h
theorem atD_noex (xs:List D) (i:Int) (k:Nat):atD xs i ≠ .ex k:=by
 unfold atD;cases atI xs i with
 | none=>exact no_noex k
 | some d=>exact v1_noex
theorem sgnAt_noex (x:Str) (i:Int) (k:Nat):sgnAt x i ≠ .ex k:=by
 unfold sgnAt;split
 ·split
  ·exact v1_noex
  ·exact no_noex k
 ·exact no_noex k
theorem inS_noex (g:Bool) (x z:Str) (k:Nat):inS g x z ≠ .ex k:=by
 unfold inS;split
 ·exact v1_noex
 ·exact no_noex k
theorem inT_noex (g:Bool) (d:D) (xs:List D) (k:Nat):inT g d xs ≠ .ex k:=ite_noex (fun _=>v1_noex) no_noex k
theorem intT_noex (x:Str) (k:Nat):sem1 .intB (.str x) ≠ .ex k:=by
 show (if x.length≤640 then (match PySem.intText? x with | some n=>v1 (.int n) | none => .no) else .no:R (D×Bool)) ≠ .ex k;split
 ·split
  ·exact v1_noex
  ·exact no_noex k
 ·exact no_noex k
theorem sem2_noex (o:O2) (a b:D) (k:Nat):sem2 o a b ≠ .ex k:=by
 cases o <;> cases a <;> cases b <;> first
  | exact no_noex k
  | exact v1_noex
  | exact atD_noex _ _ k
  | exact sgnAt_noex _ _ k
  | exact inS_noex _ _ _ k
  | exact inT_noex _ _ _ k
  | exact ite_noex (fun _=>v1_noex) no_noex k
  | exact ite_noex ok_noex no_noex k
  | exact ite_noex no_noex (ite_noex (fun _=>v1_noex) no_noex) k
  | exact ite_noex no_noex (fun _=>v1_noex) k
  | exact bind_noex (isD_noex _ _) (fun _ _=>v1_noex) k
theorem allB_noex:∀(ds:List D) (k:Nat),allB ds ≠ .ex k
 | [],k=>ok_noex k
 | .bool b::r,k=>bind_noex (allB_noex r) (fun _=>ok_noex) k
 | .none::_,k=>no_noex k
 | .int _::_,k=>no_noex k
 | .str _::_,k=>no_noex k
 | .list _::_,k=>no_noex k
 | .tuple _::_,k=>no_noex k
 | .dict _::_,k=>no_noex k
theorem sem1_noex (o:O1) (a:D) (k:Nat):sem1 o a ≠ .ex k:=by
 cases o <;> cases a <;> first
  | exact intT_noex _ k
  | exact no_noex k
  | exact v1_noex
  | exact ok_noex k
  | exact ite_noex (fun _=>v1_noex) no_noex k
  | exact bind_noex (allB_noex _) (fun _ _=>v1_noex) k
theorem semSl_noex (a:D) (l h:Option Int) (k:Nat):semSl a l h ≠ .ex k:=by
 cases a <;> first
  | exact ite_noex (fun _=>v1_noex) no_noex k
  | exact no_noex k
  | exact v1_noex
  | exact ok_noex k
theorem truR_noex (a:D) (k:Nat):truR a ≠ .ex k:=by
 cases a <;> first
  | exact no_noex k
  | exact ok_noex k
  | exact ite_noex ok_noex no_noex k
theorem intR_noex (a:D) (k:Nat):intR a ≠ .ex k:=by cases a <;> first | exact no_noex k | exact ok_noex k
theorem seqR_noex (a:D) (k:Nat):seqR a ≠ .ex k:=by cases a <;> first | exact no_noex k | exact ok_noex k
theorem rngR_noex (i j:Int) (k:Nat):rngR i j ≠ .ex k:=ite_noex ok_noex no_noex k
theorem zipR_noex (a b:D) (k:Nat):zipR a b ≠ .ex k:=by cases a <;> cases b <;> first | exact no_noex k | exact ok_noex k
theorem str_beq {a b:Str} (h:(a==b)=true):a=b:=eq_of_beq h
theorem bne_false {a b:Str} (h:(a != b)=true):(a==b)=false:=by
 cases e:(a==b) with
 | false=>rfl
 | true=>rw [bne,e] at h;cases h
theorem bne_ne {a b:Str} (h:(a != b)=true):a≠b:=fun e=>by
 subst e;rw [bne,beq_self_eq_true] at h;cases h
section
variable {L:Lk} {N:List Str} {sc:Nms} {W:WX} {X:Cx}
theorem gl_of (xc:XC L N sc W X) {x:Str} (h:glOk sc x=true):Gl X x∧(x==("__debug__" : Str))=false∧x ≠ "__name__" := by
 unfold glOk at h;simp only [Bool.and_eq_true] at h;exact ⟨xc.nm x _ (eq_of_beq h.1.1),bne_false h.1.2,bne_ne h.2⟩
theorem blt_of (xc:XC L N sc W X) {x:Str} (h:x∈blts):X.mg x=none:=xc.lk.blt x h
theorem vis_of (xc:XC L N sc W X) {i:Nat} {x:Str} (h:nmOk N sc i x=true):X.N[i]?=some x∧Vis X.env.scope x∧(x==("__debug__" : Str))=false∧(x==("__classdict__" : Str))=false:=by
 unfold nmOk at h;simp only [Bool.and_eq_true,Bool.or_eq_true] at h;obtain ⟨⟨⟨h1,h2⟩,h3⟩,h4⟩:=h;refine ⟨by rw [xc.N];exact eq_of_beq h1,?_,bne_false h3,bne_false h4⟩;rcases h2 with (h2 | h2) | h2
 ·exact .inl (xc.nm x _ (eq_of_beq h2))
 ·exact .inr (.inl (xc.nm x _ (eq_of_beq h2)).1)
 ·rcases xc.nm x _ (eq_of_beq h2) with k | k
  ·exact .inr (.inl k)
  ·exact .inr (.inr k)
theorem loc_of (xc:XC L N sc W X) {i:Nat} {x:Str} (h:locOk N sc i x=true):X.N[i]?=some x∧Loc X.env.scope x∧(X.fn x=true∨X.env.scope.names.lookup x=some .local):=by
 unfold locOk at h;simp only [Bool.and_eq_true,Bool.or_eq_true] at h;obtain ⟨h1,h2⟩:=h;refine ⟨by rw [xc.N];exact eq_of_beq h1,?_⟩;rcases h2 with h2 | h2
 ·exact ⟨.inl (xc.nm x _ (eq_of_beq h2)),.inr (xc.nm x _ (eq_of_beq h2))⟩
 ·exact ⟨.inr (xc.nm x _ (eq_of_beq h2)).1,.inl (xc.nm x _ (eq_of_beq h2)).2⟩
theorem XC.units (xc:XC L N sc W X):X.A.units+65<cLine:=by
 have:=xc.room.un;omega
def gD (K:PySem.W.Frag) (tg:Tg):TG:=fun v σ H Q=>∃f0 H0 f en d en',Mt K f0 H0 f H σ en∧Dp K f v d∧bindT tg d en = .ok en' ∧
 ∀σ',Mt K f0 H0 f H σ' en'→(∀vs,(∀i∈tgSlots tg,i∈vs)→L2.wipe σ' vs=L2.wipe σ vs)→Q σ' H
def gDs (K:PySem.W.Frag) (ts:Tgs):TGs:=fun vs σ H Q=>∃f0 H0 f en ds en',Mt K f0 H0 f H σ en∧DpAll K f vs ds∧bindTs ts ds en = .ok en' ∧
 ∀σ',Mt K f0 H0 f H σ' en'→(∀vs,(∀i∈tgsSlots ts,i∈vs)→L2.wipe σ' vs=L2.wipe σ vs)→Q σ' H
theorem wipe_set {σ:L2.St} {i:Nat} {o:Option V}:∀{vs:List Nat},i∈vs→L2.wipe (σ.set i o) vs=L2.wipe σ vs
 | v::vs,h=>by
  unfold L2.wipe;by_cases hv:i∈vs
  ·rw [wipe_set hv]
  ·have e:i=v:=by
    rcases List.mem_cons.mp h with h | h
    ·exact h
    ·exact absurd h hv
   subst e;clear h hv
   have go:∀(ws:List Nat),(L2.wipe (σ.set i o) ws).set i none=(L2.wipe σ ws).set i none:=by
    intro ws;induction ws with
    | nil=>show (σ.set i o).set i none=σ.set i none;exact List.set_set ..
    | cons w ws ih =>
     show ((L2.wipe (σ.set i o) ws).set w none).set i none=((L2.wipe σ ws).set w none).set i none;by_cases hw:w=i
     ·subst hw;rw [List.set_set,List.set_set];exact ih
     ·rw [List.set_comm _ _ hw,ih,List.set_comm _ _ (Ne.symm hw)]
   exact go vs
theorem ck_assign {N:List Str} {sc:Nms}:∀{ts:Tgs} {es:List Expr},ckTs N sc ts es=true→(assignEach es X.env).findIdx? (·.1)=none∧(assignEach es X.env).length=es.length
 | .nil,[],_=>⟨rfl,rfl⟩
 | .nil,_::_,h=>by cases h
 | .cons t r,[],h=>by cases h
 | .cons t r,e::es,h=>by
  have h':(ckT N sc t e&&ckTs N sc r es)=true:=h;rw [Bool.and_eq_true] at h';obtain ⟨i1,i2⟩:=ck_assign h'.2;have z:∃a,assignEach (e::es) X.env=(false,a)::assignEach es X.env:=by
   cases e <;> first
    | exact ⟨_,rfl⟩
    | (have z:=h'.1;cases t <;> cases z)
  obtain ⟨a,z⟩:=z;rw [z];refine ⟨?_,by rw [List.length_cons,List.length_cons,i2]⟩;rw [List.findIdx?_cons,i1];rfl
theorem ck_assign1 {N:List Str} {sc:Nms} {t:Tg} {e:Expr} (h:ckT N sc t e=true) (es:List Expr):(assignEach (e::es) X.env).map (·.2)=assign e X.env::(assignEach es X.env).map (·.2):=by
 cases e <;> first
  | rfl
  | (cases t <;> cases h)
theorem ckTs_len {N:List Str} {sc:Nms}:∀{ts:Tgs} {es:List Expr},ckTs N sc ts es=true→∀{ds:List D} {en en':En},bindTs ts ds en = .ok en'→ds.length=es.length
 | .nil,[],_,[],_,_,_=>rfl
 | .nil,[],_,_::_,_,_,e=>by cases e
 | .nil,_::_,h,_,_,_,_=>by cases h
 | .cons t r,[],h,_,_,_,_=>by cases h
 | .cons t r,e::es,h,[],_,_,z=>by cases z
 | .cons t r,e::es,h,d::ds,en,en',z=>by
  have h':(ckT N sc t e&&ckTs N sc r es)=true:=h;rw [Bool.and_eq_true] at h';have z':(bindT t d en).bind (fun e1=>bindTs r ds e1) = .ok en':=z;obtain ⟨e1,_,z2⟩:=R.of_bind z';rw [List.length_cons,List.length_cons,ckTs_len h'.2 z2]
mutual
theorem sTg (xc:XC L N sc W X):∀(tg:Tg) (e:Expr),ckT N sc tg e=true→PG X e (gD X.K tg)
 | .nm i,e,h=>by
  cases e with
  | Name x p =>
   obtain ⟨h1,h2,h3⟩:=loc_of xc h;refine PG.imp (pg_name xc.nd h1 h2 h3) fun v σ H Q q=>?_;obtain ⟨f0,H0,f,en,d,en',m,hd,hb,k⟩:=q;have hb':R.ok (en.set i (.va d))=R.ok en':=hb;cases hb';exact k _ (m.setV hd) fun vs hv=>wipe_set (hv i (List.mem_singleton.mpr rfl))
  | _=>cases h
 | .tp ts,e,h=>by
  cases e with
  | Tuple es k p =>
   have h':ckTs N sc ts es=true:=h;obtain ⟨a1,a2⟩:=ck_assign (X:=X) h';have ih:=sTgs xc ts es h';refine PG.imp (PG.or (pg_tup (n:=es.length) xc.calm ih a2 a1) (pg_unl (n:=es.length) xc.calm ih a2 a1)) fun v σ H Q q=>?_;obtain ⟨f0,H0,f,en,d,en',m,hd,hb,kq⟩:=q;cases d with
   | tuple ds =>
    have hb':bindTs ts ds en = .ok en':=hb;cases hd with
    | tup hs ha=>exact .inl ⟨_,_,rfl,sqt_same m.po.sub hs,by rw [ha.length];exact ckTs_len h' hb',f0,H0,f,en,ds,en',m,ha,hb',kq⟩
   | list ds =>
    have hb':bindTs ts ds en = .ok en':=hb;cases hd with
    | lst hs ha=>exact .inr ⟨_,_,rfl,sql_same m.po.sub hs,by rw [ha.length];exact ckTs_len h' hb',f0,H0,f,en,ds,en',m,ha,hb',kq⟩
   | _=>cases hb
  | _=>cases h
theorem sTgs (xc:XC L N sc W X):∀(ts:Tgs) (es:List Expr),ckTs N sc ts es=true→PGs X es (gDs X.K ts)
 | .nil,es,h=>by
  cases es with
  | nil =>
   refine PGs.imp pgs_nil fun vs σ H Q q=>?_;obtain ⟨f0,H0,f,en,ds,en',m,hd,hb,k⟩:=q;cases ds with
   | nil =>
    have hb':R.ok en=R.ok en':=hb;cases hb';cases hd;exact ⟨rfl,k _ m fun _ _=>rfl⟩
   | cons d ds=>cases hb
  | cons e es=>cases h
 | .cons t r,es,h=>by
  cases es with
  | nil=>cases h
  | cons e es =>
   have h':(ckT N sc t e&&ckTs N sc r es)=true:=h;rw [Bool.and_eq_true] at h';refine PGs.imp (pgs_cons (sTg xc t e h'.1) (sTgs xc r es h'.2) (ck_assign1 h'.1 es)) fun vs σ H Q q=>?_;obtain ⟨f0,H0,f,en,ds,en',m,hd,hb,k⟩:=q;cases hd with
   | nil=>cases hb
   | cons a b =>
    have hb':(bindT t _ en).bind (fun e1=>bindTs r _ e1) = .ok en':=hb;obtain ⟨e1,z1,z2⟩:=R.of_bind hb';refine ⟨_,_,rfl,f0,H0,f,en,_,e1,m,a,z1,fun σ1 m1 w1=>⟨f0,H0,f,e1,_,en',m1,b,z2,fun σ2 m2 w2=>k σ2 m2 fun vs hv=>?_⟩⟩;rw [w2 vs fun i hi=>hv i (List.mem_append_right _ hi),w1 vs fun i hi=>hv i (List.mem_append_left _ hi)]
end
end
end AW
namespace AW
open PySem PySem.Spec PyProof.Rows L2
variable [CdT] [StA]
section
variable {L:Lk} {N:List Str} {sc:Nms} {W:WX} {X:Cx} {K:PySem.W.Frag}
theorem rd1_ok {x:E} {en:En} {G c d} {p:D×Bool} (h:evF G c d x en = .ok p):rd1 x en (evF G c d x en) = .ok p.1:=by
 cases x <;> first
  | (rw [h];rfl)
  | cases h
theorem rd1_bind {x:E} {en:En} {r:R (D×Bool)} (h:∀i,x ≠ .peek i):rd1 x en r=r.bind fun p => .ok p.1:=by
 cases x <;> first
  | rfl
  | exact absurd rfl (h _)
theorem arg1_bind {x:E} {en:En} {r:R (D×Bool)} (h:∀i,x ≠ .peek i) (h':∀i,x ≠ .erv i) (h'':∀n,x ≠ .fnv n):arg1 x en r=r.bind fun p => .ok (.va p.1):=by
 cases x <;> first
  | rfl
  | exact absurd rfl (h _)
  | exact absurd rfl (h' _)
  | exact absurd rfl (h'' _)
theorem dR_dV {x:E} (hx:∀i,x ≠ .peek i) {σ H Q} (h:dR L K W x σ H Q):dV L K W x σ H Q:=by
 obtain ⟨f0,H0,f,en,m,o⟩:=h;rw [rd1_bind hx] at o;exact ⟨f0,H0,f,en,m,o.bind.imp (Po.refl m.po.sub) fun p _ k v f' H' q hv=>k v f' H' q hv.read⟩
theorem dA_dV {x:E} (hx:∀i,x ≠ .peek i) (hy:∀i,x ≠ .erv i) (hz:∀n,x ≠ .fnv n) {σ H Q} (h:dA L K W x σ H Q):dV L K W x σ H Q:=by
 obtain ⟨f0,H0,f,en,m,o⟩:=h;rw [arg1_bind hx hy hz] at o;refine ⟨f0,H0,f,en,m,o.bind.imp (Po.refl m.po.sub) fun p _ k v f' H' q hv=>?_⟩;obtain ⟨f'',q',hv'⟩:=hv.settle q;exact k v f'' H' q' (.va hv')
theorem peekR {i:Nat} {σ H Q} (h:dR L K W (.peek i) σ H Q):tVar i σ H Q:=by
 obtain ⟨f0,H0,f,en,m,o⟩:=h;have o':Out L.cls W σ f H (match en[i]? with | some (.ow ds)=>R.ok (PyData.list ds) | some (.rd ds)=>R.ok (PyData.list ds) | some (.st ds)=>R.ok (PyData.list ds) | _=>R.no) fun d=>∀v f' H',Po f H f' H'→Vr K f' H' v d→Q v H':=o;cases e:en[i]? with
 | none=>rw [e] at o';exact o'.elim
 | some s =>
  rw [e] at o';cases s with
  | ow ds =>
   obtain ⟨p,vs,e1,_,_,hH,ha⟩:=m.ow e;exact ⟨_,e1,o' _ f H (Po.refl m.po.sub) (.inr ⟨ds,p,vs,rfl,rfl,.inl (.inl hH),ha⟩)⟩
  | rd ds =>
   obtain ⟨p,vs,e1,hH,ha⟩:=m.rd e;exact ⟨_,e1,o' _ f H (Po.refl m.po.sub) (.inr ⟨ds,p,vs,rfl,rfl,sql_sameT m.po.sH hH,ha⟩)⟩
  | un=>exact o'.elim
  | va d=>exact o'.elim
  | er d=>exact o'.elim
  | fn d=>exact o'.elim
  | fd d=>exact o'.elim
  | dj d=>exact o'.elim
  | st ds =>
   obtain ⟨p,vs,e1,_,_,_,hH,ha⟩:=m.st e;exact ⟨_,e1,o' _ f H (Po.refl m.po.sub) (.inr ⟨ds,p,vs,rfl,rfl,.inl (.inl hH),ha⟩)⟩
  | dk d=>exact o'.elim
theorem peekA {i:Nat} {σ H Q} (h:dA L K W (.peek i) σ H Q):tVar i σ H Q:=by
 obtain ⟨f0,H0,f,en,m,o⟩:=h;have o':Out L.cls W σ f H (match en[i]? with | some (.ow ds)=>R.ok (Sl.rd ds) | some (.rd ds)=>R.ok (Sl.rd ds) | _=>R.no) fun s=>∀v f' H',Po f H f' H'→ArgOk K f' H' v s→Q v H':=o;cases e:en[i]? with
 | none=>rw [e] at o';exact o'.elim
 | some s =>
  rw [e] at o';cases s with
  | ow ds =>
   obtain ⟨p,vs,e1,_,_,hH,ha⟩:=m.ow e;exact ⟨_,e1,o' _ f H (Po.refl m.po.sub) (.rd (.inl (.inl hH)) ha)⟩
  | rd ds =>
   obtain ⟨p,vs,e1,hH,ha⟩:=m.rd e;exact ⟨_,e1,o' _ f H (Po.refl m.po.sub) (.rd (sql_sameT m.po.sH hH) ha)⟩
  | un=>exact o'.elim
  | va d=>exact o'.elim
  | er d=>exact o'.elim
  | fn d=>exact o'.elim
  | fd d=>exact o'.elim
  | dj d=>exact o'.elim
  | st d=>exact o'.elim
  | dk d=>exact o'.elim
theorem ervA {i:Nat} {σ H Q} (h:dA L K W (.erv i) σ H Q):tVar i σ H Q:=by
 obtain ⟨f0,H0,f,en,m,o⟩:=h;have o':Out L.cls W σ f H (match en[i]? with | some (.er c)=>R.ok (Sl.er c) | some (.va .none)=>R.ok (Sl.va .none) | _=>R.no) fun s=>∀v f' H',Po f H f' H'→ArgOk K f' H' v s→Q v H':=o;cases e:en[i]? with
 | none=>rw [e] at o';exact o'.elim
 | some s =>
  rw [e] at o';cases s with
  | er c =>
   obtain ⟨p,e1,hH⟩:=m.er e;exact ⟨_,e1,o' _ f H (Po.refl m.po.sub) (.er hH)⟩
  | va d =>
   cases d with
   | none =>
    obtain ⟨v,e1,hd⟩:=m.va e;exact ⟨_,e1,o' _ f H (Po.refl m.po.sub) (.va hd)⟩
   | _=>exact o'.elim
  | un=>exact o'.elim
  | ow d=>exact o'.elim
  | rd d=>exact o'.elim
  | fn d=>exact o'.elim
  | fd d=>exact o'.elim
  | dj d=>exact o'.elim
  | st d=>exact o'.elim
  | dk d=>exact o'.elim
theorem nofnv_of {T:List Fn} {cs:List (Str×D)} {cl:List Str} {x:E} {e:Expr} (h:ckE T cs cl N sc x e=true):(∃n a p,x = .fnv n∧e = .Name a p∧(a==n&&glOk sc a&&T.any (fun g=>g.name==n))=true)∨∀n,x ≠ .fnv n:=by
 cases x with
 | fnv i =>
  cases e <;> first
   | exact .inl ⟨_,_,_,rfl,rfl,h⟩
   | cases h
 | _=>exact .inr fun _ z=>by cases z
theorem fnvA {n:Str} {σ H Q} (h:dA L K W (.fnv n) σ H Q):tC (.ref (He.ga K n)) σ H Q:=by
 obtain ⟨f0,H0,f,en,m,o⟩:=h;exact (show ∀v f' H',Po f H f' H'→ArgOk K f' H' v (.fn n)→Q v H' from o) _ f H (Po.refl m.po.sub) .fn
theorem fga_of (lk:LkOk L P w K mg base) {n:Str} (h:L.T.any (fun g=>g.name==n)=true):mg n=some (.ref (He.ga K n)):=by
 obtain ⟨g,hg,e⟩:=List.any_eq_true.mp h;obtain ⟨j,hj⟩:=List.mem_iff_getElem?.mp hg;have:=lk.fga j g hj;rw [str_beq e] at this;exact this
theorem noerv_of {T:List Fn} {cs:List (Str×D)} {cl:List Str} {x:E} {e:Expr} (h:ckE T cs cl N sc x e=true):(∃i a p,x = .erv i∧e = .Name a p∧nmOk N sc i a=true)∨∀i,x ≠ .erv i:=by
 cases x with
 | erv i =>
  cases e <;> first
   | exact .inl ⟨_,_,_,rfl,rfl,h⟩
   | cases h
 | _=>exact .inr fun _ z=>by cases z
theorem nopeek_of {T:List Fn} {cs:List (Str×D)} {cl:List Str} {x:E} {e:Expr} (h:ckE T cs cl N sc x e=true):(∃i a p,x = .peek i∧e = .Name a p∧nmOk N sc i a=true)∨∀i,x ≠ .peek i:=by
 cases x with
 | peek i =>
  cases e <;> first
   | exact .inl ⟨_,_,_,rfl,rfl,h⟩
   | cases h
 | _=>exact .inr fun _ z=>by cases z
theorem sR_of (xc:XC L N sc W X) {x:E} {e:Expr} (h:ckE L.T L.cons L.clsN N sc x e=true) (ih:PE X e (dV L X.K W x)):PE X e (dR L X.K W x):=by
 rcases nopeek_of h with ⟨i,a,p,rfl,rfl,hn⟩ | hx
 ·obtain ⟨h1,h2,h3,h4⟩:=vis_of xc hn;exact PE.imp (pe_var h1 h2 h3 h4) fun σ H Q q=>peekR q
 ·exact PE.imp ih fun σ H Q q=>dR_dV hx q
theorem sA_of (xc:XC L N sc W X) {x:E} {e:Expr} (h:ckE L.T L.cons L.clsN N sc x e=true) (ih:PE X e (dV L X.K W x)):PE X e (dA L X.K W x):=by
 rcases nopeek_of h with ⟨i,a,p,rfl,rfl,hn⟩ | hx
 ·obtain ⟨h1,h2,h3,h4⟩:=vis_of xc hn;exact PE.imp (pe_var h1 h2 h3 h4) fun σ H Q q=>peekA q
 ·rcases noerv_of h with ⟨i,a,p,rfl,rfl,hn⟩ | hy
  ·obtain ⟨h1,h2,h3,h4⟩:=vis_of xc hn;exact PE.imp (pe_var h1 h2 h3 h4) fun σ H Q q=>ervA q
  ·rcases nofnv_of h with ⟨n,a,p,rfl,rfl,hn⟩ | hz
   ·obtain ⟨hn,n3⟩:=Bool.and_eq_true_iff.mp hn;obtain ⟨n1,n2⟩:=Bool.and_eq_true_iff.mp hn;have e:=str_beq n1;subst e;obtain ⟨g1,g2,g3⟩:=gl_of xc n2;exact PE.imp (pe_glob g1 (fga_of xc.lk n3) (show RelV (.ref _) (.ref _) from rfl) g2) fun σ H Q q=>fnvA q
   ·exact PE.imp ih fun σ H Q q=>dA_dV hx hy hz q
theorem imp_op2 {o:O2} {a b:E} {σ H Q} (h:dV L K W (.op2 o a b) σ H Q):tOp (rO2 K o) (dR L K W a) (dR L K W b) σ H Q:=by
 obtain ⟨f0,H0,f,en,m,ot⟩:=h;have o1:=Out.bind (show Out L.cls W σ f H ((rd1 a en (L.ev a en)).bind fun x=>(rd1 b en (L.ev b en)).bind fun y=>sem2 o x y) (Ac K f H Q) from ot);refine ⟨f0,H0,f,en,m,o1.imp (Po.refl m.po.sub) fun dx _ h1 v f1 H1 q1 hv=>?_⟩;refine ⟨f0,H0,f1,en,m.mono q1,h1.bind.imp q1 fun dy _ h2 u f2 H2 q2 hu=>?_⟩;obtain ⟨p,e,k⟩:=h2.okk (sem2_noex _ _ _);exact ⟨f2,dx,dy,p,q2.sub,hv.mono q2,hu,e,k.mono (q1.trans q2)⟩
theorem imp_op1 {o:O1} {a:E} {σ H Q} (h:dV L K W (.op1 o a) σ H Q):dR L K W a σ H fun v H1=>rO1 K o v H1 Q:=by
 obtain ⟨f0,H0,f,en,m,ot⟩:=h;have o1:=Out.bind (show Out L.cls W σ f H ((rd1 a en (L.ev a en)).bind (sem1 o)) (Ac K f H Q) from ot);refine ⟨f0,H0,f,en,m,o1.imp (Po.refl m.po.sub) fun dx _ h1 v f1 H1 q1 hv=>?_⟩;obtain ⟨p,e,k⟩:=h1.okk (sem1_noex _ _);exact ⟨f1,dx,p,q1.sub,hv,e,k.mono q1⟩
theorem cmp_bool {o:O2} {op:CmpOp} (h:cmpOf o op=true) {a b:D} {p:D×Bool} (e:sem2 o a b = .ok p):∃k,p=(.bool k,false):=by
 have ite_b:∀{c:Prop} [Decidable c] {x:Bool},(if c then v1 (.bool x) else .no)=R.ok p→∃k,p=(.bool k,false):=fun {c} _ {x} z=>by
  by_cases hc:c
  ·rw [if_pos hc] at z;cases z;exact ⟨_,rfl⟩
  ·rw [if_neg hc] at z;cases z
 have bnd_b:∀{r:R Bool} {g:Bool→Bool},(r.bind fun c=>v1 (.bool (g c)))=R.ok p→∃k,p=(.bool k,false):=fun {r g} z=>by
  obtain ⟨c,_,z2⟩:=R.of_bind z;cases z2;exact ⟨_,rfl⟩
 have inS_b:∀{g:Bool} {x z:Str},inS g x z=R.ok p→∃k,p=(.bool k,false):=fun {g x z} y=>by
  unfold inS at y;split at y
  ·cases y;exact ⟨_,rfl⟩
  ·cases y
 have inT_b:∀{g:Bool} {d:D} {xs:List D},inT g d xs=R.ok p→∃k,p=(.bool k,false):=fun {g d xs} y=>ite_b y;cases o <;> cases op <;> first
  | (cases h;done)
  | (cases a <;> cases b <;> first
    | (cases e;done)
    | exact inS_b e
    | exact inT_b e
    | (cases e;exact ⟨_,rfl⟩)
    | exact ite_b e
    | exact bnd_b (g:=fun c=>c) e
    | exact bnd_b (g:=fun c => !c) e)
theorem dT_dV {x:E} (hx:∀i,x ≠ .peek i) (hb:∀en p,L.ev x en = .ok p→∃k,p=(.bool k,false)) {σ H Q} (h:dT L K W x σ H Q):dV L K W x σ H fun v H'=>∃k,v = .bl k∧Q k H':=by
 obtain ⟨f0,H0,f,en,m,o⟩:=h;have o1:=Out.bind (show Out L.cls W σ f H ((rd1 x en (L.ev x en)).bind truR) (fun b=>∀f' H',Po f H f' H'→Q b H') from o);rw [rd1_bind hx] at o1;refine ⟨f0,H0,f,en,m,o1.bind.imp (Po.refl m.po.sub) fun p e h1 v f' H' q hv=>?_⟩;obtain ⟨k,rfl⟩:=hb en p e;have h2:∀f' H',Po f H f' H'→Q k H':=h1;cases (show Dp K f' v (.bool k) from hv);exact ⟨k,rfl,h2 f' H' q⟩
theorem truV_of {f' H':Hp} {v:V} {d:D} {b:Bool} (s:Same f' H') (h:Vr K f' H' v d) (e:truR d = .ok b):TruV K v H' b:=by
 cases d with
 | none=>rw [h.non];cases e;rfl
 | bool c=>rw [h.bool];cases e;rfl
 | int i=>rw [h.int];cases e;rfl
 | str x =>
  rw [h.str];have e':(if x.length≤line then R.ok (tru (.str x)) else .no) = .ok b:=e;by_cases hz:x.length≤line
  ·rw [if_pos hz] at e';cases e';exact ⟨by rw [←line_eq];exact hz,rfl⟩
  ·rw [if_neg hz] at e';cases e'
 | list xs =>
  obtain ⟨p,vs,rfl,hs,ha⟩:=h.list s;cases e;refine .inl ⟨vs,hs,?_⟩;have:=ha.length;cases vs <;> cases xs <;> first | rfl | cases this
 | tuple xs =>
  obtain ⟨p,vs,rfl,_,hs,ha⟩:=h.tup s;cases e;refine .inr (.inl ⟨vs,hs,?_⟩);have:=ha.length;cases vs <;> cases xs <;> first | rfl | cases this
 | dict kvs=>cases e
theorem dT_dR {x:E} {σ H Q} (h:dT L K W x σ H Q):dR L K W x σ H fun v H'=>∃k,TruV K v H' k∧Q k H':=by
 obtain ⟨f0,H0,f,en,m,o⟩:=h;have o1:=Out.bind (show Out L.cls W σ f H ((rd1 x en (L.ev x en)).bind truR) (fun b=>∀f' H',Po f H f' H'→Q b H') from o);refine ⟨f0,H0,f,en,m,o1.imp (Po.refl m.po.sub) fun d _ h1 v f' H' q hv=>?_⟩;obtain ⟨b,e,k⟩:=h1.okk (truR_noex _);exact ⟨b,truV_of q.sub hv e,k f' H' q⟩
theorem pt_plain (xc:XC L N sc W X) {x:E} {e:Expr} (h:ckE L.T L.cons L.clsN N sc x e=true) (ih:PE X e (dV L X.K W x)) (he:∀whole,isTrue e X.env whole=(do let v ←whole;standAt e.pos;holding [v] (truthy v))):PT X e (dT L X.K W x) :=
 PT.imp (pt_truth (sR_of xc h ih) he) fun σ H Q q=>dT_dR q
theorem imp_and {a b:E} {σ H Q} (h:dV L K W (.and a b) σ H Q):tAndT K (dV L K W a) (dV L K W b) σ H Q:=by
 obtain ⟨f0,H0,f,en,m,ot⟩:=h;have o1:=Out.bind (show Out L.cls W σ f H ((L.ev a en).bind fun x=>(truR x.1).bind fun t=>if t then L.ev b en else v1 x.1) (Ac K f H Q) from ot);refine ⟨f0,H0,f,en,m,o1.imp (Po.refl m.po.sub) fun p _ h1 v f1 H1 q1 hv=>?_⟩;obtain ⟨t,e,h2⟩:=h1.bind.okk (truR_noex _);obtain ⟨f2,q2,hv2⟩:=hv.settle q1;refine ⟨t,truV_of q2.sub (.inl hv2) e,?_⟩;cases t with
 | true =>
  rw [if_pos rfl] at h2;rw [if_pos rfl];exact ⟨f0,H0,f2,en,m.mono q2,h2.imp q2 fun p' _ k=>k.mono q2⟩
 | false =>
  rw [if_neg Bool.false_ne_true] at h2;rw [if_neg Bool.false_ne_true];exact h2 v f2 H1 q2 hv2
theorem imp_or {a b:E} {σ H Q} (h:dV L K W (.or a b) σ H Q):tOrT K (dV L K W a) (dV L K W b) σ H Q:=by
 obtain ⟨f0,H0,f,en,m,ot⟩:=h;have o1:=Out.bind (show Out L.cls W σ f H ((L.ev a en).bind fun x=>(truR x.1).bind fun t=>if t then .ok x else L.ev b en) (Ac K f H Q) from ot);refine ⟨f0,H0,f,en,m,o1.imp (Po.refl m.po.sub) fun p _ h1 v f1 H1 q1 hv=>?_⟩;obtain ⟨t,e,h2⟩:=h1.bind.okk (truR_noex _);refine ⟨t,truV_of q1.sub hv.read e,?_⟩;cases t with
 | true =>
  rw [if_pos rfl] at h2;rw [if_pos rfl];exact h2 v f1 H1 q1 hv
 | false =>
  obtain ⟨f2,q2,hv2⟩:=hv.settle q1;rw [if_neg Bool.false_ne_true] at h2;rw [if_neg Bool.false_ne_true];exact ⟨f0,H0,f2,en,m.mono q2,h2.imp q2 fun p' _ k=>k.mono q2⟩
theorem imp_not {a:E} {σ H Q} (h:dV L K W (.not a) σ H Q):tNotT K (dR L K W a) σ H Q:=by
 obtain ⟨f0,H0,f,en,m,ot⟩:=h;have o1:=Out.bind (show Out L.cls W σ f H ((rd1 a en (L.ev a en)).bind fun x=>(truR x).bind fun t=>v1 (.bool (!t))) (Ac K f H Q) from ot);refine ⟨f0,H0,f,en,m,o1.imp (Po.refl m.po.sub) fun d _ h1 v f1 H1 q1 hv=>?_⟩;obtain ⟨t,e,h2⟩:=h1.bind.okk (truR_noex _);exact ⟨t,truV_of q1.sub hv e,h2 _ f1 H1 q1 (.bl _)⟩
theorem imp_ife {t a b:E} {σ H Q} (h:dV L K W (.ife t a b) σ H Q):tIf (dT L K W t) (dV L K W a) (dV L K W b) σ H Q:=by
 obtain ⟨f0,H0,f,en,m,ot⟩:=h;have ot':Out L.cls W σ f H ((rd1 t en (L.ev t en)).bind fun x=>(truR x).bind fun k=>if k then L.ev a en else L.ev b en) (Ac K f H Q):=ot;rw [←R.bind_assoc] at ot';refine ⟨f0,H0,f,en,m,ot'.bind.imp (Po.refl m.po.sub) fun k _ h1 f1 H1 q1=>?_⟩;cases k with
 | true =>
  rw [if_pos rfl] at h1;rw [if_pos rfl];exact ⟨f0,H0,f1,en,m.mono q1,h1.imp q1 fun p' _ k=>k.mono q1⟩
 | false =>
  rw [if_neg Bool.false_ne_true] at h1;rw [if_neg Bool.false_ne_true];exact ⟨f0,H0,f1,en,m.mono q1,h1.imp q1 fun p' _ k=>k.mono q1⟩
theorem evT_ev {x:E} {en:En} {p:D×Bool} (h:L.ev x en = .ok p):evT L.G L.c (dflT L.T) x en=truR p.1:=by
 show (rd1 x en (L.ev x en)).bind truR=_;rw [rd1_ok h];rfl
theorem evT_ex {x:E} {en:En} {k:Nat} (h:L.ev x en = .ex k):evT L.G L.c (dflT L.T) x en = .ex k:=by
 show (rd1 x en (L.ev x en)).bind truR=_;cases x <;> first
  | (rw [h];rfl)
  | cases h
theorem evT_and {a b:E} {en:En} (h:evT L.G L.c (dflT L.T) (.and a b) en ≠ .no):evT L.G L.c (dflT L.T) (.and a b) en=(evT L.G L.c (dflT L.T) a en).bind fun t=>if t then evT L.G L.c (dflT L.T) b en else .ok false:=by
 have e0:evT L.G L.c (dflT L.T) (.and a b) en=(((L.ev a en).bind fun x=>(truR x.1).bind fun t=>if t then L.ev b en else v1 x.1).bind fun p=>R.ok p.1).bind truR:=rfl;rw [e0] at h ⊢;cases ea:L.ev a en with
 | no=>rw [ea] at h;exact absurd rfl h
 | ex k=>rw [evT_ex ea];rfl
 | ok p =>
  rw [evT_ev ea];rw [ea] at h;have h':(((truR p.1).bind fun t=>if t then L.ev b en else v1 p.1).bind fun p=>R.ok p.1).bind truR ≠ .no:=h;show (((truR p.1).bind fun t=>if t then L.ev b en else v1 p.1).bind fun p=>R.ok p.1).bind truR=_;cases et:truR p.1 with
  | no=>rw [et] at h';exact absurd rfl h'
  | ex k=>exact absurd et (truR_noex _ k)
  | ok t =>
   rw [et] at h';cases t with
   | true =>
    have h2:((L.ev b en).bind fun p=>R.ok p.1).bind truR ≠ .no:=h';show ((L.ev b en).bind fun p=>R.ok p.1).bind truR=evT L.G L.c (dflT L.T) b en;cases eb:L.ev b en with
    | no=>rw [eb] at h2;exact absurd rfl h2
    | ex k=>rw [evT_ex eb];rfl
    | ok p=>rw [evT_ev eb];rfl
   | false =>
    show truR p.1 = .ok false;exact et
theorem evT_or {a b:E} {en:En} (h:evT L.G L.c (dflT L.T) (.or a b) en ≠ .no):evT L.G L.c (dflT L.T) (.or a b) en=(evT L.G L.c (dflT L.T) a en).bind fun t=>if t then .ok true else evT L.G L.c (dflT L.T) b en:=by
 have e0:evT L.G L.c (dflT L.T) (.or a b) en=(((L.ev a en).bind fun x=>(truR x.1).bind fun t=>if t then .ok x else L.ev b en).bind fun p=>R.ok p.1).bind truR:=rfl;rw [e0] at h ⊢;cases ea:L.ev a en with
 | no=>rw [ea] at h;exact absurd rfl h
 | ex k=>rw [evT_ex ea];rfl
 | ok p =>
  rw [evT_ev ea];rw [ea] at h;have h':(((truR p.1).bind fun t=>if t then .ok p else L.ev b en).bind fun p=>R.ok p.1).bind truR ≠ .no:=h;show (((truR p.1).bind fun t=>if t then .ok p else L.ev b en).bind fun p=>R.ok p.1).bind truR=_;cases et:truR p.1 with
  | no=>rw [et] at h';exact absurd rfl h'
  | ex k=>exact absurd et (truR_noex _ k)
  | ok t =>
   rw [et] at h';cases t with
   | false =>
    have h2:((L.ev b en).bind fun p=>R.ok p.1).bind truR ≠ .no:=h';show ((L.ev b en).bind fun p=>R.ok p.1).bind truR=evT L.G L.c (dflT L.T) b en;cases eb:L.ev b en with
    | no=>rw [eb] at h2;exact absurd rfl h2
    | ex k=>rw [evT_ex eb];rfl
    | ok p=>rw [evT_ev eb];rfl
   | true =>
    show truR p.1 = .ok true;exact et
theorem Out.ne {cls:Nat→Value} {σ:L2.St} {f H:Hp} {α:Type} {r:R α} {P:α→Prop} (h:Out cls W σ f H r P):r ≠ .no:=fun e=>by
 rw [e] at h;exact h
theorem impT_and {a b:E} {σ H Q} (h:dT L K W (.and a b) σ H Q):tAnd (dT L K W a) (dT L K W b) σ H Q:=by
 obtain ⟨f0,H0,f,en,m,ot⟩:=h;rw [evT_and ot.ne] at ot;refine ⟨f0,H0,f,en,m,ot.bind.imp (Po.refl m.po.sub) fun t _ h1 f1 H1 q1=>?_⟩;cases t with
 | true =>
  rw [if_pos rfl] at h1;rw [if_pos rfl];exact ⟨f0,H0,f1,en,m.mono q1,h1.imp q1 fun p' _ k f' H' q'=>k f' H' (q1.trans q')⟩
 | false =>
  rw [if_neg Bool.false_ne_true] at h1;rw [if_neg Bool.false_ne_true];exact h1 f1 H1 q1
theorem impT_or {a b:E} {σ H Q} (h:dT L K W (.or a b) σ H Q):tOr (dT L K W a) (dT L K W b) σ H Q:=by
 obtain ⟨f0,H0,f,en,m,ot⟩:=h;rw [evT_or ot.ne] at ot;refine ⟨f0,H0,f,en,m,ot.bind.imp (Po.refl m.po.sub) fun t _ h1 f1 H1 q1=>?_⟩;cases t with
 | true =>
  rw [if_pos rfl] at h1;rw [if_pos rfl];exact h1 f1 H1 q1
 | false =>
  rw [if_neg Bool.false_ne_true] at h1;rw [if_neg Bool.false_ne_true];exact ⟨f0,H0,f1,en,m.mono q1,h1.imp q1 fun p' _ k f' H' q'=>k f' H' (q1.trans q')⟩
theorem impT_not {a:E} {σ H Q} (h:dT L K W (.not a) σ H Q):tNot (dT L K W a) σ H Q:=by
 obtain ⟨f0,H0,f,en,m,ot⟩:=h;have ot':Out L.cls W σ f H ((((rd1 a en (L.ev a en)).bind fun x=>(truR x).bind fun t=>v1 (.bool (!t))).bind fun p=>R.ok p.1).bind truR) _:=ot;have e:((((rd1 a en (L.ev a en)).bind fun x=>(truR x).bind fun t=>v1 (.bool (!t))).bind fun p=>R.ok p.1).bind truR)=(evT L.G L.c (dflT L.T) a en).bind fun t => .ok (!t):=by
  show _=((rd1 a en (L.ev a en)).bind truR).bind fun t => .ok (!t);cases rd1 a en (L.ev a en) with
  | ok d=>show (((truR d).bind fun t=>v1 (.bool (!t))).bind fun p=>R.ok p.1).bind truR=(truR d).bind fun t => .ok (!t);cases truR d <;> rfl
  | ex k=>rfl
  | no=>rfl
 rw [e] at ot';exact ⟨f0,H0,f,en,m,ot'.bind.imp (Po.refl m.po.sub) fun t _ h1 f1 H1 q1=>h1 f1 H1 q1⟩
theorem impT_ife {t a b:E} {σ:L2.St} {H:Hp} {Q:Bool→Hp→Prop} (h:dT L K W (.ife t a b) σ H Q):dT L K W t σ H fun c H1=>if c=true then dT L K W a σ H1 Q else dT L K W b σ H1 Q:=by
 obtain ⟨f0,H0,f,en,m,ot⟩:=h;have ot':Out L.cls W σ f H ((((rd1 t en (L.ev t en)).bind fun x=>(truR x).bind fun k=>if k then L.ev a en else L.ev b en).bind fun p=>R.ok p.1).bind truR) _:=ot;have two:∀x:E,((L.ev x en).bind fun p=>R.ok p.1).bind truR ≠ .no→((L.ev x en).bind fun p=>R.ok p.1).bind truR=evT L.G L.c (dflT L.T) x en:=fun x hx=>by
  cases ex:L.ev x en with
  | no=>rw [ex] at hx;exact absurd rfl hx
  | ex k=>rw [evT_ex ex];rfl
  | ok p=>rw [evT_ev ex];rfl
 have e:((((rd1 t en (L.ev t en)).bind fun x=>(truR x).bind fun k=>if k then L.ev a en else L.ev b en).bind fun p=>R.ok p.1).bind truR)=(evT L.G L.c (dflT L.T) t en).bind fun k=>((if k then L.ev a en else L.ev b en).bind fun p=>R.ok p.1).bind truR:=by
  show _=((rd1 t en (L.ev t en)).bind truR).bind _;cases rd1 t en (L.ev t en) with
  | ok d=>show (((truR d).bind fun k=>if k then L.ev a en else L.ev b en).bind fun p=>R.ok p.1).bind truR=(truR d).bind _;cases truR d <;> rfl
  | ex k=>rfl
  | no=>rfl
 rw [e] at ot';refine ⟨f0,H0,f,en,m,ot'.bind.imp (Po.refl m.po.sub) fun k _ h1 f1 H1 q1=>?_⟩;cases k with
 | true =>
  rw [if_pos rfl] at h1;rw [if_pos rfl];have h2:=h1;rw [two a h1.ne] at h2;exact ⟨f0,H0,f1,en,m.mono q1,h2.imp q1 fun p' _ k f' H' q'=>k f' H' (q1.trans q')⟩
 | false =>
  rw [if_neg Bool.false_ne_true] at h1;rw [if_neg Bool.false_ne_true];have h2:=h1;rw [two b h1.ne] at h2;exact ⟨f0,H0,f1,en,m.mono q1,h2.imp q1 fun p' _ k f' H' q'=>k f' H' (q1.trans q')⟩
theorem imp_chn {o p:O2} {op:CmpOp} (hc:cmpOf o op=true) {a b z:E} {σ H Q} (h:dV L K W (.chn o p a b z) σ H Q):tChain (rO2 K o) (rO2 K p) (dR L K W a) (dR L K W b) (dR L K W z) σ H Q:=by
 obtain ⟨f0,H0,f,en,m,ot⟩:=h;have o1:=Out.bind (show Out L.cls W σ f H ((rd1 a en (L.ev a en)).bind fun x=>(rd1 b en (L.ev b en)).bind fun y=>(sem2 o x y).bind fun r=>(match r.1 with
  | .bool true=>(rd1 z en (L.ev z en)).bind fun w=>sem2 p y w
  | .bool false=>v1 (.bool false)
  | _ => .no)) (Ac K f H Q) from ot)
 refine ⟨f0,H0,f,en,m,o1.imp (Po.refl m.po.sub) fun dx _ h1 v f1 H1 q1 hv=>?_⟩;refine ⟨f0,H0,f1,en,m.mono q1,h1.bind.imp q1 fun dy _ h2 u f2 H2 q2 hu=>?_⟩;obtain ⟨r,e,h3⟩:=h2.bind.okk (sem2_noex _ _ _);obtain ⟨k,rfl⟩:=cmp_bool hc e;refine ⟨f2,dx,dy,_,q2.sub,hv.mono q2,hu,e,fun w f3 H3 q3 hw=>?_⟩;cases (show Dp K f3 w (.bool k) from hw);refine ⟨k,rfl,?_⟩;have q13:=(q1.trans q2).trans q3;cases k with
 | true =>
  rw [if_pos rfl];have h4:Out L.cls W σ f H ((rd1 z en (L.ev z en)).bind fun w=>sem2 p dy w) (Ac K f H Q):=h3;refine ⟨f0,H0,f3,en,m.mono q13,h4.bind.imp q13 fun dw _ h5 w' f4 H4 q4 hw'=>?_⟩;obtain ⟨r,e,k⟩:=h5.okk (sem2_noex _ _ _);exact ⟨f4,dy,dw,r,q4.sub,(hu.mono q3).mono q4,hw',e,k.mono (q13.trans q4)⟩
 | false =>
  rw [if_neg Bool.false_ne_true];exact h3 _ f3 H3 q13 (.bl false)
end
end AW
namespace AW
open PySem PySem.Spec PyProof.Rows L2
variable [CdT] [StA]
section
variable {L:Lk} {N:List Str} {sc:Nms} {W:WX} {X:Cx} {K:PySem.W.Frag}
theorem evs_cons {e:E} {r:Es} {σ H Q} (h:dVs L K W (.cons e r) σ H Q):tCons (dV L K W e) (dVs L K W r) σ H Q:=by
 obtain ⟨f0,H0,f,en,m,ot⟩:=h;have o1:=Out.bind (show Out L.cls W σ f H ((L.ev e en).bind fun x=>(evs L.G L.c (dflT L.T) r en).bind fun xs=>R.ok (x.1::xs)) _ from ot);refine ⟨f0,H0,f,en,m,o1.imp (Po.refl m.po.sub) fun p _ h1 v f1 H1 q1 hv=>?_⟩;obtain ⟨f2,q2,hv2⟩:=hv.settle q1;refine ⟨f0,H0,f2,en,m.mono q2,h1.bind.imp q2 fun ds _ h2 vs f3 H3 q3 hvs=>?_⟩;exact h2 (v::vs) f3 H3 (q2.trans q3) (.cons (dp_same q3.sf hv2) hvs)
theorem evs_nil {σ:L2.St} {H:Hp} {Q:List V→Hp→Prop} (h:dVs L K W .nil σ H Q):tNil σ H Q:=by
 obtain ⟨f0,H0,f,en,m,ot⟩:=h;have ot':∀vs f' H',Po f H f' H'→DpAll K f' vs []→Q vs H':=ot;exact ot' [] f H (Po.refl m.po.sub) .nil
theorem evAs_cons {e:E} {r:Es} {σ H Q} (h:dAs L K W (.cons e r) σ H Q):tCons (dA L K W e) (dAs L K W r) σ H Q:=by
 obtain ⟨f0,H0,f,en,m,ot⟩:=h;have o1:=Out.bind (show Out L.cls W σ f H ((arg1 e en (L.ev e en)).bind fun x=>(evAs L.G L.c (dflT L.T) r en).bind fun xs=>R.ok (x::xs)) _ from ot);refine ⟨f0,H0,f,en,m,o1.imp (Po.refl m.po.sub) fun s _ h1 v f1 H1 q1 hv=>?_⟩;refine ⟨f0,H0,f1,en,m.mono q1,h1.bind.imp q1 fun ss _ h2 vs f3 H3 q3 hvs=>?_⟩;exact h2 (v::vs) f3 H3 (q1.trans q3) (.cons (hv.mono q3) hvs)
theorem evAs_nil {σ:L2.St} {H:Hp} {Q:List V→Hp→Prop} (h:dAs L K W .nil σ H Q):tNil σ H Q:=by
 obtain ⟨f0,H0,f,en,m,ot⟩:=h;have ot':∀vs f' H',Po f H f' H'→ArgsOk K f' H' vs []→Q vs H':=ot;exact ot' [] f H (Po.refl m.po.sub) .nil
theorem star_of {T:List Fn} {cs:List (Str×D)} {cl:List Str} {x:E} {e:Expr} (h:ckE T cs cl N sc x e=true) (es:List Expr):starEach (e::es) X.env=(false,eval e X.env)::starEach es X.env:=by
 cases e with
 | Starred v p=>cases x <;> cases h
 | _=>rfl
theorem stars_of {T:List Fn} {cs:List (Str×D)} {cl:List Str} {pos:Pos}:∀{xs:Es} {es:List Expr},ckEs T cs cl N sc xs es=true→(backTo pos (starEach es X.env)).any (·.1)=false
 | .nil,[],_=>rfl
 | .nil,_::_,h=>by cases h
 | .cons x r,[],h=>by cases h
 | .cons x r,e::es,h=>by
  have h':(ckE T cs cl N sc x e&&ckEs T cs cl N sc r es)=true:=h;rw [Bool.and_eq_true] at h';rw [star_of h'.1];show ((backTo pos (starEach es X.env)).any (·.1))=false;exact stars_of h'.2
theorem imp_tup {es:Es} {σ H Q} (h:dV L K W (.tup es) σ H Q):tTup (dVs L K W es) σ H Q:=by
 obtain ⟨f0,H0,f,en,m,ot⟩:=h;have o1:=Out.bind (show Out L.cls W σ f H ((evs L.G L.c (dflT L.T) es en).bind fun ds=>if ds.length≤line then v1 (PyData.tuple ds) else .no) (Ac K f H Q) from ot);refine ⟨f0,H0,f,en,m,o1.imp (Po.refl m.po.sub) fun ds _ h1 vs f1 H1 q1 hvs=>?_⟩;by_cases hz:ds.length≤line
 ·rw [if_pos hz] at h1;exact ⟨by rw [hvs.length,←line_eq];exact hz,fun p hp=>(Ac.mono q1 h1).newT q1.sub hvs hp⟩
 ·rw [if_neg hz] at h1;exact h1.elim
theorem imp_lst {es:Es} {σ H Q} (h:dV L K W (.lst es) σ H Q):tLst (dVs L K W es) σ H Q:=by
 obtain ⟨f0,H0,f,en,m,ot⟩:=h;have o1:=Out.bind (show Out L.cls W σ f H ((evs L.G L.c (dflT L.T) es en).bind fun ds=>if ds.length≤line then R.ok (PyData.list ds,true) else .no) (Ac K f H Q) from ot);refine ⟨f0,H0,f,en,m,o1.imp (Po.refl m.po.sub) fun ds _ h1 vs f1 H1 q1 hvs=>?_⟩;by_cases hz:ds.length≤line
 ·rw [if_pos hz] at h1;exact ⟨by rw [hvs.length,←line_eq];exact hz,fun p hp=>(Ac.mono q1 h1).newL q1.sub hvs hp⟩
 ·rw [if_neg hz] at h1;exact h1.elim
theorem imp_rep {es:Es} {n:E} {σ H Q} (h:dV L K W (.rep es n) σ H Q):tOp rRep (tLst (dVs L K W es)) (dV L K W n) σ H Q:=by
 obtain ⟨f0,H0,f,en,m,ot⟩:=h;have o1:=Out.bind (show Out L.cls W σ f H ((evs L.G L.c (dflT L.T) es en).bind fun ds=>if ds.length≤line then (L.ev n en).bind fun x=>(intR x.1).bind fun k=>if -1000000≤k∧k≤1000000∧ds.length*k.toNat≤line then R.ok (PyData.list (List.replicate k.toNat ds).flatten,true) else .no else .no) (Ac K f H Q) from ot);refine ⟨f0,H0,f,en,m,o1.imp (Po.refl m.po.sub) fun ds _ h1 vs f1 H1 q1 hvs=>?_⟩;by_cases hz:ds.length≤line
 ·rw [if_pos hz] at h1;refine ⟨by rw [hvs.length,←line_eq];exact hz,fun p hp=>?_⟩;have q2:=q1.newH (o := .lst vs) hp;refine ⟨f0,H0,f1,en,m.mono q2,h1.bind.imp q2 fun x _ h2 v f3 H3 q3 hv=>?_⟩;obtain ⟨k,e,h3⟩:=h2.bind.okk (intR_noex _);have ex:x.1 = .int k:=by
   cases hx:x.1 with
   | int i=>rw [hx] at e;cases e;rfl
   | _=>rw [hx] at e;cases e
  have hv':v = .int k:=by
   have:=hv.read;rw [ex] at this;exact this.int
  by_cases hk : -1000000≤k∧k≤1000000∧ds.length*k.toNat≤line
  ·rw [if_pos hk] at h3;refine ⟨p,k,vs,rfl,hv',q3.sH.k upd_same,by omega,by omega,by rw [hvs.length,←line_eq];exact hk.2.2,fun r hr=>?_⟩;exact (Ac.mono (q2.trans q3) h3).newL q3.sub ((dpa_same q3.sf hvs).rep k.toNat) hr
  ·rw [if_neg hk] at h3;exact h3.elim
 ·rw [if_neg hz] at h1;exact h1.elim
theorem semRev_noex (d:D) (k:Nat):semRev d ≠ .ex k:=by cases d <;> first | exact no_noex k | exact ok_noex k | exact v1_noex
theorem semRep_noex (x:D×Bool) (i:Int) (k:Nat):semRep x i ≠ .ex k:=by
 obtain ⟨d,b⟩:=x;cases d <;> cases b <;> first
  | exact no_noex k
  | exact ite_noex ok_noex no_noex k
theorem imp_repE {a n:E} {σ H Q} (h:dV L K W (.repE a n) σ H Q):tOp rRep (dV L K W a) (dV L K W n) σ H Q:=by
 obtain ⟨f0,H0,f,en,m,ot⟩:=h;have o1:=Out.bind (show Out L.cls W σ f H ((L.ev a en).bind fun x=>(L.ev n en).bind fun y=>(intR y.1).bind fun k=>semRep x k) (Ac K f H Q) from ot);refine ⟨f0,H0,f,en,m,o1.imp (Po.refl m.po.sub) fun x _ h1 v f1 H1 q1 hv=>?_⟩;obtain ⟨d,b⟩:=x;refine ⟨f0,H0,f1,en,m.mono q1,h1.bind.imp q1 fun y _ h2 u f3 H3 q3 hu=>?_⟩;obtain ⟨k,e,h3⟩:=h2.bind.okk (intR_noex _);obtain ⟨p,e2,kk⟩:=h3.okk (semRep_noex _ _);have ex:y.1 = .int k:=by
  cases hx:y.1 with
  | int i=>rw [hx] at e;cases e;rfl
  | _=>rw [hx] at e;cases e
 have hv':u = .int k:=by
  have:=hu.read;rw [ex] at this;exact this.int
 cases b with
 | false=>cases d <;> cases e2
 | true =>
  obtain ⟨ds,p',vs,rfl,rfl,g1,g2,g3,g4⟩:=hv;have e2':(if -1000000≤k∧k≤1000000∧ds.length*k.toNat≤line then R.ok (PyData.list (List.replicate k.toNat ds).flatten,true) else .no) = .ok p:=e2;by_cases hk : -1000000≤k∧k≤1000000∧ds.length*k.toNat≤line
  ·rw [if_pos hk] at e2';cases e2';refine ⟨p',k,vs,rfl,hv',q3.sH.k g3,by omega,by omega,by rw [g4.length,←line_eq];exact hk.2.2,fun r hr=>?_⟩;exact (Ac.mono (q1.trans q3) kk).newL q3.sub ((dpa_same q3.sf g4).rep k.toNat) hr
  ·rw [if_neg hk] at e2';cases e2'
theorem semTrev_noex (d:D) (k:Nat):semTrev d ≠ .ex k:=by cases d <;> first | exact no_noex k | exact v1_noex
theorem imp_trev {a:E} {σ H Q} (h:dV L K W (.trev a) σ H Q):RT.tTupRev K (dR L K W a) σ H Q:=by
 obtain ⟨f0,H0,f,en,m,ot⟩:=h;have o1:=Out.bind (show Out L.cls W σ f H ((rd1 a en (L.ev a en)).bind semTrev) (Ac K f H Q) from ot);refine ⟨f0,H0,f,en,m,o1.imp (Po.refl m.po.sub) fun d _ h1 v f1 H1 q1 hv=>?_⟩;obtain ⟨p,e,k⟩:=h1.okk (semTrev_noex _);cases d <;> first
  | (cases e;done)
  | skip
 case list xs =>
  cases e;obtain ⟨b,vs,rfl,ha,ra⟩:=hv.list q1.sub;exact ⟨b,vs,rfl,ha,fun r hr=>(Ac.mono q1 k).newT q1.sub ra.reverse hr⟩
theorem imp_revs {a:E} {σ H Q} (h:dV L K W (.revs a) σ H Q):tRevA K (dR L K W a) σ H Q:=by
 obtain ⟨f0,H0,f,en,m,ot⟩:=h;have o1:=Out.bind (show Out L.cls W σ f H ((rd1 a en (L.ev a en)).bind semRev) (Ac K f H Q) from ot);refine ⟨f0,H0,f,en,m,o1.imp (Po.refl m.po.sub) fun d _ h1 v f1 H1 q1 hv=>?_⟩;obtain ⟨p,e,k⟩:=h1.okk (semRev_noex _);cases d <;> first
  | (cases e;done)
  | skip
 case list xs =>
  cases e;obtain ⟨b,vs,rfl,ha,ra⟩:=hv.list q1.sub;exact ⟨b,vs,rfl,.inl ⟨ha,fun r hr=>(Ac.mono q1 k).newL q1.sub ra.reverse hr⟩⟩
 case tuple xs =>
  cases e;obtain ⟨b,vs,rfl,hfa,ha,ra⟩:=hv.tup q1.sub;exact ⟨b,vs,rfl,.inr ⟨ha,fun r hr=>(Ac.mono q1 k).newT q1.sub ra.reverse hr⟩⟩
theorem impO_none {σ:L2.St} {H:Hp} {Q:Option Int→Hp→Prop} (h:dO L K W .none σ H Q):tNoPart σ H Q:=by
 obtain ⟨f0,H0,f,en,m,ot⟩:=h;have ot':∀f' H',Po f H f' H'→Q none H':=ot;exact ot' f H (Po.refl m.po.sub)
theorem impO_some {e:E} {σ:L2.St} {H:Hp} {Q:Option Int→Hp→Prop} (h:dO L K W (.some e) σ H Q):tPart (dV L K W e) σ H Q:=by
 obtain ⟨f0,H0,f,en,m,ot⟩:=h;have o1:=Out.bind (show Out L.cls W σ f H ((L.ev e en).bind fun x=>(intR x.1).bind fun i=>R.ok (some i)) _ from ot);refine ⟨f0,H0,f,en,m,o1.imp (Po.refl m.po.sub) fun p _ h1 v f1 H1 q1 hv=>?_⟩;obtain ⟨i,e',h2⟩:=h1.bind.okk (intR_noex _);have hv2:=hv.read;cases hp:p.1 with
 | int j =>
  rw [hp] at e' hv2;cases e';exact ⟨_,hv2.int,h2 f1 H1 q1⟩
 | _=>rw [hp] at e';cases e'
theorem imp_slc {a:E} {lo hi:Eo} {σ H Q} (h:dV L K W (.slc a lo hi) σ H Q):tSl (rSl K) (dR L K W a) (dO L K W lo) (dO L K W hi) σ H Q:=by
 obtain ⟨f0,H0,f,en,m,ot⟩:=h;have o1:=Out.bind (show Out L.cls W σ f H ((rd1 a en (L.ev a en)).bind fun x=>(evO L.G L.c (dflT L.T) lo en).bind fun l=>(evO L.G L.c (dflT L.T) hi en).bind fun h=>semSl x l h) (Ac K f H Q) from ot);refine ⟨f0,H0,f,en,m,o1.imp (Po.refl m.po.sub) fun dx _ h1 v f1 H1 q1 hv=>?_⟩;refine ⟨f0,H0,f1,en,m.mono q1,h1.bind.imp q1 fun l _ h2 f2 H2 q2=>?_⟩;refine ⟨f0,H0,f2,en,m.mono (q1.trans q2),h2.bind.imp (q1.trans q2) fun hh _ h3 f3 H3 q3=>?_⟩;obtain ⟨p,e,k⟩:=h3.okk (semSl_noex _ _ _);exact ⟨f3,dx,p,q3.sub,(hv.mono q2).mono q3,e,k.mono ((q1.trans q2).trans q3)⟩
theorem imp_call {j m:Nat} {es:Es} {dvs:List V} {σ H Q} (hd:∀H,DpAll K H dvs (dflT L.T j m)) (h:dV L K W (.call j es m) σ H Q):tCallSD (L.sp K j) dvs (WE W) (dAs L K W es) σ H Q:=by
 obtain ⟨f0,H0,f,en,mt,ot⟩:=h;have o1:=Out.bind (show Out L.cls W σ f H ((evAs L.G L.c (dflT L.T) es en).bind fun ss=>L.c j (ss++(dflT L.T j m).map .va)) (Ac K f H Q) from ot);refine ⟨f0,H0,f,en,mt,o1.imp (Po.refl mt.po.sub) fun ss _ h1 vs f1 H1 q1 hvs=>?_⟩;refine ⟨f1,ss++(dflT L.T j m).map .va,q1.sub,(mt.mono q1).ct,hvs.append (hd f1),.inl ?_⟩;cases e:L.c j (ss++(dflT L.T j m).map .va) with
 | ok p =>
  rw [e] at h1;exact Ac.mono q1 h1
 | ex k =>
  rw [e] at h1;exact fun f' H' q'=>h1 f' H' (q1.trans q')
 | no =>
  rw [e] at h1;exact h1
def tCallN (L:Lk) (K:PySem.W.Frag) (i:Nat) (cs:List (Str×Nat)) (E:L2.St→XK) (t:TA):TE:=fun σ H Q=>∃n j,cs.lookup n=some j∧σ[i]?=some (some (.ref (He.ga K n)))∧t σ H fun vs H1=>L.sp K j vs H1 Q (E σ)
theorem imp_callL {i:Nat} {cs:List (Str×Nat)} {es:Es} {σ H Q} (h:dV L K W (.callL i cs es) σ H Q):tCallN L K i cs (WE W) (dAs L K W es) σ H Q:=by
 obtain ⟨f0,H0,f,en,mt,ot⟩:=h;have ot:Out L.cls W σ f H (match en[i]? with
  | some (.fn n)=>(match cs.lookup n with
   | some j=>(evAs L.G L.c (dflT L.T) es en).bind fun ss=>L.c j ss
   | none => .no)
  | _ => .no) (Ac K f H Q):=ot
 cases e:en[i]? with
 | none=>rw [e] at ot;exact ot.elim
 | some s =>
  rw [e] at ot;cases s with
  | fn n =>
   have ot:Out L.cls W σ f H (match cs.lookup n with
    | some j=>(evAs L.G L.c (dflT L.T) es en).bind fun ss=>L.c j ss
    | none => .no) (Ac K f H Q):=ot
   cases ej:cs.lookup n with
   | none=>rw [ej] at ot;exact ot.elim
   | some j =>
    rw [ej] at ot;have o1:=Out.bind (show Out L.cls W σ f H ((evAs L.G L.c (dflT L.T) es en).bind fun ss=>L.c j ss) (Ac K f H Q) from ot);refine ⟨n,j,ej,mt.fn e,f0,H0,f,en,mt,o1.imp (Po.refl mt.po.sub) fun ss _ h1 vs f1 H1 q1 hvs=>?_⟩;refine ⟨f1,ss,q1.sub,(mt.mono q1).ct,hvs,.inl ?_⟩;cases e2:L.c j ss with
    | ok p =>
     rw [e2] at h1;exact Ac.mono q1 h1
    | ex k =>
     rw [e2] at h1;exact fun f' H' q'=>h1 f' H' (q1.trans q')
    | no =>
     rw [e2] at h1;exact h1
  | un=>exact ot.elim
  | va d=>exact ot.elim
  | ow d=>exact ot.elim
  | rd d=>exact ot.elim
  | er d=>exact ot.elim
  | dk d=>exact ot.elim
  | fd d=>exact ot.elim
  | dj d=>exact ot.elim
  | st d=>exact ot.elim
open Classical in
noncomputable def lent (f H:Hp) (B:Addr→Prop):Hp:=fun a=>if B a then H a else f a
section
variable {f H:Hp} {B:Addr→Prop}
theorem lent_same (s:Same f H):Same f (lent f H B):=fun a o e=>by
 unfold lent;by_cases h:B a
 ·rw [if_pos h];exact s a o e
 ·rw [if_neg h];exact e
theorem lent_sub (s:Same f H):Same (lent f H B) H:=fun a o e=>by
 unfold lent at e;by_cases h:B a
 ·rw [if_pos h] at e;exact e
 ·rw [if_neg h] at e;exact s a o e
theorem lent_mono {B':Addr→Prop} (s:Same f H) (h:∀a,B a→B' a):Same (lent f H B) (lent f H B'):=fun a o e=>by
 unfold lent at *
 by_cases hb:B a
 ·rw [if_pos hb] at e;rw [if_pos (h a hb)];exact e
 ·rw [if_neg hb] at e;by_cases hb':B' a
  ·rw [if_pos hb'];exact s a o e
  ·rw [if_neg hb'];exact e
end
theorem argsOk_same {K:PySem.W.Frag} {f H f':Hp} (e:Same f f'):∀{vs:List V} {ss:List Sl},ArgsOk K f H vs ss→ArgsOk K f' H vs ss
 | _,_,.nil => .nil
 | _,_,.cons h t => .cons (by
  cases h with
  | va h=>exact .va (dp_same e h)
  | rd hH h=>exact .rd hH (dpa_same e h)
  | er hH=>exact .er hH
  | fn=>exact .fn) (argsOk_same e t)
theorem args_asV {K:PySem.W.Frag} {f H:Hp} (s:Same f H):∀{vs:List V} {ss:List Sl},ArgsOk K f H vs ss→∃B:Addr→Prop,(∀a,B a→∃xs,Rd H a (.lst xs))∧ArgsOk K (lent f H B) H vs (asV ss)
 | _,_,.nil=>⟨fun _=>False,fun _ h=>h.elim,.nil⟩
 | _,_,.cons (v:=v) h t=>by
  obtain ⟨B,hB,ht⟩:=args_asV s t;cases h with
  | va h=>exact ⟨B,hB,.cons (.va (dp_same (lent_same s) h)) ht⟩
  | er hH=>exact ⟨B,hB,.cons (.er hH) ht⟩
  | fn=>exact ⟨B,hB,.cons .fn ht⟩
  | rd hH h =>
   rename_i p ws ds;let B':Addr→Prop:=fun a=>B a∨(a=p∧∃xs,Rd H a (.lst xs))
   have hm:∀a,B a→B' a:=fun a h => .inl h;refine ⟨B',fun a ha=>?_,.cons (.va (.lst ?_ (dpa_same (lent_same s) h))) ?_⟩
   ·rcases ha with ha | ⟨_,ha⟩
    ·exact hB a ha
    ·exact ha
   ·rcases hH with hH | hH
    ·have hp:B' p := .inr ⟨rfl,_,hH⟩;refine .inl ?_;have e:lent f H B' p=H p:=by unfold lent;rw [if_pos hp]
     unfold Rd;rw [e];exact hH
    ·exact .inr hH
   ·exact argsOk_same (lent_mono s hm) ht
theorem lent_nt {f H:Hp} {B:Addr→Prop} (hB:∀a,B a→∃xs,Rd H a (.lst xs)) (n:∀b ps,f b≠some (.tbl ps)):∀b ps,lent f H B b≠some (.tbl ps):=fun b ps e=>by
 unfold lent at e;by_cases hb:B b
 ·rw [if_pos hb] at e;obtain ⟨xs,h⟩:=hB b hb;rcases h with h | ⟨o,h⟩ <;> rw [e] at h <;> cases h
 ·rw [if_neg hb] at e;exact n b ps e
theorem unlent {K:PySem.W.Frag} {f H f' H':Hp} {B:Addr→Prop} (s:Same f H) (hB:∀a,B a→∃xs,Rd H a (.lst xs)) (q:Po (lent f H B) H f' H'):∃f'',Po f H f'' H'∧(∀a,f' a=none→f'' a=none)∧∀{d:D} {v:V},noL d=true→Dp K f' v d→Dp K f'' v d:=by
 let f'':Hp:=open Classical in fun a=>if B a∧f a=none then none else f' a
 have e1:∀a,¬(B a∧f a=none)→f'' a=f' a:=fun a h=>by show (open Classical in if B a∧f a=none then none else f' a)=_;rw [if_neg h]
 have e2:∀a o,f'' a=some o→f' a=some o∧¬(B a∧f a=none):=fun a o h=>by
  have h:(open Classical in if B a∧f a=none then none else f' a)=some o:=h;by_cases z:B a∧f a=none
  ·rw [if_pos z] at h;cases h
  ·rw [if_neg z] at h;exact ⟨h,z⟩
 refine ⟨f'',⟨q.sH,fun a o e=>?_,fun a o e=>q.sub a o (e2 a o e).1,fun a o e=>?_,fun n b ps e=>?_,q.tab⟩,fun a h=>?_,?_⟩
 ·rw [e1 a (fun z=>by rw [z.2] at e;cases e)];exact q.sf a o (lent_same s a o e)
 ·obtain ⟨h1,h2⟩:=e2 a o e;rcases q.gro a o h1 with h | h
  ·left
   unfold lent at h;by_cases hb:B a
   ·rw [if_pos hb] at h;cases hf:f a with
    | none=>exact absurd ⟨hb,hf⟩ h2
    | some o'=>rw [s a o' hf] at h;exact h
   ·rw [if_neg hb] at h;exact h
  ·exact .inr h
 ·exact q.nt (lent_nt hB n) b ps (e2 b _ e).1
 ·cases z:f'' a with
  | none=>rfl
  | some o=>rw [(e2 a o z).1] at h;cases h
 ·have key:∀{a:Addr} {xs:List V},SqT K f' a xs→SqT K f'' a xs:=fun {a xs} h=>by
   rcases h with h | h
   ·have hn:¬(B a∧f a=none):=fun z=>by
     obtain ⟨ys,hy⟩:=hB a z.1;have hl:lent f H B a=H a:=by unfold lent;rw [if_pos z.1]
     rcases hy with hy | ⟨o,hy⟩
     ·have:=q.sf a _ (hl.trans hy);rcases h with h | ⟨o',h⟩ <;> rw [this] at h <;> cases h
     ·have:=q.sf a _ (hl.trans hy);rcases h with h | ⟨o',h⟩ <;> rw [this] at h <;> cases h
    refine .inl ?_;unfold Rd;rw [e1 a hn];exact h
   ·exact .inr h
  intro d v hd h;have go:(∀(d:D) (v:V),noL d=true→Dp K f' v d→Dp K f'' v d):=fun d=>by
   refine PyData.rec (motive_1:=fun d=>∀v,noL d=true→Dp K f' v d→Dp K f'' v d) (motive_2:=fun ds=>∀vs,noLs ds=true→DpAll K f' vs ds→DpAll K f'' vs ds) (motive_3:=fun _=>True) (motive_4:=fun _=>True)
    ?_ ?_ ?_ ?_ ?_ ?_ ?_ ?_ ?_ ?_ ?_ ?_ d
   ·intro v _ h;cases h;exact .non
   ·intro b v _ h;cases h;exact .bl _
   ·intro i v _ h;cases h;exact .int _
   ·intro x v _ h;cases h;exact .str _
   ·intro xs _ v hn;cases hn
   ·intro xs ih v hn h;cases h with
    | tup hs ha=>exact .tup (key hs) (ih _ hn ha)
   ·intro kvs _ v hn;cases hn
   ·intro vs _ h;cases h;exact .nil
   ·intro d ds i1 i2 vs hn h;have hn:(noL d&&noLs ds)=true:=hn;rw [Bool.and_eq_true] at hn;cases h with
    | cons a b=>exact .cons (i1 _ hn.1 a) (i2 _ hn.2 b)
   ·trivial
   ·intros;trivial
   ·intros;trivial
  exact go d v hd h
theorem imp_callv {j m:Nat} {es:Es} {dvs:List V} {σ H Q} (hd:∀H,DpAll K H dvs (dflT L.T j m)) (h:dV L K W (.callv j es m) σ H Q):tCallSD (L.sp K j) dvs (WE W) (dAs L K W es) σ H Q:=by
 obtain ⟨f0,H0,f,en,mt,ot⟩:=h;have o1:=Out.bind (show Out L.cls W σ f H ((evAs L.G L.c (dflT L.T) es en).bind fun ss=>(L.c j (asV ss++(dflT L.T j m).map .va)).bind fun p=>if p.2=false∧noL p.1=true then .ok p else .no) (Ac K f H Q) from ot);refine ⟨f0,H0,f,en,mt,o1.imp (Po.refl mt.po.sub) fun ss _ h1 vs f1 H1 q1 hvs=>?_⟩;obtain ⟨B,hB,ha⟩:=args_asV q1.sub hvs;refine ⟨lent f1 H1 B,asV ss++(dflT L.T j m).map .va,lent_sub q1.sub,⟨(mt.mono q1).ct.1,lent_nt hB (mt.mono q1).ct.2⟩,ha.append (hd _),.inl ?_⟩;cases e:L.c j (asV ss++(dflT L.T j m).map .va) with
 | ok p =>
  rw [e] at h1;have h1:Out L.cls W σ f H (if p.2=false∧noL p.1=true then R.ok p else .no) (Ac K f H Q):=h1;by_cases hp:p.2=false∧noL p.1=true
  ·rw [if_pos hp] at h1;have h2:=Ac.mono q1 (show Ac K f H Q p from h1);intro v f' H' q' hv;obtain ⟨f'',q'',_,un⟩:=unlent (K:=K) q1.sub hB q';rw [hp.1] at hv;refine h2 v f'' H' q'' ?_;rw [hp.1];exact un hp.2 hv
  ·rw [if_neg hp] at h1;exact h1.elim
 | ex k =>
  rw [e] at h1;intro f' H' q';obtain ⟨f'',q'',_,_⟩:=unlent (K:=K) q1.sub hB q';exact h1 f'' H' (q1.trans q'')
 | no =>
  rw [e] at h1;exact h1
theorem tyx_of {f' H':Hp} {v:V} {d:D} (s:Same f' H') (h:Vr K f' H' v d):∃t:String,TyX K H' v (.type t)∧∀n:String,(n = "int" ∨ n = "bool" ∨ n = "str" ∨ n = "tuple" ∨ n = "list")→kitB t n=some (isTy d (.bi n)):=by
 have seq:∀{p:Addr} {vs:List V},SqL K H' p vs→TyX K H' (.ref p) (.type "list"):=fun {p vs} hs=>by
  rcases hs with (hs | ⟨o,hs⟩) | ⟨o,its,n,hk,hc,_⟩
  ·exact .base (.lst hs)
  ·exact .base (.frz hs)
  ·exact .kList hk hc
 have tup:∀{p:Addr} {vs:List V},SqT K H' p vs→TyX K H' (.ref p) (.type "tuple"):=fun {p vs} hs=>by
  rcases hs with (hs | ⟨o,hs⟩) | ⟨o,its,n,hk,hc,_⟩
  ·exact .base (.tup hs)
  ·exact .fTuple hs
  ·exact .kTuple hk hc
 cases d with
 | none=>exact ⟨"NoneType", by rw [h.non];exact .base .non,fun n hn=>by rcases hn with rfl | rfl | rfl | rfl | rfl <;> first | exact (show kitB _ _=some (_==_) from by decide +kernel) | exact (show kitB _ _=some (_==_||_==_) from by decide +kernel)⟩
 | bool b=>exact ⟨"bool", by rw [h.bool];exact .base (.bl b),fun n hn=>by rcases hn with rfl | rfl | rfl | rfl | rfl <;> cases b <;> decide +kernel⟩
 | int i=>exact ⟨"int", by rw [h.int];exact .base (.int i),fun n hn=>by rcases hn with rfl | rfl | rfl | rfl | rfl <;> first | exact (show kitB _ _=some (_==_) from by decide +kernel) | exact (show kitB _ _=some (_==_||_==_) from by decide +kernel)⟩
 | str x=>exact ⟨"str", by rw [h.str];exact .base (.str x),fun n hn=>by rcases hn with rfl | rfl | rfl | rfl | rfl <;> first | exact (show kitB _ _=some (_==_) from by decide +kernel) | exact (show kitB _ _=some (_==_||_==_) from by decide +kernel)⟩
 | list xs =>
  obtain ⟨p,vs,rfl,hs,_⟩:=h.list s;exact ⟨"list", seq hs,fun n hn=>by rcases hn with rfl | rfl | rfl | rfl | rfl <;> first | exact (show kitB _ _=some (_==_) from by decide +kernel) | exact (show kitB _ _=some (_==_||_==_) from by decide +kernel)⟩
 | tuple xs =>
  obtain ⟨p,vs,rfl,_,hs,_⟩:=h.tup s;exact ⟨"tuple", tup hs,fun n hn=>by rcases hn with rfl | rfl | rfl | rfl | rfl <;> first | exact (show kitB _ _=some (_==_) from by decide +kernel) | exact (show kitB _ _=some (_==_||_==_) from by decide +kernel)⟩
 | dict kvs =>
  rcases h with h | ⟨es,p,vs,e,_⟩
  ·cases h with
   | dcj h ha=>exact ⟨"dict", .base (.dK (s _ _ h)),fun n hn=>by rcases hn with rfl | rfl | rfl | rfl | rfl <;> first | exact (show kitB _ _=some (_==_) from by decide +kernel) | exact (show kitB _ _=some (_==_||_==_) from by decide +kernel)⟩
  ·cases e
end
end AW
namespace AW
open PySem PySem.Spec PyProof.Rows L2
variable [CdT] [StA]
theorem meets_enumerate_newT (l:Addr) (items:Array Value) :
  Meets (Builtin.«enumerate.__new__» ⟨[.type "enumerate", .ref l],[]⟩) (fun _ R s=>s.heap.IsTuple l items ∧
   R (.ok (.ret (.ref (s.heap.push { cls := .type "tuple_iterator", data := .fields #[.ref l,.int 0 0] }).objs.size)))
    { s with heap:=(s.heap.push { cls := .type "tuple_iterator", data := .fields #[.ref l,.int 0 0] }).push { cls := .type "enumerate", data := .fields #[.none,.bool false,.ref s.heap.objs.size,rawInt 0,.none,.none] } }) :=
 .of_wp fun prog w A R s h=>by
  obtain ⟨hp,g,d,tk,os⟩:=s;obtain ⟨h1,h⟩:=h
  have hsub:=sub_enumerate;have q1:∀{A':Around} {E:Value→Shared→Prop} {Q:Value→Shared→Prop},Q (.ref hp.objs.size) ⟨hp.push { cls := .type "tuple_iterator", data := .fields #[.ref l,.int 0 0] },g,d,tk,os⟩→wpAny (model prog w) A' (pyIter (.ref l)) Q E ⟨hp,g,d,tk,os⟩ :=
   fun q=>wpAny_pyIter_tuple h1 q
  obtain ⟨o,ho,_⟩:=id h1;wp_walk using AutoSeq1.wpAny_loadPart' ho
  refine wpAny_stack_any fun st=>wpAny_pure ?_;split
  ·rename_i c _ _ _ _ _;cases (c==Value.type "enumerate")
   ·wp_walk using AutoSeq1.wpAny_loadPart' ho,q1
    exact ⟨_,rfl,h⟩
   ·wp_walk using AutoSeq1.wpAny_loadPart' ho,q1
    exact ⟨_,rfl,h⟩
  ·wp_walk using AutoSeq1.wpAny_loadPart' ho,q1
   exact ⟨_,rfl,h⟩
theorem call_enumerate_tuple {prog:Program} {w:World} {A:Around} {E:Value→Shared→Prop} {s:Shared} {l:Addr} {items:Array Value} {Q:Value→Shared→Prop} (hL:s.heap.IsTuple l items)
  (h:∀h',IsEnum h' (s.heap.objs.size+1) s.heap.objs.size 0 .none→h'.IsTupleIter s.heap.objs.size l 0→h'.objs.size=s.heap.objs.size+2 →
   (∀b o,s.heap.get? b=some o→h'.get? b=some o)→Q (.ref (s.heap.objs.size+1)) { s with heap:=h' }) :
  wpAny (model prog w) A (call (.type "enumerate") [.ref l]) Q E s:=by
 refine callType_new F.called_enumerate (by decide) (F.typeCall_enumerate_1 _) (F.newCall_enumerate_1 _) (fun obj=>F.args_object_init_2 obj _) F.entry_enumerate_new
  (meets_enumerate_newT l items) ⟨hL,?_⟩
 have hz:(s.heap.push { cls := .type "tuple_iterator", data := .fields #[.ref l,.int 0 0] }).objs.size=s.heap.objs.size+1:=Heap.size_push ..;show _∧_;rw [hz];have he:IsEnum ((s.heap.push { cls := .type "tuple_iterator", data := .fields #[.ref l,.int 0 0] }).push
   { cls := .type "enumerate", data := .fields #[.none,.bool false,.ref s.heap.objs.size,rawInt 0,.none,.none] }) (s.heap.objs.size+1) s.heap.objs.size 0 .none:=by
  have:=Heap.get?_push_size (s.heap.push { cls := .type "tuple_iterator", data := .fields #[.ref l,.int 0 0] })
   (o:={ cls := .type "enumerate", data := .fields #[.none,.bool false,.ref s.heap.objs.size,rawInt 0,.none,.none] }) rfl
  rw [hz] at this;exact this
 refine ⟨⟨_,he,rfl⟩,h _ he ⟨_,Heap.get?_push_of_some _ (Heap.get?_push_size _ rfl),rfl,rfl⟩ (by rw [Heap.size_push,hz]) fun b o x=>Heap.get?_push_of_some _ (Heap.get?_push_of_some _ x)⟩
def IteT (K:PySem.W.Frag) (a:Addr):L2.It :=
 ⟨fun i H=>∃(xs:List V) (x:V),SqT K H a xs∧xs[i]?=some x,fun i H v H'=>∃T x,v = .ref T∧H T=none∧H'=upd H T (.tup [.int (i:Nat),x])∧∀xs,SqT K H a xs→xs[i]?=some x,fun i H=>∃xs:List V,SqT K H a xs∧xs.length=i⟩
theorem turn_enumT {P:Program} {w:World} {K:PySem.W.Frag} {elts:List Expr} {kk:Nat} {tpos:Pos} (a e it:Addr) :
  Turn P w K (.Tuple elts kk tpos) (IteT K a) [e,it] e (fun i h=>(∃old,IsEnum h e it ((i:Nat):Int) old)∧h.IsTupleIter it a i∧e≠it) where
 mem:=by simp
 obj:=fun i h st b hb=>by
  obtain ⟨⟨old,he⟩,⟨o,ho,hc,hd⟩,_⟩:=st;have e':b=e∨b=it:=by simpa using hb
  rcases e' with z | z
  ·rw [z];exact ⟨_,he,fun v q=>nomatch q⟩
  ·rw [z];exact ⟨o,ho,fun v q=>by rw [hd] at q;cases q⟩
 keep:=fun i h h' st k=>let ⟨⟨old,he⟩,hi,hne⟩:=st;⟨⟨old,k e (by simp) _ he⟩,hi.at fun o q=>k it (by simp) o q,hne⟩
 item:=by
  intro X hP hw hK hc i pins s σ H E I hf st hg;subst hP hw hK;obtain ⟨⟨old,he⟩,hit,hne⟩:=st;obtain ⟨xs,x,hq,hx⟩:=hg;obtain ⟨its,rv,p,hz⟩:=I.tuple hq;obtain ⟨u,hu,ru⟩:=rv.get hx;have hel:e<s.heap.objs.size:=Heap.lt_size he;have hil:it<s.heap.objs.size:=by obtain ⟨_,q,_⟩:=hit;exact Heap.lt_size q
  have hae:a≠e:=fun z=>by
   obtain ⟨o,ho,hcl,_⟩:=p;rw [z,he] at ho;cases ho;have hcl':Value.type "enumerate" = Value.type "tuple" := hcl;injection hcl' with q
   exact absurd q (by decide)
  have hai:a≠it:=fun z=>by
   obtain ⟨o,ho,hcl,_⟩:=p;obtain ⟨o',ho',hcl',_⟩:=hit;rw [z,ho'] at ho;cases ho;rw [hcl] at hcl';exact absurd hcl' (by decide)
  have hlt:i<its.toArray.size:=by
   obtain ⟨hl,_⟩:=List.getElem?_eq_some_iff.mp hu;simpa using hl
  have D:Draws X.prog X.w X.A.in1 it [it,a] its.toArray.size (fun i v=>its.toArray[i]?=some v) (fun i h=>h.IsTupleIter it a i∧h.IsTuple a its.toArray):=Draws.tuple (A:=X.A.in1) (show X.A.in1.handled=none from I.ok.hd hc) it a hai its.toArray;refine wpAny_pyNext_enum_itemD D he ⟨hit,p⟩ hlt hne (by simp [hne,Ne.symm hae]) fun y h' tk hy ho hst' hT hsz hk=>?_;have ey:y=u:=by
   have h1:its[i]?=some y:=by simpa using hy
   rw [hu] at h1;exact (Option.some.inj h1).symm
  subst ey;refine ⟨_,rfl,wpAny_letOwnedTupleGo_enum (s:={ s with heap:=h',toks:=tk+1 }) ho fun h'' he' sb=>?_⟩;have hT2:h''.get? s.heap.objs.size=some { cls := .type "tuple", data := .seq #[.int i tk,y] }:=(sb.2 _ (Nat.ne_of_gt hel)).trans hT;have new:ObjOk X.prog X.w (upd H s.heap.objs.size (.tup [.int (i:Nat),x])) h'' s.heap.objs.size (.tup [.int (i:Nat),x]) :=
   ⟨by show 2≤sizeLine;decide,[.int i tk,y],.cons ⟨_,rfl⟩ (.cons ru .nil),⟨_,hT2,rfl,_,rfl⟩⟩
  have I1:Inv X pins σ (upd H s.heap.objs.size (.tup [.int (i:Nat),x])) { s with heap:=h'',toks:=tk+1 } :=
   I.turnedNew (ch:=[e,it]) (fun b ob hb q=>(sb.2 b (fun z=>hb (by simp [z]))).trans (hk b ob (fun z=>hb (by simp [z])) (fun z=>hb (by simp [z])) q)) hf (Nat.le_refl _) new
  refine ⟨.ref s.heap.objs.size,_,I1,rfl,⟨_,x,rfl,I.hok.fresh (Nat.le_refl _),rfl,fun ys hy=>by rw [I.tuple_inj hy hq];exact hx⟩,⟨⟨y,?_⟩,hst'.1.at fun o q=>(sb.2 it (Ne.symm hne)).trans q,hne⟩,fun b hb=>?_⟩
  ·have e1:((i+1:Nat):Int)=(i:Int)+1:=by omega
   rw [e1];exact he'
  ·have hb':b<s.heap.objs.size:=by
    have e':b=e∨b=it:=by simpa using hb
    rcases e' with z | z
    ·rw [z];exact hel
    ·rw [z];exact hil
   rw [upd_ne (Nat.ne_of_lt hb')];exact (hf b hb).1
 done:=by
  intro X hP hw hK hc i pins s σ H E I hf st hg;subst hP hw hK;obtain ⟨⟨old,he⟩,hit,hne⟩:=st;obtain ⟨xs,hq,hx⟩:=hg;obtain ⟨its,rv,p,hz⟩:=I.tuple hq;obtain ⟨f0,f1,f2,f3,f4,f5⟩:=hf it (by simp);have hl:=rv.length;have hai:a≠it:=fun z=>by
   obtain ⟨o,ho,hcl,_⟩:=p;obtain ⟨o',ho',hcl',_⟩:=hit;rw [z,ho'] at ho;cases ho;rw [hcl] at hcl';exact absurd hcl' (by decide)
  have D:Draws X.prog X.w X.A.in1 it [it,a] its.toArray.size (fun i v=>its.toArray[i]?=some v) (fun i h=>h.IsTupleIter it a i∧h.IsTuple a its.toArray):=Draws.tuple (A:=X.A.in1) (show X.A.in1.handled=none from I.ok.hd hc) it a hai its.toArray;have ei:i=its.toArray.size:=by rw [List.size_toArray,←hl,hx]
  rw [ei] at hit;exact wpAny_pyNext_enum_endD D he ⟨hit,p⟩ fun h' eb=>⟨rfl,I.turned (t':=s.toks) (fun b o hb q=>eb b o hb q) f0 f1 f3 f4 f5⟩
 self:=fun A i s Q E st h=>let ⟨⟨_,he⟩,_⟩:=st;wpAny_pyIter_enum he h
def iEnumT (K:PySem.W.Frag) (ta:TA):TI:=fun σ H R=>ta σ H fun vs H1=>∃a xs,vs=[.ref a]∧SqT K H1 a xs∧R (IteT K a) H1
theorem pi_enumT {X:Cx} {e:Expr} {ta:TA} {p pos tpos:Pos} {elts:List Expr} {kk:Nat} (hg:Gl X "enumerate") (hm:X.mg "enumerate" = none) (ha:PA X [e] ta) (hs:starEach [e] X.env=[(false,eval e X.env)]) :
  PI X (.Tuple elts kk tpos) (.Call (.Name "enumerate" p) [e] [] pos) (iEnumT X.K ta):=by
 refine ⟨fun pins s σ H R I h=>?_⟩;refine Call_ (ld_blt I hg hm boot_enumerate (PyProof.Rows.callWith_type1 (thn (ha.run pos pins s σ H _ I h) fun us s1 ⟨vs,H1,I1,r1,q1⟩=>?_) hs rfl));obtain ⟨a,xs,ex,hq,q⟩:=q1;subst ex;cases r1 with
 | cons r rr =>
  cases rr;cases r;obtain ⟨its,rv,p',hz⟩:=I1.tuple hq;refine call_enumerate_tuple (show s1.heap.IsTuple a its.toArray from p') fun h' he hit hsz hk=>wpAny_pyIter_enum he ?_;have I2:Inv X pins σ H1 { s1 with heap:=h' }:=I1.kept (t':=s1.toks) hk;refine ⟨s1.heap.objs.size+1,[s1.heap.objs.size+1,s1.heap.objs.size],_,_,H1,rfl,I2,turn_enumT a (s1.heap.objs.size+1) s1.heap.objs.size,⟨⟨.none,he⟩,hit,Nat.succ_ne_self _⟩,fun b hb=>?_,q⟩;have e':b=s1.heap.objs.size+1∨b=s1.heap.objs.size:=by simpa using hb
  have hle:s1.heap.objs.size≤b:=by
   rcases e' with z | z
   ·rw [z];exact Nat.le_add_right _ _
   ·rw [z];exact Nat.le_refl _
  exact I1.fpOk hle (I1.hok.fresh hle)
end AW
namespace AwTZ
open PySem PySem.Spec PyProof.Rows L2
def ItzM (K:PySem.W.Frag) (a b:Addr):It where
 go i H:=∃xs ys x y,SqT K H a xs∧SqL K H b ys∧xs[i]?=some x∧ys[i]?=some y
 yld i H v H':=∃T x y,v = .ref T∧H T=none∧H'=upd H T (.tup [x,y])∧(∀xs,SqT K H a xs→xs[i]?=some x)∧(∀ys,SqL K H b ys→ys[i]?=some y)
 stop i H:=∃xs ys,SqT K H a xs∧SqL K H b ys∧i=min xs.length ys.length
def StM (a b z tI tO j k:Addr) (i:Nat) (h:Heap):Prop:=IsZip h z tI tO .none∧IsTupOf2 h tI (.ref j) (.ref k)∧(∃x y,IsTupOf2 h tO x y)∧h.IsTupleIter j a i∧h.IsListIter k b i
theorem five {z tI tO j k c:Addr} {P:Addr→Prop} (hc:c∈[z,tI,tO,j,k]) (p1:P z) (p2:P tI) (p3:P tO) (p4:P j) (p5:P k):P c:=by
 simp only [List.mem_cons,List.not_mem_nil,or_false] at hc;rcases hc with e | e | e | e | e
 ·exact e▸p1
 ·exact e▸p2
 ·exact e▸p3
 ·exact e▸p4
 ·exact e▸p5
section
variable {P:Program} {w:World} {K:PySem.W.Frag} {elts:List Expr} {n0:Nat} {tp:Pos} {a b z tI tO j k:Addr}
theorem StM.obj {i:Nat} {h:Heap} (st:StM a b z tI tO j k i h):∀c∈[z,tI,tO,j,k],∃o,h.get? c=some o∧∀v,o.data ≠ .cell v:=fun c hc=>by
 obtain ⟨q1,q2,⟨x,y,q3⟩,⟨o1,e1,_,d1⟩,⟨o2,e2,_,d2⟩⟩:=st;refine five (P:=fun c=>∃o,h.get? c=some o∧∀v,o.data ≠ .cell v) hc ⟨_,q1,fun v e=>by cases e⟩ ⟨_,q2,fun v e=>by cases e⟩ ⟨_,q3,fun v e=>by cases e⟩ ⟨o1,e1,fun v e=>?_⟩ ⟨o2,e2,fun v e=>?_⟩
 ·rw [d1] at e;cases e
 ·rw [d2] at e;cases e
theorem StM.keep {i:Nat} {h h':Heap} (st:StM a b z tI tO j k i h) (kp:∀c∈[z,tI,tO,j,k],∀o,h.get? c=some o→h'.get? c=some o):StM a b z tI tO j k i h':=by
 obtain ⟨q1,q2,⟨x,y,q3⟩,q4,q5⟩:=st;have m:∀c,c=z∨c=tI∨c=tO∨c=j∨c=k→c∈[z,tI,tO,j,k]:=fun c e=>by simpa using e
 exact ⟨kp z (m _ (.inl rfl)) _ q1,kp tI (m _ (.inr (.inl rfl))) _ q2,⟨x,y,kp tO (m _ (.inr (.inr (.inl rfl)))) _ q3⟩,q4.at fun o e=>kp j (m _ (.inr (.inr (.inr (.inl rfl))))) o e,q5.at fun o e=>kp k (m _ (.inr (.inr (.inr (.inr rfl))))) o e⟩
theorem walkM {A:Around} (hh:A.handled=none) (S:ZipSep2 z tI tO j k [j,a] [k,b]) (na:a≠j) (nb:b≠k) (us vs:Array Value) :
  GoesN P w A (.Tuple elts n0 tp) z (z::tI::tO::([j,a]++[k,b])) [z,tO,j,k] (min us.size vs.size) (fun i h₀ v h=>∃T x y,v = .ref T∧h₀.objs.size≤T∧us[i]?=some x∧vs[i]?=some y∧h.IsTuple T #[x,y])
   (fun i h=>IsZip h z tI tO .none∧IsTupOf2 h tI (.ref j) (.ref k)∧(∃a1 a2,IsTupOf2 h tO a1 a2)∧(h.IsTupleIter j a i∧h.IsTuple a us)∧(h.IsListIter k b i∧h.IsList b vs)) :=
 GoesN.zip2 S (Draws.tuple (A:=A.in1) hh j a na us) (Draws.list (A:=A.in1) hh k b nb vs)
theorem turnM (S:ZipSep2 z tI tO j k [j,a] [k,b]) (na:a≠j) (nb:b≠k):Turn P w K (.Tuple elts n0 tp) (ItzM K a b) [z,tI,tO,j,k] z (StM a b z tI tO j k) where
 mem:=List.mem_cons_self
 obj:=fun i h st=>st.obj
 keep:=fun i h h' st kp=>st.keep kp
 item:=by
  intro X e1 e2 e3 calm i pins s σ H E I hf st hg;subst e1 e2 e3;have ob:=st.obj;obtain ⟨q1,q2,q3,q4,q5⟩:=st;obtain ⟨xs,ys,x,y,hT,hL,gx,gy⟩:=hg;obtain ⟨us,rx,pT,_⟩:=I.tuple hT;obtain ⟨vs,ry,pL,_⟩:=I.list hL;obtain ⟨u,hu,ru⟩:=rx.get gx;obtain ⟨v,hv,rv⟩:=ry.get gy;have l1:i<us.toArray.size:=by
   have:=(List.getElem?_eq_some_iff.mp hu).1;simpa using this
  have l2:i<vs.toArray.size:=by
   have:=(List.getElem?_eq_some_iff.mp hv).1;simpa using this
  refine (walkM (I.ok.hd calm) S na nb us.toArray vs.toArray).goes i s _ E (by omega) ⟨q1,q2,q3,⟨q4,pT⟩,⟨q5,pL.isList⟩⟩ fun r h' tk hY st' kp _=>?_;obtain ⟨T,x',y',rfl,hn,hx',hy',hTT⟩:=hY;have ex:x'=u:=by
   rw [List.getElem?_toArray,hu] at hx';exact (Option.some.inj hx').symm
  have ey:y'=v:=by
   rw [List.getElem?_toArray,hv] at hy';exact (Option.some.inj hy').symm
  subst ex ey;obtain ⟨r1,r2,r3,⟨r4,_⟩,⟨r5,_⟩⟩:=st';have nw:ObjOk X.prog X.w (upd H T (.tup [x,y])) h' T (.tup [x,y]):=⟨by show 2≤sizeLine;decide,[x',y'],.cons ru (.cons rv .nil),hTT⟩;have I1:=I.turnedNew (t':=tk) (ch:=[z,tI,tO,j,k]) (fun c o hb e=>kp c o (fun hm=>hb (by
   simp only [List.mem_cons,List.not_mem_nil,or_false] at hm ⊢;rcases hm with e | e | e | e
   ·exact .inl e
   ·exact .inr (.inr (.inl e))
   ·exact .inr (.inr (.inr (.inl e)))
   ·exact .inr (.inr (.inr (.inr e))))) e) hf hn nw
  refine ⟨.ref T,_,I1,rfl,⟨T,x,y,rfl,I.hok.fresh hn,rfl,fun l hl=>by rw [I.tuple_inj hl hT];exact gx,fun l hl=>by rw [I.list_inj hl hL];exact gy⟩,⟨r1,r2,r3,r4,r5⟩,fun c hc=>?_⟩;obtain ⟨o,ho,_⟩:=ob c hc;have lt:=Heap.lt_size ho;rw [upd_ne (Nat.ne_of_lt (Nat.lt_of_lt_of_le lt hn))];exact (hf c hc).1
 done:=by
  intro X e1 e2 e3 calm i pins s σ H E I hf st hg;subst e1 e2 e3;obtain ⟨q1,q2,q3,q4,q5⟩:=st;obtain ⟨xs,ys,hT,hL,hi⟩:=hg;obtain ⟨us,rx,pT,_⟩:=I.tuple hT;obtain ⟨vs,ry,pL,_⟩:=I.list hL;have l1:=rx.length;have l2:=ry.length;have ei:i=min us.toArray.size vs.toArray.size:=by
   rw [hi,List.size_toArray,List.size_toArray,l1,l2]
  have W:=walkM (P:=X.prog) (w:=X.w) (elts:=elts) (n0:=n0) (tp:=tp) (I.ok.hd calm) S na nb us.toArray vs.toArray;rw [←ei] at W;refine wpAny_mono (W.stops s (fun s1=>Inv X pins σ H s1) E ⟨q1,q2,q3,⟨q4,pT⟩,⟨q5,pL.isList⟩⟩ fun h' tk kp _=>?_) (fun _ _ e=>e) (fun _ _ e=>e);exact I.turnedL (t':=tk) (ch:=[z,tI,tO,j,k]) (fun c o hb e=>kp c o (fun hm=>hb (by
   simp only [List.mem_cons,List.not_mem_nil,or_false] at hm ⊢;rcases hm with e | e | e | e
   ·exact .inl e
   ·exact .inr (.inr (.inl e))
   ·exact .inr (.inr (.inr (.inl e)))
   ·exact .inr (.inr (.inr (.inr e))))) e) hf
 self:=fun A i s Q E st q=>wpAny_pyIter_zip st.1 q
end
def iZipM (K:PySem.W.Frag) (ta:TA):TI:=fun σ H R=>ta σ H fun vs H1=>∃a b xs ys,vs=[.ref a,.ref b]∧SqT K H1 a xs∧SqL K H1 b ys∧R (ItzM K a b) H1
theorem pi_zipM {X:Cx} {e e2:Expr} {ta:TA} {p q tq:Pos} {elts:List Expr} {n0:Nat} (hg:Gl X "zip") (hm:X.mg "zip" = none) (ha:PA X [e,e2] ta)
  (h1:starEach [e,e2] X.env=(false,eval e X.env)::starEach [e2] X.env) (h2:(backTo q (starEach [e2] X.env)).any (·.1)=false):PI X (.Tuple elts n0 tq) (.Call (.Name "zip" p) [e,e2] [] q) (iZipM X.K ta):=by
 refine ⟨fun pins s σ H R I hR=>Call_ (ld_blt I hg hm PyProof.Rows.boot_zip (PyProof.Rows.callWith_type1 (thn (ha.run q pins s σ H _ I hR) fun us s1 hq=>?_) h1 h2))⟩;obtain ⟨vals,H1,I1,rs,a,b,xs,ys,ev,hT,hL,hk⟩:=hq;subst ev;cases rs with
 | cons ra rt =>
  cases rt with
  | cons rb rt =>
  cases rt;cases ra;cases rb;obtain ⟨its,_,pT,_⟩:=I1.tuple hT;obtain ⟨jts,_,pL,_⟩:=I1.list hL;obtain ⟨o1,g1,_⟩:=id pT;obtain ⟨o2,g2,_⟩:=id pL.isList;have la:=Heap.lt_size g1;have lb:=Heap.lt_size g2;refine zip_begins2 (begins_tuple a its.toArray) (begins_list b jts.toArray) pT pL.isList fun h' c1 c2 c3 c4 c5 c6 kp=>?_;have I2:Inv X pins σ H1 { s1 with heap:=h' }:=I1.kept (t':=s1.toks) kp;have fpk:∀c,s1.heap.objs.size≤c→FpOk X pins H1 c:=fun c lc=>I1.fpOk lc (I1.hok.fresh lc);obtain ⟨N,hN⟩:∃N,N=s1.heap.objs.size:=⟨_,rfl⟩;rw [←hN] at la lb c1 c2 c3 c4 c5 fpk;rw [←hN];have S:ZipSep2 (N+4) (N+2) (N+3) N (N+1) [N,a] [N+1,b]:=zip_sep2 (fun c hc=>by rw [List.mem_singleton.mp hc];exact la) (fun c hc=>by rw [List.mem_singleton.mp hc];exact lb);have na:a≠N:=Nat.ne_of_lt la;have nb:b≠N+1:=Nat.ne_of_lt (Nat.lt_succ_of_lt lb);have tn:=turnM (P:=X.prog) (w:=X.w) (K:=X.K) (elts:=elts) (n0:=n0) (tp:=tq) S na nb;have st:StM a b (N+4) (N+2) (N+3) N (N+1) 0 h':=⟨c1,c2,⟨_,_,c3⟩,⟨_,c4,rfl,rfl⟩,⟨_,c5,rfl,rfl⟩⟩;refine wpAny_pyIter_zip c1 ⟨N+4,[N+4,N+2,N+3,N,N+1],_,_,H1,rfl,I2,tn,st,fun c hc=>fpk c ?_,hk⟩;exact five (P:=fun c=>N≤c) hc (Nat.le_add_right _ _) (Nat.le_add_right _ _) (Nat.le_add_right _ _) (Nat.le_refl _) (Nat.le_add_right _ _)
end AwTZ
namespace AW
open PySem PySem.Spec PyProof.Rows L2
variable [CdT] [StA]
section
variable {K:PySem.W.Frag} {f:Hp} {a b:Addr} {vs us:List V} {ds es:List D}
theorem all_at (ha:DpAll K f vs ds) {i:Nat} (hi:i<ds.length):∃v,vs[i]?=some v∧∃d,ds[i]?=some d∧Dp K f v d:=by
 obtain ⟨v,hv,hd⟩:=ha.get (List.getElem?_eq_getElem hi);exact ⟨v,hv,_,List.getElem?_eq_getElem hi,hd⟩
theorem wk_list (hs:SqL K f a vs) (ha:DpAll K f vs ds):Wk K f (Itl K a) ds where
 go:=fun i H sm hi=>let ⟨v,hv,_⟩:=all_at ha hi;⟨vs,v,sql_same sm hs,hv⟩
 stop:=fun H sm=>⟨vs,sql_same sm hs,Nat.le_of_eq ha.length⟩
 yld:=fun i H x H' hi sm y=>by
  obtain ⟨rfl,y⟩:=y;obtain ⟨d,hd,hx⟩:=ha.getV (y _ (sql_same sm hs));exact ⟨d,hd,fun fc s1 s2=>⟨fc,Po.refl s2,dp_same s1 hx⟩⟩
theorem wk_tup (hs:SqT K f a vs) (ha:DpAll K f vs ds):Wk K f (Itt K a) ds where
 go:=fun i H sm hi=>let ⟨v,hv,_⟩:=all_at ha hi;⟨vs,v,sqt_same sm hs,hv⟩
 stop:=fun H sm=>⟨vs,sqt_same sm hs,Nat.le_of_eq ha.length⟩
 yld:=fun i H x H' hi sm y=>by
  obtain ⟨rfl,y⟩:=y;obtain ⟨d,hd,hx⟩:=ha.getV (y _ (sqt_same sm hs));exact ⟨d,hd,fun fc s1 s2=>⟨fc,Po.refl s2,dp_same s1 hx⟩⟩
theorem rngD_len (lo:Int) (n:Nat):(rngD lo n).length=n:=by simp [rngD]
theorem rngD_at (lo:Int) {n i:Nat} (h:i<n):(rngD lo n)[i]?=some (.int (lo+(i:Nat))):=by simp [rngD,h]
theorem wk_rng (lo:Int) (n:Nat):Wk K f (Itr lo n) (rngD lo n) where
 go:=fun i H _ hi=>by rw [rngD_len] at hi;exact hi
 stop:=fun H _=>by rw [rngD_len];exact Nat.le_refl _
 yld:=fun i H x H' hi sm y=>by
  rw [rngD_len] at hi;obtain ⟨rfl,rfl⟩:=y;exact ⟨_,rngD_at lo hi,fun fc s1 s2=>⟨fc,Po.refl s2,.int _⟩⟩
theorem wk_revL (hs:SqL K f a vs) (ha:DpAll K f vs ds):Wk K f (Itv K a vs.length) ds.reverse where
 go:=fun i H sm hi=>by
  rw [List.length_reverse,←ha.length] at hi;exact ⟨hi,vs,vs[vs.length-1-i],sql_same sm hs,List.getElem?_eq_getElem (by omega)⟩
 stop:=fun H sm=>by
  show vs.length≤_;rw [List.length_reverse,ha.length];exact Nat.le_refl _
 yld:=fun i H x H' hi sm y=>by
  obtain ⟨rfl,y⟩:=y;rw [List.length_reverse] at hi;obtain ⟨d,hd,hx⟩:=ha.getV (y _ (sql_same sm hs));refine ⟨d,?_,fun fc s1 s2=>⟨fc,Po.refl s2,dp_same s1 hx⟩⟩;rw [List.getElem?_reverse hi,←ha.length];exact hd
theorem wk_revT (hs:SqT K f a vs) (ha:DpAll K f vs ds):Wk K f (RT.ItvT K a vs.length) ds.reverse where
 go:=fun i H sm hi=>by
  rw [List.length_reverse,←ha.length] at hi;exact ⟨hi,vs,vs[vs.length-1-i],sqt_same sm hs,List.getElem?_eq_getElem (by omega)⟩
 stop:=fun H sm=>by
  show vs.length≤_;rw [List.length_reverse,ha.length];exact Nat.le_refl _
 yld:=fun i H x H' hi sm y=>by
  obtain ⟨rfl,y⟩:=y;rw [List.length_reverse] at hi;obtain ⟨d,hd,hx⟩:=ha.getV (y _ (sqt_same sm hs));refine ⟨d,?_,fun fc s1 s2=>⟨fc,Po.refl s2,dp_same s1 hx⟩⟩;rw [List.getElem?_reverse hi,←ha.length];exact hd
theorem wk_revr (b:Int):Wk K f (Itc (0+(((b-0).toNat:Nat):Int)-1) (-1) (b-0).toNat) (rngD 0 (b-0).toNat).reverse where
 go:=fun i H _ hi=>by rw [List.length_reverse,rngD_len] at hi;exact hi
 stop:=fun H _=>by rw [List.length_reverse,rngD_len];exact Nat.le_refl _
 yld:=fun i H x H' hi sm y=>by
  rw [List.length_reverse,rngD_len] at hi;obtain ⟨rfl,rfl⟩:=y;refine ⟨_,?_,fun fc s1 s2=>⟨fc,Po.refl s2,.int _⟩⟩;rw [List.getElem?_reverse (by rw [rngD_len];exact hi),rngD_len,rngD_at 0 (by omega)];have e:(0:Int)+(((b-0).toNat-1-i:Nat):Int)=0+(((b-0).toNat:Nat):Int)-1+(i:Nat)*(-1):=by omega
  rw [e]
theorem enumD_len (ds:List D):(enumD ds).length=ds.length:=by simp [enumD]
theorem enumD_at {ds:List D} {i:Nat} {d:D} (h:ds[i]?=some d):(enumD ds)[i]?=some (.tuple [.int (i:Nat),d]):=by
 have hi:i<ds.length:=(List.getElem?_eq_some_iff.mp h).1;unfold enumD;rw [List.getElem?_zipWith,h,List.getElem?_range hi]
theorem pair_new {H fc:Hp} {T:Addr} {x y:V} {d e:D} (s2:Same fc H) (hT:H T=none) (hx:Dp K fc x d) (hy:Dp K fc y e):∃f',Po fc H f' (upd H T (.tup [x,y]))∧Dp K f' (.ref T) (.tuple [d,e]):=by
 have sm:Same fc (upd fc T (.tup [x,y])):=fun a o h=>by
  rw [upd_ne (ne_of_none (s2 _ _ h) hT)];exact h
 exact ⟨_,(Po.refl s2).new hT,.tup (.inl (.inl upd_same)) (.cons (dp_same sm hx) (.cons (dp_same sm hy) .nil))⟩
theorem wk_enumL (hs:SqL K f a vs) (ha:DpAll K f vs ds):Wk K f (Ite K a) (enumD ds) where
 go:=fun i H sm hi=>by
  rw [enumD_len] at hi;obtain ⟨v,hv,_⟩:=all_at ha hi;exact ⟨vs,v,sql_same sm hs,hv⟩
 stop:=fun H sm=>⟨vs,sql_same sm hs,by rw [enumD_len,ha.length];exact Nat.le_refl _⟩
 yld:=fun i H x H' hi sm y=>by
  obtain ⟨T,x',rfl,hT,rfl,y⟩:=y;obtain ⟨d,hd,hx⟩:=ha.getV (y _ (sql_same sm hs));exact ⟨_,enumD_at hd,fun fc s1 s2=>pair_new s2 hT (.int _) (dp_same s1 hx)⟩
theorem wk_enumT (hs:SqT K f a vs) (ha:DpAll K f vs ds):Wk K f (IteT K a) (enumD ds) where
 go:=fun i H sm hi=>by
  rw [enumD_len] at hi;obtain ⟨v,hv,_⟩:=all_at ha hi;exact ⟨vs,v,sqt_same sm hs,hv⟩
 stop:=fun H sm=>⟨vs,sqt_same sm hs,by rw [enumD_len,ha.length]⟩
 yld:=fun i H x H' hi sm y=>by
  obtain ⟨T,x',rfl,hT,rfl,y⟩:=y;obtain ⟨d,hd,hx⟩:=ha.getV (y _ (sqt_same sm hs));exact ⟨_,enumD_at hd,fun fc s1 s2=>pair_new s2 hT (.int _) (dp_same s1 hx)⟩
theorem zipD_at {ds es:List D} {i:Nat} {d e:D} (h:ds[i]?=some d) (h2:es[i]?=some e):(zipD ds es)[i]?=some (.tuple [d,e]):=by
 unfold zipD;rw [List.getElem?_zipWith,h,h2]
theorem zipD_len (ds es:List D):(zipD ds es).length=min ds.length es.length:=by simp [zipD]
theorem wk_zipL (hs:SqL K f a vs) (ha:DpAll K f vs ds) (ht:SqL K f b us) (hb:DpAll K f us es):Wk K f (Itz K a b) (zipD ds es) where
 go:=fun i H sm hi=>by
  rw [zipD_len] at hi;obtain ⟨v,hv,_⟩:=all_at ha (i:=i) (by omega);obtain ⟨u,hu,_⟩:=all_at hb (i:=i) (by omega);exact ⟨vs,us,v,u,sql_same sm hs,sql_same sm ht,hv,hu⟩
 stop:=fun H sm=>⟨vs,us,sql_same sm hs,sql_same sm ht,by rw [zipD_len,ha.length,hb.length];omega⟩
 yld:=fun i H x H' hi sm y=>by
  obtain ⟨T,x',y',rfl,hT,rfl,y1,y2⟩:=y;obtain ⟨d,hd,hx⟩:=ha.getV (y1 _ (sql_same sm hs));obtain ⟨e,he,hy⟩:=hb.getV (y2 _ (sql_same sm ht));exact ⟨_,zipD_at hd he,fun fc s1 s2=>pair_new s2 hT (dp_same s1 hx) (dp_same s1 hy)⟩
theorem wk_zipT (hs:SqT K f a vs) (ha:DpAll K f vs ds) (ht:SqT K f b us) (hb:DpAll K f us es):Wk K f (RZ.ItzT K a b) (zipD ds es) where
 go:=fun i H sm hi=>by
  rw [zipD_len] at hi;obtain ⟨v,hv,_⟩:=all_at ha (i:=i) (by omega);obtain ⟨u,hu,_⟩:=all_at hb (i:=i) (by omega);exact ⟨vs,us,v,u,sqt_same sm hs,sqt_same sm ht,hv,hu⟩
 stop:=fun H sm=>⟨vs,us,sqt_same sm hs,sqt_same sm ht,by rw [zipD_len,ha.length,hb.length];omega⟩
 yld:=fun i H x H' hi sm y=>by
  obtain ⟨T,x',y',rfl,hT,rfl,y1,y2⟩:=y;obtain ⟨d,hd,hx⟩:=ha.getV (y1 _ (sqt_same sm hs));obtain ⟨e,he,hy⟩:=hb.getV (y2 _ (sqt_same sm ht));exact ⟨_,zipD_at hd he,fun fc s1 s2=>pair_new s2 hT (dp_same s1 hx) (dp_same s1 hy)⟩
theorem wk_zipM (hs:SqT K f a vs) (ha:DpAll K f vs ds) (ht:SqL K f b us) (hb:DpAll K f us es):Wk K f (AwTZ.ItzM K a b) (zipD ds es) where
 go:=fun i H sm hi=>by
  rw [zipD_len] at hi;obtain ⟨v,hv,_⟩:=all_at ha (i:=i) (by omega);obtain ⟨u,hu,_⟩:=all_at hb (i:=i) (by omega);exact ⟨vs,us,v,u,sqt_same sm hs,sql_same sm ht,hv,hu⟩
 stop:=fun H sm=>⟨vs,us,sqt_same sm hs,sql_same sm ht,by rw [zipD_len,ha.length,hb.length]⟩
 yld:=fun i H x H' hi sm y=>by
  obtain ⟨T,x',y',rfl,hT,rfl,y1,y2⟩:=y;obtain ⟨d,hd,hx⟩:=ha.getV (y1 _ (sqt_same sm hs));obtain ⟨e,he,hy⟩:=hb.getV (y2 _ (sql_same sm ht));exact ⟨_,zipD_at hd he,fun fc s1 s2=>pair_new s2 hT (dp_same s1 hx) (dp_same s1 hy)⟩
end
section
variable {L:Lk} {N:List Str} {sc:Nms} {W:WX} {X:Cx} {K:PySem.W.Frag}
theorem seqR_cases {d:D} {xs:List D} (e:seqR d = .ok xs):d = .list xs∨d = .tuple xs:=by
 cases d <;> first
  | (cases e;exact .inl rfl)
  | (cases e;exact .inr rfl)
  | cases e
theorem intR_cases {d:D} {i:Int} (e:intR d = .ok i):d = .int i:=by cases d <;> cases e;rfl
theorem seq_of {f' H':Hp} {v:V} {d:D} {xs:List D} (e:seqR d = .ok xs) (h:Dp K f' v d):∃a vs,v = .ref a∧DpAll K f' vs xs∧(SqL K f' a vs∨SqT K f' a vs):=by
 rcases seqR_cases e with rfl | rfl
 ·cases h with
  | lst h a=>exact ⟨_,_,rfl,a,.inl h⟩
 ·cases h with
  | tup h a=>exact ⟨_,_,rfl,a,.inr h⟩
theorem impI_seq {x:E} {σ H Rr} (h:dI L K W (.seq x) σ H Rr):iList K (dV L K W x) σ H Rr∨iTup K (dV L K W x) σ H Rr:=by
 obtain ⟨f0,H0,f,en,m,ot⟩:=h;have o1:=Out.bind (show Out L.cls W σ f H ((L.ev x en).bind fun p=>seqR p.1) _ from ot);cases e:L.ev x en with
 | no=>rw [e] at o1;exact o1.elim
 | ex k =>
  rw [e] at o1;exact .inl ⟨f0,H0,f,en,m,by rw [e];exact o1⟩
 | ok p =>
  rw [e] at o1;have o2:Out L.cls W σ f H (seqR p.1) _:=o1;obtain ⟨xs,e1,k⟩:=o2.okk (seqR_noex _);rcases seqR_cases e1 with z | z
  ·refine .inl ⟨f0,H0,f,en,m,?_⟩;rw [e];intro v f' H' q hv;obtain ⟨f2,q2,hv2⟩:=hv.settle q;rw [z] at hv2;cases hv2 with
   | lst hs ha=>exact ⟨_,rfl,⟨_,sql_same q2.sub hs⟩,k _ f2 H' q2 (wk_list hs ha)⟩
  ·refine .inr ⟨f0,H0,f,en,m,?_⟩;rw [e];intro v f' H' q hv;obtain ⟨f2,q2,hv2⟩:=hv.settle q;rw [z] at hv2;cases hv2 with
   | tup hs ha=>exact ⟨_,rfl,⟨_,sqt_same q2.sub hs⟩,k _ f2 H' q2 (wk_tup hs ha)⟩
theorem small_ok {i:Int} (h:small i=true) : -(2^62)≤i∧i<2^62:=by
 have h1:i.natAbs.log2≤61:=Nat.le_of_ble_eq_true h;have p:(2:Nat)^62=4611686018427387904:=by decide
 have p':(2:Int)^62=4611686018427387904:=by rfl
 have h2:i.natAbs<2^62:=by
  by_cases h0:i.natAbs=0
  ·rw [h0];decide
  ·exact (Nat.log2_lt h0).mp (by omega)
 rw [p'];omega
theorem rngR_ok {i j:Int} {ds:List D} (e:rngR i j = .ok ds):small i=true∧small j=true∧ds=rngD i (j-i).toNat:=by
 unfold rngR at e;cases h1:small i with
 | false=>rw [h1] at e;cases e
 | true=>cases h2:small j with
  | false=>rw [h1,h2] at e;cases e
  | true=>rw [h1,h2] at e;cases e;exact ⟨rfl,rfl,rfl⟩
theorem impI_rng1 {x:E} {σ H Rr} (h:dI L K W (.rng1 x) σ H Rr):iRng1 (tCons (dV L K W x) tNil) σ H Rr:=by
 obtain ⟨f0,H0,f,en,m,ot⟩:=h;have o1:=Out.bind (show Out L.cls W σ f H ((L.ev x en).bind fun p=>(intR p.1).bind fun j=>rngR 0 j) _ from ot);refine ⟨f0,H0,f,en,m,o1.imp (Po.refl m.po.sub) fun p _ h1 v f1 H1 q1 hv=>?_⟩;obtain ⟨j,e,h2⟩:=h1.bind.okk (intR_noex _);obtain ⟨ds,e2,k⟩:=h2.okk (rngR_noex _ _);obtain ⟨s1,s2,rfl⟩:=rngR_ok e2;have hr:=hv.read;rw [intR_cases e] at hr;have hs:=small_ok s2;have ew:=wk_rng (K:=K) (f:=f1) 0 (j-0).toNat;rw [show j-0=j by omega] at k ew;exact ⟨j,by rw [hr.int],hs.1,hs.2,k _ f1 H1 q1 ew⟩
theorem impI_rng2 {x y:E} {σ H Rr} (h:dI L K W (.rng2 x y) σ H Rr):iRng2 (tCons (dV L K W x) (tCons (dV L K W y) tNil)) σ H Rr:=by
 obtain ⟨f0,H0,f,en,m,ot⟩:=h;have o1:=Out.bind (show Out L.cls W σ f H ((L.ev x en).bind fun p=>(L.ev y en).bind fun r=>(intR p.1).bind fun i=>(intR r.1).bind fun j=>rngR i j) _ from ot);refine ⟨f0,H0,f,en,m,o1.imp (Po.refl m.po.sub) fun p _ h1 v f1 H1 q1 hv=>?_⟩;refine ⟨f0,H0,f1,en,m.mono q1,h1.bind.imp q1 fun r _ h2 u f2 H2 q2 hu=>?_⟩;obtain ⟨i,e,h3⟩:=h2.bind.okk (intR_noex _);obtain ⟨j,e',h4⟩:=h3.bind.okk (intR_noex _);obtain ⟨ds,e2,k⟩:=h4.okk (rngR_noex _ _);obtain ⟨s1,s2,rfl⟩:=rngR_ok e2;have hr:=hv.read;rw [intR_cases e] at hr;have hr2:=hu.read;rw [intR_cases e'] at hr2;have hs:=small_ok s2;have hs1:=small_ok s1;exact ⟨i,j,by rw [hr.int,hr2.int],⟨hs1.1,hs1.2,hs.1,hs.2⟩,k _ f2 H2 (q1.trans q2) (wk_rng i (j-i).toNat)⟩
theorem wk_rng3 {f:Hp} (lo c:Int) (n:Nat):Wk K f (Itc lo c n) (rngD3 lo c n):=by
 have hl:(rngD3 lo c n).length=n:=by unfold rngD3;simp
 refine ⟨fun i H _ h=>by rw [hl] at h;exact h,fun H _=>by rw [hl];exact Nat.le_refl _,fun i H x H' h s y=>?_⟩;rw [hl] at h;obtain ⟨e1,e2⟩:=y;subst e1;subst e2
 refine ⟨.int (lo+(i:Nat)*c),by unfold rngD3;simp [h],fun fc s1 s2=>⟨fc,Po.refl s2,.int _⟩⟩
theorem rngR3_ok {i j c:Int} {ds:List D} (e:rngR3 i j c = .ok ds):∃n,RgC i j c n∧ds=rngD3 i c n:=by
 unfold rngR3 at e;by_cases h:c≠0∧c.natAbs<1073741824∧Builtin.Range.small i j c=true∧0≤Builtin.Range.rangeSize i j c
 ·rw [if_pos h] at e;cases e;exact ⟨_,⟨h.1,h.2.1,h.2.2.1,(Int.toNat_of_nonneg h.2.2.2).symm⟩,rfl⟩
 ·rw [if_neg h] at e;cases e
theorem rngR3_noex (i j c:Int) (k:Nat):rngR3 i j c ≠ .ex k:=ite_noex ok_noex no_noex k
theorem impI_rng3 {x y z:E} {σ H Rr} (h:dI L K W (.rng3 x y z) σ H Rr):iRng3 (tCons (dV L K W x) (tCons (dV L K W y) (tCons (dV L K W z) tNil))) σ H Rr:=by
 obtain ⟨f0,H0,f,en,m,ot⟩:=h;have o1:=Out.bind (show Out L.cls W σ f H ((L.ev x en).bind fun p=>(L.ev y en).bind fun r=>(L.ev z en).bind fun w=>(intR p.1).bind fun i=>(intR r.1).bind fun j=>(intR w.1).bind fun k=>rngR3 i j k) _ from ot);refine ⟨f0,H0,f,en,m,o1.imp (Po.refl m.po.sub) fun p _ h1 v f1 H1 q1 hv=>?_⟩;refine ⟨f0,H0,f1,en,m.mono q1,h1.bind.imp q1 fun r _ h2 u f2 H2 q2 hu=>?_⟩;refine ⟨f0,H0,f2,en,(m.mono q1).mono q2,h2.bind.imp (q1.trans q2) fun w _ h3 u3 f3 H3 q3 hu3=>?_⟩;obtain ⟨i,e,h4⟩:=h3.bind.okk (intR_noex _);obtain ⟨j,e',h5⟩:=h4.bind.okk (intR_noex _);obtain ⟨k,e'',h6⟩:=h5.bind.okk (intR_noex _);obtain ⟨ds,e2,kk⟩:=h6.okk (rngR3_noex _ _ _);obtain ⟨n,hn,rfl⟩:=rngR3_ok e2;have hr:=hv.read;rw [intR_cases e] at hr;have hr2:=hu.read;rw [intR_cases e'] at hr2;have hr3:=hu3.read;rw [intR_cases e''] at hr3;exact ⟨i,j,k,n,by rw [hr.int,hr2.int,hr3.int],hn,kk _ f3 H3 ((q1.trans q2).trans q3) (wk_rng3 i k n)⟩
theorem impI_rev {x:E} {σ H Rr} (h:dI L K W (.rev x) σ H Rr):RT.iRevA K (dV L K W x) σ H Rr:=by
 obtain ⟨f0,H0,f,en,m,ot⟩:=h;have o1:=Out.bind (show Out L.cls W σ f H ((L.ev x en).bind fun p=>(seqR p.1).bind fun xs=>R.ok xs.reverse) _ from ot);refine ⟨f0,H0,f,en,m,o1.imp (Po.refl m.po.sub) fun p _ h1 v f1 H1 q1 hv=>?_⟩;obtain ⟨xs,e,k⟩:=h1.bind.okk (seqR_noex _);obtain ⟨f2,q2,hv2⟩:=hv.settle q1;obtain ⟨a,vs,rfl,ha,hs | hs⟩:=seq_of (H':=H1) e hv2
 ·exact ⟨a,vs,rfl,.inl ⟨sql_same q2.sub hs,k _ f2 H1 q2 (wk_revL hs ha)⟩⟩
 ·exact ⟨a,vs,rfl,.inr ⟨sqt_same q2.sub hs,k _ f2 H1 q2 (wk_revT hs ha)⟩⟩
theorem impI_revr {x:E} {σ H Rr} (h:dI L K W (.revr x) σ H Rr):iRevR (tRg1 (dV L K W x)) σ H Rr:=by
 obtain ⟨f0,H0,f,en,m,ot⟩:=h;have o1:=Out.bind (show Out L.cls W σ f H ((L.ev x en).bind fun p=>(intR p.1).bind fun j=>(rngR 0 j).bind fun xs=>R.ok xs.reverse) _ from ot);refine ⟨f0,H0,f,en,m,o1.imp (Po.refl m.po.sub) fun p _ h1 v f1 H1 q1 hv=>?_⟩;obtain ⟨j,e,h2⟩:=h1.bind.okk (intR_noex _);obtain ⟨ds,e2,k⟩:=h2.bind.okk (rngR_noex _ _);obtain ⟨s1,s2,rfl⟩:=rngR_ok e2;have hr:=hv.read;rw [intR_cases e] at hr;have hs:=small_ok s2;exact ⟨j,hr.int,by decide,by decide,hs.1,hs.2,k _ f1 H1 q1 (wk_revr j)⟩
theorem impI_enum {x:E} {σ H Rr} (h:dI L K W (.enum x) σ H Rr):iEnum K (tCons (dV L K W x) tNil) σ H Rr∨iEnumT K (tCons (dV L K W x) tNil) σ H Rr:=by
 obtain ⟨f0,H0,f,en,m,ot⟩:=h;have o1:=Out.bind (show Out L.cls W σ f H ((L.ev x en).bind fun p=>(seqR p.1).bind fun xs=>R.ok (enumD xs)) _ from ot);cases e:L.ev x en with
 | no=>rw [e] at o1;exact o1.elim
 | ex k =>
  rw [e] at o1;exact .inl ⟨f0,H0,f,en,m,by rw [e];exact o1⟩
 | ok p =>
  rw [e] at o1;have o2:Out L.cls W σ f H ((seqR p.1).bind fun xs=>R.ok (enumD xs)) _:=o1;obtain ⟨xs,e1,k⟩:=o2.bind.okk (seqR_noex _);rcases seqR_cases e1 with z | z
  ·refine .inl ⟨f0,H0,f,en,m,?_⟩;rw [e];intro v f' H' q hv;obtain ⟨f2,q2,hv2⟩:=hv.settle q;rw [z] at hv2;cases hv2 with
   | lst hs ha=>exact ⟨_,_,rfl,sql_same q2.sub hs,k _ f2 H' q2 (wk_enumL hs ha)⟩
  ·refine .inr ⟨f0,H0,f,en,m,?_⟩;rw [e];intro v f' H' q hv;obtain ⟨f2,q2,hv2⟩:=hv.settle q;rw [z] at hv2;cases hv2 with
   | tup hs ha=>exact ⟨_,_,rfl,sqt_same q2.sub hs,k _ f2 H' q2 (wk_enumT hs ha)⟩
theorem zipR_ok {a b:D} {ds:List D} (e:zipR a b = .ok ds):(∃xs ys,a = .list xs∧b = .list ys∧ds=zipD xs ys)∨(∃xs ys,a = .tuple xs∧b = .tuple ys∧ds=zipD xs ys)∨∃xs ys,a = .tuple xs∧b = .list ys∧ds=zipD xs ys:=by
 cases a <;> cases b <;> first
  | (cases e;exact .inl ⟨_,_,rfl,rfl,rfl⟩)
  | (cases e;exact .inr (.inl ⟨_,_,rfl,rfl,rfl⟩))
  | (cases e;exact .inr (.inr ⟨_,_,rfl,rfl,rfl⟩))
  | cases e
theorem impI_zip {x y:E} {σ H Rr} (h:dI L K W (.zip x y) σ H Rr):RZ.iZipA K (tCons (dV L K W x) (tCons (dV L K W y) tNil)) σ H Rr∨AwTZ.iZipM K (tCons (dV L K W x) (tCons (dV L K W y) tNil)) σ H Rr:=by
 obtain ⟨f0,H0,f,en,m,ot⟩:=h;have o1:=Out.bind (show Out L.cls W σ f H ((L.ev x en).bind fun p=>(L.ev y en).bind fun r=>zipR p.1 r.1) _ from ot);by_cases mx:∃xs ys fx fy,L.ev x en = .ok (.tuple xs,fx)∧L.ev y en = .ok (.list ys,fy)
 ·obtain ⟨xs,ys,fx,fy,ex,ey⟩:=mx;refine .inr ⟨f0,H0,f,en,m,o1.imp (Po.refl m.po.sub) fun p ep h1 v f1 H1 q1 hv=>?_⟩;have hp:p=(.tuple xs,fx):=by rw [ex] at ep;exact (R.ok.inj ep).symm
  obtain ⟨f2,q2,hv2⟩:=hv.settle q1;refine ⟨f0,H0,f2,en,m.mono q2,h1.bind.imp q2 fun r er h2 u f3 H3 q3 hu=>?_⟩;have hr:r=(.list ys,fy):=by rw [ey] at er;exact (R.ok.inj er).symm
  obtain ⟨f4,q4,hu2⟩:=hu.settle q3;obtain ⟨ds,e,k⟩:=h2.okk (zipR_noex _ _);have hv3:=dp_same q4.sf hv2;rw [hp,hr] at e;have ed:zipD xs ys=ds:=R.ok.inj e;subst ed;rw [hp] at hv3;rw [hr] at hu2;cases hv3 with
  | tup hs ha=>cases hu2 with
   | lst ht hb=>exact ⟨_,_,_,_,rfl,sqt_same q4.sub hs,sql_same q4.sub ht,k _ f4 H3 (q2.trans q4) (wk_zipM hs ha ht hb)⟩
 ·refine .inl ⟨f0,H0,f,en,m,o1.imp (Po.refl m.po.sub) fun p ep h1 v f1 H1 q1 hv=>?_⟩;obtain ⟨f2,q2,hv2⟩:=hv.settle q1;refine ⟨f0,H0,f2,en,m.mono q2,h1.bind.imp q2 fun r er h2 u f3 H3 q3 hu=>?_⟩;obtain ⟨f4,q4,hu2⟩:=hu.settle q3;obtain ⟨ds,e,k⟩:=h2.okk (zipR_noex _ _);have hv3:=dp_same q4.sf hv2;rcases zipR_ok e with ⟨xs,ys,z1,z2,rfl⟩ | ⟨xs,ys,z1,z2,rfl⟩ | ⟨xs,ys,z1,z2,rfl⟩
  ·rw [z1] at hv3;rw [z2] at hu2;cases hv3 with
   | lst hs ha=>cases hu2 with
    | lst ht hb=>exact ⟨_,_,_,_,rfl,.inl ⟨sql_same q4.sub hs,sql_same q4.sub ht,k _ f4 H3 (q2.trans q4) (wk_zipL hs ha ht hb)⟩⟩
  ·rw [z1] at hv3;rw [z2] at hu2;cases hv3 with
   | tup hs ha=>cases hu2 with
    | tup ht hb=>exact ⟨_,_,_,_,rfl,.inr ⟨sqt_same q4.sub hs,sqt_same q4.sub ht,k _ f4 H3 (q2.trans q4) (wk_zipT hs ha ht hb)⟩⟩
  ·refine absurd ⟨xs,ys,p.2,r.2,?_,?_⟩ mx
   ·rw [ep,←z1]
   ·rw [er,←z2]
end
end AW
namespace AW
open PySem PySem.Spec PyProof.Rows L2
variable [CdT] [StA]
theorem Po.upd {f H f' H':Hp} (q:Po f H f' H') {p:Addr} {o o':HO} (h1:Nw H p) (h2:f' p=none) (hp:H' p=some o') (n1:∀ps,o' ≠ .tbl ps:=by (intro _ z;first | (cases z;done) | exact HO.noConfusion z)) (n2:∀q,o'≠LamX.CodeO p q:=by (first | (intro _ z;first | (cases z;done) | exact HO.noConfusion z) | exact fun q=>dicO_nc q)):Po f H f' (L2.upd H' p o) :=
 ⟨q.sH.up h1,q.sf,fun a x e=>by rw [upd_ne (ne_of_none e h2)];exact q.sub _ _ e,q.gro,q.nt,fun t=>tabs_upd (q.tab t) hp n1 n2⟩
theorem wipe_at (σ:L2.St):∀(vs:List Nat) (i:Nat),(L2.wipe σ vs)[i]?=if i∈vs then (σ[i]?).map (fun _=>none) else σ[i]?
 | [],i=>by rw [if_neg (by simp)];rfl
 | v::vs,i=>by
  show ((L2.wipe σ vs).set v none)[i]?=_;by_cases h:v=i
  ·subst h;rw [if_pos (by simp)];by_cases hl:v<σ.length
   ·rw [List.getElem?_set_self (by rw [L2.wipe_length];exact hl),List.getElem?_eq_getElem hl];rfl
   ·rw [List.getElem?_eq_none (by rw [List.length_set,L2.wipe_length];omega),List.getElem?_eq_none (by omega)];rfl
  ·rw [List.getElem?_set_ne h,wipe_at σ vs i];by_cases hi:i∈vs
   ·rw [if_pos hi,if_pos (List.mem_cons_of_mem _ hi)]
   ·rw [if_neg hi,if_neg (by simp only [List.mem_cons,not_or];exact ⟨Ne.symm h,hi⟩)]
theorem wipe_wipe (σ:L2.St) (vs:List Nat):L2.wipe (L2.wipe σ vs) vs=L2.wipe σ vs:=by
 refine List.ext_getElem? fun i=>?_;rw [wipe_at,wipe_at];by_cases hi:i∈vs
 ·rw [if_pos hi,if_pos hi];cases σ[i]? <;> rfl
 ·rw [if_neg hi]
mutual
theorem bindT_noex:∀(tg:Tg) (d:D) (en:En) (k:Nat),bindT tg d en ≠ .ex k
 | .nm i,d,en,k=>ok_noex k
 | .tp ts,.tuple ds,en,k=>bindTs_noex ts ds en k
 | .tp ts,.list ds,en,k=>bindTs_noex ts ds en k
 | .tp ts,.none,en,k=>no_noex k
 | .tp ts,.bool _,en,k=>no_noex k
 | .tp ts,.int _,en,k=>no_noex k
 | .tp ts,.str _,en,k=>no_noex k
 | .tp ts,.dict _,en,k=>no_noex k
theorem bindTs_noex:∀(ts:Tgs) (ds:List D) (en:En) (k:Nat),bindTs ts ds en ≠ .ex k
 | .nil,[],en,k=>ok_noex k
 | .nil,_::_,en,k=>no_noex k
 | .cons t r,[],en,k=>no_noex k
 | .cons t r,d::ds,en,k=>bind_noex (bindT_noex t d en) (fun e1=>bindTs_noex r ds e1) k
end
theorem nox_noex {α:Type} {r:R α} (k:Nat):r.nox ≠ .ex k:=by cases r <;> intro h <;> cases h
theorem compL_noex {F:D→R (Option D)} (h:∀d k,F d ≠ .ex k):∀(ds:List D) (k:Nat),compL F ds ≠ .ex k
 | [],k=>ok_noex k
 | d::ds,k=>bind_noex (h d) (fun o=>bind_noex (compL_noex h ds) fun _=>ok_noex) k
section
variable {L:Lk} {N:List Str} {sc:Nms} {W:WX} {X:Cx} {K:PySem.W.Frag}
def dB (L:Lk) (K:PySem.W.Frag) (W:WX):Eo→TT
 | .none=>tYes
 | .some e=>dT L K W e
theorem imp_cmp {elt:E} {tg:Tg} {it:It} {ifs:Eo} {own:List (Str×Nat)} (ht:∀i∈tgSlots tg,i∈own.map (·.2)) {σ H Q} (h:dV L K W (.cmp elt tg it ifs own) σ H Q) :
  tLc (dI L K W it) (gD K tg) (dB L K W0 ifs) (dV L K W0 elt) (own.map (·.2)) σ H Q:=by
 obtain ⟨f0,H0,f,en,m,ot⟩:=h;generalize hvs:own.map (·.2)=vs at ht ⊢;have ot':Out L.cls W σ f H ((evI L.G L.c (dflT L.T) it en).bind fun ds=>(compL (fun d=>(bindT tg d (wipe en (own.map (·.2)))).bind fun en'=>(evB L.G L.c (dflT L.T) ifs en').nox.bind fun b =>
   if b then (L.ev elt en').nox.bind fun y=>R.ok (some y.1) else .ok none) ds).bind fun ys=>if ds.length≤line then R.ok (PyData.list ys,true) else .no) (Ac K f H Q):=ot
 rw [hvs] at ot';generalize hF:(fun d=>(bindT tg d (wipe en vs)).bind fun en'=>(evB L.G L.c (dflT L.T) ifs en').nox.bind fun b=>if b then (L.ev elt en').nox.bind fun y=>R.ok (some y.1) else .ok none)=F at ot';have hFx:∀d k,F d ≠ .ex k:=fun d k=>by
  rw [←hF];exact bind_noex (bindT_noex _ _ _) (fun en'=>bind_noex (fun k=>nox_noex k) fun b=>ite_noex (bind_noex (fun k=>nox_noex k) fun _=>ok_noex) ok_noex) k
 refine ⟨f0,H0,f,en,m,ot'.bind.imp (Po.refl m.po.sub) fun ds _ h1 J f1 H1 q1 wk D hD=>?_⟩;obtain ⟨ys,ey,h2⟩:=h1.bind.okk (compL_noex hFx ds);have hz:ds.length≤line:=by
  refine Classical.byContradiction fun hz=>?_;rw [if_neg hz] at h2;exact h2
 rw [if_pos hz] at h2;have hlen:∀n,n<ds.length→n<sizeLine:=fun n hn=>by rw [←line_eq];omega
 let St:Nat→Hp→Prop:=fun i H'=>i≤ds.length∧∃fi acc done rest,Po f1 H1 fi H'∧fi D=none∧H' D=some (.lst acc)∧DpAll K fi acc done∧compL F (ds.drop i) = .ok rest∧done++rest=ys∧done.length≤i
 refine ⟨fun i mm H'=>mm=ds.length-i∧St i H',⟨ds.length,rfl,Nat.zero_le _,f1,[],[],ys,q1.sub |> fun s=>(Po.refl s).newH hD,q1.sub.free hD,upd_same,.nil,ey,rfl,Nat.le_refl _⟩,?_⟩;rintro i mm H' ⟨rfl,hi,fi,acc,done,rest,q2,fD,HD,hacc,hcomp,hys,hdl⟩;have sm1:Same f1 H':=q2.sf.trans q2.sub;by_cases hlt:i<ds.length
 ·refine .inr ⟨wk.go i H' sm1 hlt,St (i+1),fun H'' hst=>⟨_,by omega,rfl,hst⟩,fun x H2 hy=>?_⟩;obtain ⟨d,hd,hw⟩:=wk.yld i H' x H2 hlt sm1 hy;obtain ⟨f2,q3,hx⟩:=hw fi q2.sf q2.sub;have hdrop:ds.drop i=d::ds.drop (i+1):=by
   rw [List.drop_eq_getElem_cons hlt];have:ds[i]=d:=by
    rw [List.getElem?_eq_getElem hlt] at hd;exact Option.some.inj hd
   rw [this]
  rw [hdrop] at hcomp;have hcomp':(F d).bind (fun o=>(compL F (ds.drop (i+1))).bind fun ys=>R.ok (consO o ys)) = .ok rest:=hcomp;obtain ⟨o,eo,hc2⟩:=R.of_bind hcomp';obtain ⟨rest',er,hc3⟩:=R.of_bind hc2;have erest:rest=consO o rest':=by cases hc3;rfl
  rw [←hF] at eo;obtain ⟨en',eb,eo2⟩:=R.of_bind eo;obtain ⟨b,ebb,eo3⟩:=R.of_bind eo2;have ebb:=R.of_nox ebb;have m2:=(m.mono (q1.trans (q2.trans q3))).wipes vs;have HD2:H2 D=some (.lst acc):=q3.sH.k HD;have fD2:f2 D=none:=q3.loose fD HD;refine ⟨f0,H0,f2,_,d,en',m2,hx,eb,fun σ' m' hwp=>⟨(hwp vs ht).trans (wipe_wipe σ vs),?_⟩⟩;have core:∀f3 H3,Po f2 H2 f3 H3→(if b=true then dV L K W0 elt σ' H3 fun y H4=>∃acc,H4 D=some (.lst acc)∧acc.length<sizeLine∧St (i+1) (L2.upd H4 D (.lst (acc++[y]))) else St (i+1) H3):=fun f3 H3 q4=>by
   have HD3:H3 D=some (.lst acc):=q4.sH.k HD2;have fD3:f3 D=none:=q4.loose fD2 HD2;cases b with
   | true =>
    rw [if_pos rfl] at eo3 ⊢;obtain ⟨p,ep,eo4⟩:=R.of_bind eo3;have ep:=R.of_nox ep;refine ⟨f0,H0,f3,en',m'.mono q4,?_⟩;rw [ep];intro v f4 H4 q5 hv;obtain ⟨f5,q6,hv2⟩:=hv.settle q5;have fD5:f5 D=none:=q6.loose fD3 HD3;have hal:=hacc.length;refine ⟨acc,q6.sH.k HD3,hlen _ (by omega),hlt,f5,acc++[v],done++[p.1],rest',?_,fD5,upd_same,?_,er,?_,by rw [List.length_append,List.length_singleton];omega⟩
    ·exact (q2.trans (q3.trans (q4.trans q6))).upd (nw hD) fD5 (q6.sH.k HD3)
    ·exact (dpa_same ((q3.trans (q4.trans q6)).sf) hacc).append (.cons hv2 .nil)
    ·cases eo4;rw [List.append_assoc];rw [erest] at hys;exact hys
   | false =>
    rw [if_neg Bool.false_ne_true] at eo3 ⊢;cases eo3;refine ⟨hlt,f3,acc,done,rest',q2.trans (q3.trans q4),fD3,HD3,dpa_same (q3.trans q4).sf hacc,er,?_,by omega⟩;rw [erest] at hys;exact hys
  cases ifs with
  | none =>
   have ebb':R.ok true=R.ok b:=ebb;cases ebb';exact core f2 H2 (Po.refl q3.sub)
  | some e =>
   refine ⟨f0,H0,f2,en',m',?_⟩;have ebb':evT L.G L.c (dflT L.T) e en' = .ok b:=ebb;rw [ebb'];exact fun f3 H3 q4=>core f3 H3 q4
 ·have ei:i=ds.length:=by omega
  subst ei;refine .inl ⟨wk.stop H' sm1,?_⟩;rw [List.drop_length] at hcomp;have:rest=[]:=by cases hcomp;rfl
  subst this;rw [List.append_nil] at hys;subst hys;exact h2 _ fi H' (q1.trans q2) ⟨done,D,acc,rfl,rfl,q1.sH.free hD,fD,HD,hacc⟩
theorem blk_ok (xc:XC L N sc W X) {scope:Scope} {own:List (Str×Nat)} (h:blkOkB N sc scope own=true):BlkOk X.N X.env.scope scope own:=by
 unfold blkOkB at h;simp only [Bool.and_eq_true,List.all_eq_true] at h;obtain ⟨⟨⟨⟨⟨h1,h2⟩,h3⟩,h4⟩,h5⟩,_⟩:=h;refine ⟨eq_of_beq h1,fun y hy=>eq_of_beq (h2 y hy),fun p hp=>by rw [xc.N];exact eq_of_beq (h3 p hp),fun y hy e=>?_,fun y hy e=>?_⟩
 ·have q:=h4 y hy;rw [e] at q;simp only [Bool.or_eq_true] at q;rcases q with (q | q) | q
  ·cases q
  ·exact .inl (xc.nm _ _ (eq_of_beq q)).1
  ·exact xc.nm _ _ (eq_of_beq q)
 ·have q:=h5 y hy;simp only [Bool.or_eq_true,Bool.not_eq_true'] at q;rcases q with (q | q) | q
  ·rcases e with e | e
   ·rw [e] at q;cases q
   ·rw [e] at q;cases q
  ·obtain ⟨p,hp,ep⟩:=List.any_eq_true.mp q;exact .inl (by rw [←eq_of_beq ep];exact List.mem_map_of_mem hp)
  ·right
   rw [xc.N];intro hm;rw [List.contains_iff_mem.mpr hm] at q;cases q
theorem XC.blk (xc:XC L N sc W X) {scope:Scope} {own:List (Str×Nat)} (h:blkOkB N sc scope own=true) (s:Shared) (H:Hp) (C:Addr) (cl:List (Str×Addr)) (fp:List Addr) :
  XC L N scope.names W0 (X.blk s H scope (compEnvC scope cl C X.env) fp):=by
 have bk:=blk_ok xc h;refine ⟨xc.lk,xc.N,xc.nd,?_,fun x k hk=>?_,xc.calm,xc.room,takes0,xc.py,fun z=>by
  have z2:=(Bool.and_eq_true_iff.mp (show (_ && !isMk scope.names)=true from h)).2;rw [z] at z2;cases z2⟩
 ·show (relS scope X.env.scope).kind = .function;exact bk.kind
 ·have keep:k ≠ .free→(relS scope X.env.scope).names.lookup x=some k:=fun hn=>lookup_relS_keep hn hk;have scp:(compEnvC scope cl C X.env).scope=relS scope X.env.scope:=rfl;cases k with
  | «local» => exact keep (by decide)
  | cell=>exact ⟨keep (by decide),by show (scope.names.lookup x==some .cell)=true;rw [hk];rfl⟩
  | free =>
   have hm:(x,NameKind.free)∈scope.names:=PySem.mem_of_lookup hk;have go:∀(ns:List (Str×NameKind)),ns.lookup x=some .free→(ns.map fun (n,k)=>if (k==NameKind.free&&X.env.scope.kind == .function&&X.env.scope.names.lookup n==some .cell) then (n,NameKind.cell) else (n,k)).lookup x=some .cell∨(ns.map fun (n,k)=>if (k==NameKind.free&&X.env.scope.kind == .function&&X.env.scope.names.lookup n==some .cell) then (n,NameKind.cell) else (n,k)).lookup x=some .free:=by
    intro ns;induction ns with
    | nil=>intro h;cases h
    | cons p r ih =>
     obtain ⟨n,k₀⟩:=p;intro h;cases hx:(x==n) with
     | true =>
      simp only [List.lookup_cons,hx] at h;cases h;by_cases hc:(NameKind.free==NameKind.free&&X.env.scope.kind == .function&&X.env.scope.names.lookup n==some .cell)=true
      ·left
       show List.lookup x ((if (NameKind.free==NameKind.free&&X.env.scope.kind == .function&&X.env.scope.names.lookup n==some .cell)=true then (n,NameKind.cell) else (n,NameKind.free))::_)=_;rw [if_pos hc];simp only [List.lookup_cons,hx]
      ·right
       show List.lookup x ((if (NameKind.free==NameKind.free&&X.env.scope.kind == .function&&X.env.scope.names.lookup n==some .cell)=true then (n,NameKind.cell) else (n,NameKind.free))::_)=_;rw [if_neg hc];simp only [List.lookup_cons,hx]
     | false =>
      simp only [List.lookup_cons,hx] at h;have q:=ih h;by_cases hc:(k₀==NameKind.free&&X.env.scope.kind == .function&&X.env.scope.names.lookup n==some .cell)=true
      ·show List.lookup x ((if (k₀==NameKind.free&&X.env.scope.kind == .function&&X.env.scope.names.lookup n==some .cell)=true then (n,NameKind.cell) else (n,k₀))::_)=_∨List.lookup x ((if (k₀==NameKind.free&&X.env.scope.kind == .function&&X.env.scope.names.lookup n==some .cell)=true then (n,NameKind.cell) else (n,k₀))::_)=_;rw [if_pos hc];simp only [List.lookup_cons,hx];exact q
      ·show List.lookup x ((if (k₀==NameKind.free&&X.env.scope.kind == .function&&X.env.scope.names.lookup n==some .cell)=true then (n,NameKind.cell) else (n,k₀))::_)=_∨List.lookup x ((if (k₀==NameKind.free&&X.env.scope.kind == .function&&X.env.scope.names.lookup n==some .cell)=true then (n,NameKind.cell) else (n,k₀))::_)=_;rw [if_neg hc];simp only [List.lookup_cons,hx];exact q
   exact go scope.names hk
  | globalImplicit=>exact keep (by decide)
  | _=>trivial
end
end AW
namespace AW
open PySem PySem.Spec PyProof.Rows L2
variable [CdT] [StA]
theorem and2 {a b:Bool} (h:(a&&b)=true):a=true∧b=true:=Bool.and_eq_true_iff.mp h
section
variable {L:Lk}
theorem imp_var {K:PySem.W.Frag} {W:WX} {i:Nat} {σ H Q} (h:dV L K W (.var i) σ H Q):tVar i σ H Q:=by
 obtain ⟨f0,H0,f,en,m,ot⟩:=h;have o1:Out L.cls W σ f H ((val en i).bind v1) (Ac K f H Q):=ot;unfold val at o1;cases e:en[i]? with
 | none=>rw [e] at o1;exact o1.elim
 | some s =>
  rw [e] at o1;cases s with
  | va d =>
   obtain ⟨v,hv,hd⟩:=m.va e;exact ⟨v,hv,Ac.here m.po.sub o1 hd⟩
  | un=>exact o1.elim
  | ow ds=>exact o1.elim
  | rd ds=>exact o1.elim
  | er ds=>exact o1.elim
  | fn ds=>exact o1.elim
  | dk ds=>exact o1.elim
  | fd ds=>exact o1.elim
  | dj ds=>exact o1.elim
  | st ds=>exact o1.elim
theorem imp_con {K:PySem.W.Frag} {W:WX} {d:D} {v:V} (hv:∀f,Dp K f v d) {σ H Q} (h:dV L K W (.con d) σ H Q):tC v σ H Q:=by
 obtain ⟨f0,H0,f,en,m,ot⟩:=h;exact Ac.here m.po.sub ot (hv f)
theorem imp_glb {K:PySem.W.Frag} {W:WX} {j:Nat} {v:V} (hv:∀f,Dp K f v (L.G j)) {σ H Q} (h:dV L K W (.glb j) σ H Q):tC v σ H Q:=by
 obtain ⟨f0,H0,f,en,m,ot⟩:=h;exact Ac.here m.po.sub ot (hv f)
theorem rO1_call {K:PySem.W.Frag} {W:WX} {o:O1} {a:E} {σ H Q} (h:dV L K W (.op1 o a) σ H Q):tCB (rB1 K o) (tCons (dR L K W a) tNil) σ H Q:=by
 obtain ⟨f0,H0,f,en,m,ot⟩:=imp_op1 h;exact ⟨f0,H0,f,en,m,ot.imp (Po.refl m.po.sub) fun d _ k v f' H' q hv=>⟨v,rfl,k v f' H' q hv⟩⟩
theorem rO2_call {K:PySem.W.Frag} {W:WX} {o:O2} {a b:E} {σ H Q} (h:dV L K W (.op2 o a b) σ H Q):tCB (rB2 K o) (tCons (dR L K W a) (tCons (dR L K W b) tNil)) σ H Q:=by
 obtain ⟨f0,H0,f,en,m,ot⟩:=imp_op2 h;refine ⟨f0,H0,f,en,m,ot.imp (Po.refl m.po.sub) fun d _ k v f' H' q hv=>?_⟩;obtain ⟨g0,G0,g,gen,gm,got⟩:=k v f' H' q hv;exact ⟨g0,G0,g,gen,gm,got.imp (Po.refl gm.po.sub) fun d _ k u f'' H'' q' hu=>⟨v,u,rfl,k u f'' H'' q' hu⟩⟩
theorem plain_ix {r:Expr} (h:plainE r=true):PlainIx r:=by
 intro o i;cases r <;> first
  | rfl
  | cases h
theorem call1_blt {N:List Str} {sc:Nms} {W:WX} {X:Cx} (xc:XC L N sc W X) {f:Str} {b:Expr} {p pos:Pos} {a:E} {o:O1} (hf:(o1Fn o==some f)=true) (hg:glOk sc f=true) (hc:ckE L.T L.cons L.clsN N sc a b=true) (ih:PE X b (dV L X.K W a)) :
  PE X (.Call (.Name f p) [b] [] pos) (dV L X.K W (.op1 o a)):=by
 have e:=eq_of_beq hf;obtain ⟨g1,g2,g3⟩:=gl_of xc hg;have pa:PA X [b] (tCons (dR L X.K W a) tNil):=pa_cons (sR_of xc hc ih) pa_nil (star_of hc []);have pl:(backTo pos (starEach [] X.env)).any (·.1)=false:=rfl;cases o <;> cases e
 case abs=>exact PE.imp (pe_callB cr_abs g1 (blt_of xc (by decide +kernel)) (by decide +kernel) pa g3 g2 (star_of hc []) pl) fun σ H Q q=>rO1_call q
 case len=>exact PE.imp (pe_callB cr_len g1 (blt_of xc (by decide +kernel)) PySem.boot_len pa g3 g2 (star_of hc []) pl) fun σ H Q q=>rO1_call q
 case all=>exact PE.imp (pe_callB (cr_allA xc.calm) g1 (blt_of xc (by decide +kernel)) (by decide +kernel) pa g3 g2 (star_of hc []) pl) fun σ H Q q=>rO1_call q
 case list=>exact PE.imp (pe_callTy cr_listA g1 (blt_of xc (by decide +kernel)) (by decide +kernel) pa g3 g2 (star_of hc []) pl) fun σ H Q q=>rO1_call q
 case tuple=>exact PE.imp (pe_callTy cr_tupleA g1 (blt_of xc (by decide +kernel)) (by decide +kernel) pa g3 g2 (star_of hc []) pl) fun σ H Q q=>rO1_call q
 case intB=>exact PE.imp (pe_callTy cr_intB g1 (blt_of xc (by decide +kernel)) (by decide +kernel) pa g3 g2 (star_of hc []) pl) fun σ H Q q=>rO1_call q
 case strI=>exact PE.imp (pe_callTy cr_strI g1 (blt_of xc (by decide +kernel)) (by decide +kernel) pa g3 g2 (star_of hc []) pl) fun σ H Q q=>rO1_call q
theorem call2_blt {N:List Str} {sc:Nms} {W:WX} {X:Cx} (xc:XC L N sc W X) {f:Str} {l r:Expr} {p pos:Pos} {a b:E} {o:O2} (hf:(o2Fn o==some f)=true) (hg:glOk sc f=true) (h1:ckE L.T L.cons L.clsN N sc a l=true) (h2:ckE L.T L.cons L.clsN N sc b r=true)
  (i1:PE X l (dV L X.K W a)) (i2:PE X r (dV L X.K W b)):PE X (.Call (.Name f p) [l,r] [] pos) (dV L X.K W (.op2 o a b)):=by
 have e:=eq_of_beq hf;obtain ⟨g1,g2,g3⟩:=gl_of xc hg;have pa:PA X [l,r] (tCons (dR L X.K W a) (tCons (dR L X.K W b) tNil)):=pa_cons (sR_of xc h1 i1) (pa_cons (sR_of xc h2 i2) pa_nil (star_of h2 [])) (star_of h1 [r]);have pl:(backTo pos (starEach [r] X.env)).any (·.1)=false:=by rw [star_of h2 []];rfl
 cases o <;> cases e
 case max2=>exact PE.imp (pe_callB (cr_max2 xc.calm) g1 (blt_of xc (by decide +kernel)) (by decide +kernel) pa g3 g2 (star_of h1 [r]) pl) fun σ H Q q=>rO2_call q
 case min2=>exact PE.imp (pe_callB (cr_min2 xc.calm) g1 (blt_of xc (by decide +kernel)) (by decide +kernel) pa g3 g2 (star_of h1 [r]) pl) fun σ H Q q=>rO2_call q
theorem glb_of {N:List Str} {sc:Nms} {W:WX} {X:Cx} (xc:XC L N sc W X) {j:Nat} {x:Str} {p:Pos} (h:((L.cons[j]?).map (·.1)==some x)=true) (hg:glOk sc x=true):PE X (.Name x p) (dV L X.K W (.glb j)):=by
 obtain ⟨g1,g2,g3⟩:=gl_of xc hg;have h':=eq_of_beq h;cases e:L.cons[j]? with
 | none=>rw [e] at h';cases h'
 | some q =>
  obtain ⟨n,d⟩:=q;rw [e] at h';cases h';obtain ⟨v,u,hm,hr,hd⟩:=xc.lk.con j _ _ e;have eg:L.G j=d:=by unfold Lk.G;rw [e];rfl
  exact PE.imp (pe_glob g1 hm hr g2) fun σ H Q q=>imp_glb (by rw [eg];exact hd) q
theorem emp_of {W:WX} {X:Cx} {p:Pos}:PE X (.Dict [] [] p) (dV L X.K W .emp):=PE.imp pe_dnewK fun σ H Q q r hr=>by
 obtain ⟨f0,H0,f,en,m,ot⟩:=q;have o1:Ac X.K f H Q (.dict [],false):=ot;exact o1 _ _ _ ((Po.refl m.po.sub).new hr) (.dcj upd_same .nil)
theorem con_of {W:WX} {X:Cx} {d:D} {c:Const} {i:Nat} {p:Pos} (h:conOk d c=true):PE X (.Constant c i p) (dV L X.K W (.con d)):=by
 cases d <;> cases c <;> first
  | (cases h;done)
  | skip
 case none.none=>exact PE.imp pe_non fun σ H Q q=>imp_con (fun _ => .non) q
 case bool.bool a b =>
  have e:a=b:=eq_of_beq h;subst e;exact PE.imp pe_bl fun σ H Q q=>imp_con (fun _ => .bl _) q
 case int.int a b =>
  have e:a=b:=eq_of_beq h;subst e;exact PE.imp pe_int fun σ H Q q=>imp_con (fun _ => .int _) q
 case str.str a b =>
  have e:a=b:=eq_of_beq h;subst e;exact PE.imp pe_str fun σ H Q q=>imp_con (fun _ => .str _) q
theorem call_of {N:List Str} {sc:Nms} {W:WX} {X:Cx} (xc:XC L N sc W X) {f:Str} {x:Expr} {xs:List Expr} {p pos:Pos} {j m:Nat} {es:Es} (h:(match L.T[j]? with | some g=>g.name==f&&decide (m≤g.dfl.length) | none=>false)=true) (hg:glOk sc f=true)
  (hc:ckEs L.T L.cons L.clsN N sc es (x::xs)=true) (ih:PA X (x::xs) (dAs L X.K W es)):PE X (.Call (.Name f p) (x::xs) [] pos) (dV L X.K W (.call j es m)):=by
 obtain ⟨g1,g2,g3⟩:=gl_of xc hg;cases e:L.T[j]? with
 | none=>rw [e] at h;cases h
 | some g =>
  rw [e] at h;obtain ⟨h1,h2⟩:=and2 h;have en:=str_beq h1;subst en;obtain ⟨fa,fd,dvs,ds,hm,hk,F,hv,hd,hb⟩:=xc.lk.fn j g e m (of_decide_eq_true h2);have st:starEach (x::xs) X.env=(false,eval x X.env)::starEach xs X.env∧(backTo pos (starEach xs X.env)).any (·.1)=false:=by
   cases es with
   | nil=>cases hc
   | cons e1 r =>
    have hc':(ckE L.T L.cons L.clsN N sc e1 x&&ckEs L.T L.cons L.clsN N sc r xs)=true:=hc;exact ⟨star_of (and2 hc').1 xs,stars_of (and2 hc').2⟩
  refine PE.imp (pe_callSD F xc.room g1 hm hk hb hv (fun σ=>passAt xc.tk σ) ih g2 st.1 st.2) fun σ H Q q=>imp_call (fun H=>?_) q;have ed:dflT L.T j m=g.dv m:=by unfold dflT;rw [e];rfl
  rw [ed];exact hd H
theorem lookup_mem {cs:List (Str×Nat)} {n:Str} {j:Nat} (h:cs.lookup n=some j):(n,j)∈cs:=by
 induction cs with
 | nil=>cases h
 | cons q cs ih =>
  obtain ⟨a,b⟩:=q;rw [List.lookup_cons] at h;by_cases e:(n==a)=true
  ·rw [e] at h;cases h;rw [str_beq e];exact List.mem_cons_self
  ·have e':(n==a)=false:=by simpa using e
   rw [e'] at h;exact List.mem_cons_of_mem _ (ih h)
theorem callL_of {N:List Str} {sc:Nms} {W:WX} {X:Cx} (xc:XC L N sc W X) {f:Str} {x:Expr} {xs:List Expr} {p pos:Pos} {i:Nat} {cs:List (Str×Nat)} {es:Es} (hn:nmOk N sc i f=true) (h:cs.all (fun q=>(match L.T[q.2]? with | some g=>g.name==q.1 | none=>false))=true)
  (hc:ckEs L.T L.cons L.clsN N sc es (x::xs)=true) (ih:PA X (x::xs) (dAs L X.K W es)):PE X (.Call (.Name f p) (x::xs) [] pos) (dV L X.K W (.callL i cs es)):=by
 obtain ⟨h1,h2,h3,h4⟩:=vis_of xc hn;have st:starEach (x::xs) X.env=(false,eval x X.env)::starEach xs X.env∧(backTo pos (starEach xs X.env)).any (·.1)=false:=by
  cases es with
  | nil=>cases hc
  | cons e1 r =>
   have hc':(ckE L.T L.cons L.clsN N sc e1 x&&ckEs L.T L.cons L.clsN N sc r xs)=true:=hc;exact ⟨star_of (and2 hc').1 xs,stars_of (and2 hc').2⟩
 refine PE.imp (t:=tCallN L X.K i cs (WE W) (dAs L X.K W es)) ⟨fun pins s σ H Q I hh=>?_⟩ fun σ H Q q=>imp_callL q;obtain ⟨n,j,hl,hs,ht⟩:=hh;have hq:=List.all_eq_true.mp h _ (lookup_mem hl);cases e:L.T[j]? with
 | none=>simp only [e] at hq;cases hq
 | some g =>
  simp only [e] at hq;have en:g.name=n:=str_beq hq;obtain ⟨fa,fd,dvs,ds,hm,hk,F,hv,hd,hb⟩:=xc.lk.fn j g e 0 (Nat.zero_le _);have hfa:=xc.lk.fga j g e;rw [hm] at hfa;cases hfa;have hdv:dvs=[]:=by
   have h0:=hd (fun _=>none);have:g.dv 0=[]:=by unfold Fn.dv;exact List.drop_length
   rw [this] at h0;cases h0;rfl
  subst hdv;rw [←en] at hs;refine wpAny_Call_Name_kw (thn ((pe_var (pos:=p) h1 h2 h3 h4).run pins s σ H (fun v H1=>v = .ref (He.ga X.K g.name)∧H1=H) I ⟨_,hs,rfl,rfl⟩) fun u s1 ⟨v,H1,I1,r1,q1⟩=>?_);obtain ⟨rfl,rfl⟩:=q1;cases r1;refine PySem.W.callWith_K (h₀:=X.base) I.ok.mod.kin hk (thn (ih.run pos pins s1 σ _ _ I1 ht) fun us s2 ⟨vs,H2,I2,r,q⟩=>⟨I2.kIn,?_⟩) st.1 st.2;exact run_fnSD F xc.room hb hv (passAt xc.tk σ) I2 r (by rw [List.append_nil];exact q)
theorem callv_of {N:List Str} {sc:Nms} {W:WX} {X:Cx} (xc:XC L N sc W X) {f:Str} {x:Expr} {xs:List Expr} {p pos:Pos} {j m:Nat} {es:Es} (h:(match L.T[j]? with | some g=>g.name==f&&decide (m≤g.dfl.length) | none=>false)=true) (hg:glOk sc f=true)
  (hc:ckEs L.T L.cons L.clsN N sc es (x::xs)=true) (ih:PA X (x::xs) (dAs L X.K W es)):PE X (.Call (.Name f p) (x::xs) [] pos) (dV L X.K W (.callv j es m)):=by
 obtain ⟨g1,g2,g3⟩:=gl_of xc hg;cases e:L.T[j]? with
 | none=>rw [e] at h;cases h
 | some g =>
  rw [e] at h;obtain ⟨h1,h2⟩:=and2 h;have en:=str_beq h1;subst en;obtain ⟨fa,fd,dvs,ds,hm,hk,F,hv,hd,hb⟩:=xc.lk.fn j g e m (of_decide_eq_true h2);have st:starEach (x::xs) X.env=(false,eval x X.env)::starEach xs X.env∧(backTo pos (starEach xs X.env)).any (·.1)=false:=by
   cases es with
   | nil=>cases hc
   | cons e1 r =>
    have hc':(ckE L.T L.cons L.clsN N sc e1 x&&ckEs L.T L.cons L.clsN N sc r xs)=true:=hc;exact ⟨star_of (and2 hc').1 xs,stars_of (and2 hc').2⟩
  refine PE.imp (pe_callSD F xc.room g1 hm hk hb hv (fun σ=>passAt xc.tk σ) ih g2 st.1 st.2) fun σ H Q q=>imp_callv (fun H=>?_) q;have ed:dflT L.T j m=g.dv m:=by unfold dflT;rw [e];rfl
  rw [ed];exact hd H
theorem ty_boot {n:String} (h:n = "int" ∨ n = "bool" ∨ n = "str" ∨ n = "tuple" ∨ n = "list"):bootBuiltins (Str.ofString n)=some (.type n)∧Str.ofString n∈blts:=by
 rcases h with rfl | rfl | rfl | rfl | rfl <;> exact ⟨by decide +kernel,by decide +kernel⟩
theorem tyName_ok {t:Ty} {e:Expr} (h:tyName t e=true):∃n p,t = .bi n∧e = .Name (Str.ofString n) p∧(n = "int" ∨ n = "bool" ∨ n = "str" ∨ n = "tuple" ∨ n = "list"):=by
 cases t with
 | ow c=>cases e <;> cases h
 | bi n =>
  cases e with
  | Name x p =>
   obtain ⟨h1,h2⟩:=and2 (show (x==Str.ofString n&&(n == "int" || n == "bool" || n == "str" || n == "tuple" || n == "list"))=true from h);have e1:=str_beq h1;subst e1;simp only [Bool.or_eq_true,beq_iff_eq] at h2;refine ⟨n,p,rfl,rfl,?_⟩;rcases h2 with (((h2 | h2) | h2) | h2) | h2
   ·exact .inl h2
   ·exact .inr (.inl h2)
   ·exact .inr (.inr (.inl h2))
   ·exact .inr (.inr (.inr (.inl h2)))
   ·exact .inr (.inr (.inr (.inr h2)))
  | _=>cases h
theorem pe_ty {N:List Str} {sc:Nms} {W:WX} {X:Cx} (xc:XC L N sc W X) {n:String} {p:Pos} (hn:n = "int" ∨ n = "bool" ∨ n = "str" ∨ n = "tuple" ∨ n = "list") (hg:glOk sc (Str.ofString n)=true):PE X (.Name (Str.ofString n) p) (tC (.ty n)):=by
 obtain ⟨g1,g2,g3⟩:=gl_of xc hg;exact pe_bltn g1 (blt_of xc (ty_boot hn).2) (ty_boot hn).1 rfl g3 g2
theorem any_ty {K:PySem.W.Frag} {d:D} {t:String} (h:∀n:String,(n = "int" ∨ n = "bool" ∨ n = "str" ∨ n = "tuple" ∨ n = "list")→kitB t n=some (isTy d (.bi n))):∀(ts:List Ty) (es:List Expr) (sc:Nms),tysOk sc ts es=true →
  ∃ns:List String,ts=ns.map .bi∧es.length=ns.length∧(∀n∈ns,n = "int" ∨ n = "bool" ∨ n = "str" ∨ n = "tuple" ∨ n = "list")∧PySem.W.kitAny K (.type t) (ns.map Value.type)=some (ts.any fun t=>isTy d t)
 | [],[],sc,_=>⟨[],rfl,rfl,fun _ z=>(List.not_mem_nil z).elim,rfl⟩
 | [],_::_,sc,z=>by cases z
 | _::_,[],sc,z=>by cases z
 | t1::ts,e::es,sc,z=>by
  obtain ⟨z1,z2⟩:=and2 (show (tyName t1 e&&tyGl sc t1&&tysOk sc ts es)=true from z);obtain ⟨z3,z4⟩:=and2 z1;obtain ⟨n,p,rfl,rfl,hn⟩:=tyName_ok z3;obtain ⟨ns,rfl,hl,hns,hk⟩:=any_ty h ts es sc z2;refine ⟨n::ns,rfl,by rw [List.length_cons,List.length_cons,hl],fun m hm=>?_,?_⟩
  ·rcases List.mem_cons.mp hm with rfl | hm
   ·exact hn
   ·exact hns m hm
  ·refine kitAny_cons (kit_ty (h n hn)) (fun e=>?_) (fun e=>?_)
   ·rw [hk];show some _=some (isTy d (.bi n)||_);rw [e];rfl
   ·show (isTy d (.bi n)||_)=true;rw [e];rfl
theorem pa_tys {N:List Str} {sc:Nms} {W:WX} {X:Cx} (xc:XC L N sc W X):∀{ts:List Ty} {es:List Expr} {ns:List String},tysOk sc ts es=true→ts=ns.map .bi→PA X es (fun σ H Q=>Q (ns.map V.ty) H)
 | [],[],[],_,_=>pa_nil
 | [],[],_::_,_,e=>by cases e
 | [],_::_,_,z,_=>by cases z
 | _::_,[],_,z,_=>by cases z
 | t::ts,e::es,[],z,q=>by cases q
 | t::ts,e::es,n::ns,z,q=>by
  cases q;obtain ⟨z1,z2⟩:=and2 (show (tyName (.bi n) e&&tyGl sc (.bi n)&&tysOk sc (ns.map .bi) es)=true from z);obtain ⟨z3,z4⟩:=and2 z1;obtain ⟨n',p,en,rfl,hn⟩:=tyName_ok z3;cases en;exact PA.imp (pa_cons (pe_ty xc hn z4) (pa_tys xc z2 rfl) rfl) fun σ H Q q=>q
theorem isi_of {N:List Str} {sc:Nms} {W:WX} {X:Cx} (xc:XC L N sc W X) {f:Str} {b:Expr} {xs:List Expr} {k:Nat} {p p2 pos:Pos} {a:E} {ts:List Ty} (hf:(f == "isinstance")=true) (hlen:ts.length≤100) (hg:glOk sc f=true) (hc:ckE L.T L.cons L.clsN N sc a b=true) (ht:tysOk sc ts xs=true) (ih:PE X b (dV L X.K W a)) :
  PE X (.Call (.Name f p) [b,.Tuple xs k p2] [] pos) (dV L X.K W (.isi a ts)):=by
 have e:=str_beq hf;subst e;obtain ⟨g1,g2,g3⟩:=gl_of xc hg;obtain ⟨ns,ets,hl,hns,_⟩:=any_ty (K:=X.K) (d := .none) (t := "NoneType") (fun n hn=>by rcases hn with rfl | rfl | rfl | rfl | rfl <;> decide +kernel) ts xs sc ht;have pt:PE X (.Tuple xs k p2) (tTup fun σ H Q=>Q (ns.map V.ty) H):=pe_tup (pa_tys xc ht ets);refine PE.imp (pe_callB call_isiT g1 (blt_of xc (by decide +kernel)) (by decide +kernel) (pa_cons (sR_of xc hc ih) (pa_cons pt pa_nil rfl) (star_of hc _)) g3 g2 (star_of hc _) rfl) fun σ H Q q=>?_;obtain ⟨f0,H0,f,en,m,ot⟩:=q;have o1:=Out.bind (show Out L.cls W σ f H ((rd1 a en (L.ev a en)).bind fun x=>v1 (.bool (ts.any fun t=>isTy x t))) (Ac X.K f H Q) from ot);refine ⟨f0,H0,f,en,m,o1.imp (Po.refl m.po.sub) fun d _ h1 v f1 H1 q1 hv=>?_⟩;have hz:ns.length≤1000:=by
  rw [ets,List.length_map] at hlen;omega
 ·refine ⟨by rw [List.length_map];exact Nat.le_of_lt (small1000 hz),fun tp htp=>?_⟩;obtain ⟨t,ty,hk⟩:=tyx_of q1.sub hv;obtain ⟨ns',ets',_,_,hka⟩:=any_ty (K:=X.K) hk ts xs sc ht;have ens:ns'=ns:=by
   have:ns'.map Ty.bi=ns.map Ty.bi:=by rw [←ets',ets]
   exact List.map_inj_right (fun a b h=>by cases h;rfl) |>.mp this
  subst ens;have sm:Same H1 (L2.upd H1 tp (.tup (ns'.map V.ty))):=fun a o e=>by rw [upd_ne (ne_of_none e htp)];exact e
  have q2:=q1.newH (o := .tup (ns'.map V.ty)) htp;have hv2:=hv.mono (f':=f1) (H':=L2.upd H1 tp (.tup (ns'.map V.ty))) ⟨SameT.of sm,fun _ _ h=>h,q2.sub,fun _ _ h => .inl h,id,fun t=>t.ext sm⟩;obtain ⟨t2,ty2,hk2⟩:=tyx_of q2.sub hv2;obtain ⟨ns2,ets2,_,_,hka2⟩:=any_ty (K:=X.K) hk2 ts xs sc ht;have ens2:ns2=ns':=by
   have:ns2.map Ty.bi=ns'.map Ty.bi:=by rw [←ets2,ets]
   exact List.map_inj_right (fun a b h=>by cases h;rfl) |>.mp this
  subst ens2;refine ⟨v,tp,ns2.map V.ty,.type t2,ns2.map Value.type,_,rfl,upd_same,?_,ty2,hka2,?_⟩
  ·have go:∀l:List String,Paired ClsV (l.map V.ty) (l.map Value.type):=by
    intro l;induction l with
    | nil=>exact .nil
    | cons n l ih=>exact .cons (.ty n) ih
   exact go ns2
  ·exact h1 _ f1 _ q2 (.bl _)
theorem isi1_of {N:List Str} {sc:Nms} {W:WX} {X:Cx} (xc:XC L N sc W X) {f x:Str} {b:Expr} {p p2 pos:Pos} {a:E} {ts:List Ty} (hf:(f == "isinstance")=true) (hg:glOk sc f=true) (hc:ckE L.T L.cons L.clsN N sc a b=true) (ht:tysOk sc ts [.Name x p2]=true) (ih:PE X b (dV L X.K W a)) :
  PE X (.Call (.Name f p) [b,.Name x p2] [] pos) (dV L X.K W (.isi a ts)):=by
 have e:=str_beq hf;subst e;obtain ⟨g1,g2,g3⟩:=gl_of xc hg;obtain ⟨ns,ets,hl,hns,_⟩:=any_ty (K:=X.K) (d := .none) (t := "NoneType") (fun n hn=>by rcases hn with rfl | rfl | rfl | rfl | rfl <;> decide +kernel) ts [.Name x p2] sc ht;obtain ⟨n,rfl⟩:∃n,ns=[n]:=by
  cases ns with
  | nil=>cases hl
  | cons n r=>cases r with
   | nil=>exact ⟨n,rfl⟩
   | cons _ _=>cases hl
 subst ets;obtain ⟨z1,z2⟩:=and2 (show (tyName (.bi n) (.Name x p2)&&tyGl sc (.bi n)&&tysOk sc [] [])=true from ht);obtain ⟨z3,z4⟩:=and2 z1;obtain ⟨n',p',en,ex,hn⟩:=tyName_ok z3;cases en;cases ex;refine PE.imp (pe_callB call_isi g1 (blt_of xc (by decide +kernel)) (by decide +kernel) (pa_cons (sR_of xc hc ih) (pa_cons (pe_ty xc hn z4) pa_nil rfl) (star_of hc _)) g3 g2 (star_of hc _) rfl) fun σ H Q q=>?_;obtain ⟨f0,H0,f,en,m,ot⟩:=q;have o1:=Out.bind (show Out L.cls W σ f H ((rd1 a en (L.ev a en)).bind fun x=>v1 (.bool (([n].map Ty.bi).any fun t=>isTy x t))) (Ac X.K f H Q) from ot);refine ⟨f0,H0,f,en,m,o1.imp (Po.refl m.po.sub) fun d _ h1 v f1 H1 q1 hv=>?_⟩;obtain ⟨t,ty,hk⟩:=tyx_of q1.sub hv;refine ⟨v,.ty n,.type t,.type n,_,rfl,.ty n,ty,kit_ty (hk n hn),?_⟩;have h2:Ac X.K f H Q (.bool (isTy d (.bi n)||false),false):=h1;rw [Bool.or_false] at h2;exact h2 _ f1 _ q1 (.bl _)
end
end AW
namespace AW
open PySem PySem.Spec PyProof.Rows L2
variable [CdT] [StA]
def rEr1 (K:PySem.W.Frag):List V→Hp→VK→Prop:=fun xs H Q=>∃(a:Addr) (k:Nat) (D:Addr) (c:V) (u:Value) (b:Bool),xs=[.ref a,c]∧H a=some (erO K k a)∧erC K k = .ref D∧ExcC K D∧ClsV c u∧PySem.W.kitOne K (.ref D) u=some b∧Q (.bl b) H
def rErT (K:PySem.W.Frag):List V→Hp→VK→Prop:=fun xs H Q=>∃(a:Addr) (k:Nat) (D:Addr) (tp:Addr) (cs:List V) (us:List Value) (b:Bool),xs=[.ref a,.ref tp]∧H a=some (erO K k a)∧erC K k = .ref D∧ExcC K D∧H tp=some (.tup cs)∧Paired ClsV cs us∧PySem.W.kitAny K (.ref D) us=some b∧Q (.bl b) H
section
variable {X:Cx} {pins:List (Addr×Obj)} {σ:L2.St} {H:Hp} {s:Shared}
theorem er_inst (I:Inv X pins σ H s) {a D:Addr} {k:Nat} (h:H a=some (erO X.K k a)) (e:erC X.K k = .ref D):∃oe,PySem.W.InstAt s.heap a oe D none:=by
 obtain ⟨⟨oe,vs,hg,hz,hd⟩,_⟩:=(show ObjOk X.prog X.w H s.heap a (erO X.K k a) from I.hok a _ h);rw [e] at hz;obtain ⟨oc,od,oda,osl⟩:=oe;obtain ⟨h1,h2⟩:=hz;dsimp only at h1 h2 hd
 subst h1 h2 hd;exact ⟨_,hg,rfl,rfl,trivial⟩
theorem call_er1:CallR X (.builtin "isinstance") (fun xs H Q=>rIsi X.K xs H Q∨rEr1 X.K xs H Q):=by
 intro pins s σ H xs us Q I r h;rcases h with h | ⟨a,k,D,c,u,b,rfl,ha,hk,C,kc,e,q⟩
 ·exact call_isi pins s σ H xs us Q I r h
 ·obtain ⟨u1,u2,rfl,r1,r2⟩:=vals2 r;cases (show u1=Value.ref a from r1);have e2:=kc.eq r2;subst e2;obtain ⟨oe,J⟩:=er_inst I ha hk;exact PySem.W.kia_one (PySem.W.handS_kitx_exc C.hg C.hk C.hs C.hd C.ha C.hn C.ht C.hm) I.kIn J e (fun z=>nomatch z) fun tk=>⟨.bl b,H,I.tok tk,rfl,q⟩
theorem call_erT:CallR X (.builtin "isinstance") (fun xs H Q=>rIsiT X.K xs H Q∨rErT X.K xs H Q):=by
 intro pins s σ H xs us Q I r h;rcases h with h | ⟨a,k,D,tp,cs,ws,b,rfl,ha,hk,C,hT,kc,e,q⟩
 ·exact call_isiT pins s σ H xs us Q I r h
 ·obtain ⟨u1,u2,rfl,r1,r2⟩:=vals2 r;cases (show u1=Value.ref a from r1);cases (show u2=Value.ref tp from r2);obtain ⟨oe,J⟩:=er_inst I ha hk;obtain ⟨_,its,rv,o,h1,h2,n,h3⟩:=(show ObjOk X.prog X.w H s.heap tp (.tup cs) from I.hok tp _ hT);have e3:=ClsV.all kc rv;subst e3;obtain ⟨oc,od,dt,sl⟩:=o;simp only at h2 h3;subst h2 h3;exact PySem.W.kia_tup (PySem.W.handS_kitx_exc C.hg C.hk C.hs C.hd C.ha C.hn C.ht C.hm) I.kIn J h1 e (fun z=>nomatch z) fun tk=>⟨.bl b,H,I.tok tk,rfl,q⟩
end
def teV (K:PySem.W.Frag):Te→V
 | .ow c=>(match erC K c with
  | .ref C => .ref C
  | _ => .non)
 | .top => .ref (He.ga K "AreaError")
 | .ve => .ty "ValueError"
def teU (K:PySem.W.Frag):Te→Value
 | .ow c=>erC K c
 | .top => .ref (He.ga K "AreaError")
 | .ve => .type "ValueError"
theorem teV_ow {K:PySem.W.Frag} {k:Nat} {C:Addr} (h:erC K k = .ref C):teV K (.ow k) = .ref C:=by
 show (match erC K k with | .ref C=>V.ref C | _=>V.non)=_;rw [h]
theorem teU_ow {K:PySem.W.Frag} {k:Nat} {C:Addr} (h:erC K k = .ref C):teU K (.ow k) = .ref C:=h
section
variable {L:Lk} {N:List Str} {sc:Nms} {W:WX} {X:Cx} {K:PySem.W.Frag}
theorem erB_ne {ns:List Str} (h:erB K ns=true) (hc:ns.contains "AreaError" = true) {n:Str} (hn:n∈ns) (h0:n ≠ ""):ExcC K (He.ga K n)∧PySem.W.kitOne K (.ref (He.ga K n)) (.type "ValueError")=some true∧PySem.W.kitOne K (.type "NoneType") (.ref (He.ga K n))=some false ∧
  PySem.W.exmOne K (.ref (He.ga K n)) (.ref (He.ga K "AreaError"))=some true∧∀m∈ns,m ≠ "" → PySem.W.kitOne K (.ref (He.ga K n)) (.ref (He.ga K m))=some (n==m||m == "AreaError"):=by
 unfold erB at h;rw [hc] at h;have h:ns.all (erB1 K ns)=true:=h;have z:=List.all_eq_true.mp h n hn;unfold erB1 at z;rcases Bool.or_eq_true_iff.mp z with z | z
 ·exact absurd (eq_of_beq z) h0
 ·simp only [Bool.and_eq_true,decide_eq_true_eq] at z;obtain ⟨⟨⟨⟨⟨z1,z2⟩,z3⟩,z4⟩,_⟩,z5⟩:=z;refine ⟨ecB_ok z1,z2,z3,z4,fun m hm h0=>?_⟩;have y:=List.all_eq_true.mp z5 m hm;rcases Bool.or_eq_true_iff.mp y with y | y
  ·exact absurd (eq_of_beq y) h0
  ·exact of_decide_eq_true y
theorem erB_self {ns:List Str} (h:erB K ns=true) (hc:ns.contains "AreaError" = true) {n:Str} (hn:n∈ns) (h0:n ≠ ""):PySem.W.exmOne K (.ref (He.ga K n)) (.ref (He.ga K n))=some true:=by
 unfold erB at h;rw [hc] at h;have h:ns.all (erB1 K ns)=true:=h;have z:=List.all_eq_true.mp h n hn;unfold erB1 at z;rcases Bool.or_eq_true_iff.mp z with z | z
 ·exact absurd (eq_of_beq z) h0
 ·simp only [Bool.and_eq_true,decide_eq_true_eq] at z;exact z.1.2
theorem mem_of_at {ns:List Str} {k:Nat} {n:Str} (h:ns[k]?=some n):n∈ns:=List.mem_of_getElem? h
theorem cls_at (lk:LkOk L X.prog X.w X.K X.mg X.base) {k:Nat} {n:Str} (h:L.clsN[k]?=some n) (h0:n ≠ ""):erC X.K k = .ref (He.ga X.K n)∧L.cls k = .ref (He.ga X.K n)∧X.mg n=some (.ref (He.ga X.K n)):=by
 obtain ⟨g1,g2⟩:=lk.ga k n h h0;obtain ⟨C,e1,e2,_⟩:=lk.exc k n h h0;rw [g1] at e1;refine ⟨?_,g1,?_⟩
 ·unfold erC;rw [g2]
 ·rw [e2,←e1]
theorem area_ne:("AreaError" : Str) ≠ "" := by decide +kernel
theorem errN_inj:∀(j k:Nat) (n:Str),errN[j]?=some n→errN[k]?=some n→j=k:=by
 intro j k n h1 h2;have nd:errN.Nodup:=by decide +kernel
 exact L2.nodup_ix nd h1 h2
theorem te_one (lk:LkOk L X.prog X.w X.K X.mg X.base) (hA:L.clsN.contains "AreaError" = true) {c:Nat} {n:Str} (hc:L.clsN[c]?=some n) (h0:n ≠ "") {t:Te} {e:Expr} (ht:teOk L.clsN sc t e=true) :
  ClsV (teV X.K t) (teU X.K t)∧PySem.W.kitOne X.K (.ref (He.ga X.K n)) (teU X.K t)=some (erTy c t)∧PySem.W.kitOne X.K (.type "NoneType") (teU X.K t)=some false:=by
 obtain ⟨b1,b2,b3,b4,b5⟩:=erB_ne lk.er hA (mem_of_at hc) h0;obtain ⟨g1,g2⟩:=lk.ga c n hc h0;cases t with
 | ow k =>
  cases e <;> first
   | (cases ht;done)
   | skip
  case Name x p =>
   obtain ⟨ht,t4⟩:=and2 (show (L.clsN[k]?==some x&&x != "" && x != "AreaError" && glOk sc x)=true from ht);obtain ⟨ht,t3⟩:=and2 ht;obtain ⟨t1,t2⟩:=and2 ht;have t1:=eq_of_beq t1;have t2:=bne_ne t2;have t3:=bne_ne t3;obtain ⟨k1,k2,k3⟩:=cls_at lk t1 t2;obtain ⟨d1,d2,d3,d4,d5⟩:=erB_ne lk.er hA (mem_of_at t1) t2;have y:=b5 x (mem_of_at t1) t2;have e1:(x==("AreaError" : Str))=false:=by
    cases q:(x==("AreaError" : Str)) with
    | true=>exact absurd (eq_of_beq q) t3
    | false=>rfl
   have e2:(n==x)=(c==k):=by
    obtain ⟨g3,g4⟩:=lk.ga k x t1 t2;by_cases q:c=k
    ·subst q;rw [hc] at t1;cases t1;simp
    ·have:n≠x:=fun z=>by
      subst z;exact q (errN_inj _ _ _ g2 g4)
     have q1:(n==x)=false:=by
      cases w:(n==x) with
      | true=>exact absurd (eq_of_beq w) this
      | false=>rfl
     rw [q1];simp [q]
   rw [e1,Bool.or_false,e2] at y;rw [teV_ow k1,teU_ow k1];exact ⟨.own _,y,d3⟩
 | top =>
  cases e <;> first
   | (cases ht;done)
   | skip
  case Name x p =>
   have hm:("AreaError" : Str)∈L.clsN:=List.contains_iff_mem.mp hA;have y:=b5 _ hm area_ne;obtain ⟨d1,d2,d3,d4,d5⟩:=erB_ne lk.er hA hm area_ne;rw [show (("AreaError" : Str) == "AreaError")=true from beq_self_eq_true _,Bool.or_true] at y;exact ⟨.own _,y,d3⟩
 | ve =>
  exact ⟨.ty _,b2,by show PySem.W.kitOne X.K (.type "NoneType") (.type "ValueError")=some false;exact kit_ty (by decide +kernel)⟩
theorem te_none (lk:LkOk L X.prog X.w X.K X.mg X.base) (hA:L.clsN.contains "AreaError" = true) {t:Te} {e:Expr} (ht:teOk L.clsN sc t e=true):ClsV (teV X.K t) (teU X.K t)∧PySem.W.kitOne X.K (.type "NoneType") (teU X.K t)=some false:=by
 obtain ⟨k,hk⟩:=List.mem_iff_getElem?.mp (List.contains_iff_mem.mp hA);obtain ⟨h1,_,h3⟩:=te_one (sc:=sc) lk hA hk area_ne ht;exact ⟨h1,h3⟩
theorem pe_te (xc:XC L N sc W X) {t:Te} {e:Expr} (ht:teOk L.clsN sc t e=true):PE X e (tC (teV X.K t)):=by
 cases t with
 | ow k =>
  cases e <;> first
   | (cases ht;done)
   | skip
  case Name x p =>
   obtain ⟨ht,t4⟩:=and2 (show (L.clsN[k]?==some x&&x != "" && x != "AreaError" && glOk sc x)=true from ht);obtain ⟨ht,t3⟩:=and2 ht;obtain ⟨t1,t2⟩:=and2 ht;obtain ⟨k1,k2,k3⟩:=cls_at xc.lk (eq_of_beq t1) (bne_ne t2);obtain ⟨g1,g2,g3⟩:=gl_of xc t4;rw [teV_ow k1];exact pe_glob g1 k3 rfl g2
 | top =>
  cases e <;> first
   | (cases ht;done)
   | skip
  case Name x p =>
   obtain ⟨ht,t3⟩:=and2 (show (x == "AreaError" && L.clsN.contains x&&glOk sc x)=true from ht);obtain ⟨t1,t2⟩:=and2 ht;have t1:=str_beq t1;subst t1;obtain ⟨k,hk⟩:=List.mem_iff_getElem?.mp (List.contains_iff_mem.mp t2);obtain ⟨k1,k2,k3⟩:=cls_at xc.lk hk area_ne;obtain ⟨g1,g2,g3⟩:=gl_of xc t3;exact pe_glob g1 k3 rfl g2
 | ve =>
  cases e <;> first
   | (cases ht;done)
   | skip
  case Name x p =>
   obtain ⟨t1,t3⟩:=and2 (show (x == "ValueError" && glOk sc x)=true from ht);have t1:=str_beq t1;subst t1;obtain ⟨g1,g2,g3⟩:=gl_of xc t3;exact pe_bltn g1 (blt_of xc (by decide +kernel)) (by decide +kernel) rfl g3 g2
theorem star_te {cl:List Str} {t:Te} {e:Expr} (ht:teOk cl sc t e=true) (es:List Expr) (env:Env):starEach (e::es) env=(false,eval e env)::starEach es env:=by
 cases t <;> cases e <;> first
  | (cases ht;done)
  | rfl
theorem pa_tes (xc:XC L N sc W X):∀{ts:List Te} {es:List Expr},tesOk L.clsN sc ts es=true→PA X es (fun σ H Q=>Q (ts.map (teV X.K)) H)
 | [],[],_=>pa_nil
 | [],_::_,z=>by cases z
 | _::_,[],z=>by cases z
 | t::ts,e::es,z=>by
  obtain ⟨z1,z2⟩:=and2 (show (teOk L.clsN sc t e&&tesOk L.clsN sc ts es)=true from z);exact PA.imp (pa_cons (pe_te xc z1) (pa_tes xc z2) (star_te z1 _ _)) fun σ H Q q=>q
theorem tes_any (lk:LkOk L X.prog X.w X.K X.mg X.base) (hA:L.clsN.contains "AreaError" = true) {c:Nat} {n:Str} (hc:L.clsN[c]?=some n) (h0:n ≠ ""):∀{ts:List Te} {es:List Expr},tesOk L.clsN sc ts es=true →
  Paired ClsV (ts.map (teV X.K)) (ts.map (teU X.K))∧PySem.W.kitAny X.K (.ref (He.ga X.K n)) (ts.map (teU X.K))=some (ts.any (erTy c))
 | [],[],_=>⟨.nil,rfl⟩
 | [],_::_,z=>by cases z
 | _::_,[],z=>by cases z
 | t::ts,e::es,z=>by
  obtain ⟨z1,z2⟩:=and2 (show (teOk L.clsN sc t e&&tesOk L.clsN sc ts es)=true from z);obtain ⟨h1,h2⟩:=tes_any lk hA hc h0 z2;obtain ⟨k1,k2,_⟩:=te_one lk hA hc h0 z1;refine ⟨.cons k1 h1,?_⟩;show PySem.W.kitAny X.K _ (teU X.K t::ts.map (teU X.K))=some (erTy c t||ts.any (erTy c));refine kitAny_cons k2 (fun e=>?_) (fun e=>?_)
  ·rw [e];exact h2
  ·rw [e];rfl
theorem tes_none (lk:LkOk L X.prog X.w X.K X.mg X.base) (hA:L.clsN.contains "AreaError" = true):∀{ts:List Te} {es:List Expr},tesOk L.clsN sc ts es=true →
  Paired ClsV (ts.map (teV X.K)) (ts.map (teU X.K))∧PySem.W.kitAny X.K (.type "NoneType") (ts.map (teU X.K))=some false
 | [],[],_=>⟨.nil,rfl⟩
 | [],_::_,z=>by cases z
 | _::_,[],z=>by cases z
 | t::ts,e::es,z=>by
  obtain ⟨z1,z2⟩:=and2 (show (teOk L.clsN sc t e&&tesOk L.clsN sc ts es)=true from z);obtain ⟨h1,h2⟩:=tes_none lk hA z2;obtain ⟨k1,k2⟩:=te_none lk hA z1;exact ⟨.cons k1 h1,kitAny_cons k2 (fun _=>h2) (fun e=>by cases e)⟩
theorem ks_at {cl:List Str} {ks:List Nat} (h:ksOk cl ks=true) {c:Nat} (hc:ks.contains c=true):∃n,cl[c]?=some n∧n ≠ "" := by
 have z:=List.all_eq_true.mp (show ks.all (fun k=>(cl[k]?).any fun (y:Str)=>y != "")=true from h) c (List.contains_iff_mem.mp hc);cases e:cl[c]? with
 | none=>rw [e] at z;cases z
 | some n =>
  rw [e] at z;exact ⟨n,rfl,bne_ne z⟩
theorem er_slot {i:Nat} {ks:List Nat} {ts:List Te} {σ H Q} (h:dV L K W (.isE i ks ts) σ H Q):∃f0 H0 f en,Mt K f0 H0 f H σ en∧((en[i]?=some (.va .none)∧Ac K f H Q (.bool false,false))∨∃c,ks.contains c=true∧en[i]?=some (.er c)∧Ac K f H Q (.bool (ts.any (erTy c)),false)):=by
 obtain ⟨f0,H0,f,en,m,o⟩:=h;have o':Out L.cls W σ f H (match en[i]? with | some (.va .none)=>v1 (.bool false) | some (.er c)=>(if ks.contains c then v1 (.bool (ts.any (erTy c))) else .no) | _=>R.no) (Ac K f H Q):=o;refine ⟨f0,H0,f,en,m,?_⟩;cases e:en[i]? with
 | none=>rw [e] at o';exact o'.elim
 | some s =>
  rw [e] at o';cases s with
  | er c =>
   have o':Out L.cls W σ f H (if ks.contains c then v1 (.bool (ts.any (erTy c))) else .no) (Ac K f H Q):=o';by_cases hk:ks.contains c=true
   ·rw [if_pos hk] at o';exact .inr ⟨c,hk,rfl,o'⟩
   ·rw [if_neg hk] at o';exact o'.elim
  | va d =>
   cases d with
   | none=>exact .inl ⟨rfl,o'⟩
   | _=>exact o'.elim
  | un=>exact o'.elim
  | ow d=>exact o'.elim
  | rd d=>exact o'.elim
  | fn d=>exact o'.elim
  | fd d=>exact o'.elim
  | dj d=>exact o'.elim
  | st d=>exact o'.elim
  | dk d=>exact o'.elim
theorem isE1_of (xc:XC L N sc W X) {f y x:Str} {p p1 p2 pos:Pos} {i:Nat} {ks:List Nat} {ts:List Te} (hf:(f == "isinstance")=true) (hg:glOk sc f=true) (hy:nmOk N sc i y=true) (hA:L.clsN.contains "AreaError" = true) (hk:ksOk L.clsN ks=true) (ht:tesOk L.clsN sc ts [.Name x p2]=true) :
  PE X (.Call (.Name f p) [.Name y p1,.Name x p2] [] pos) (dV L X.K W (.isE i ks ts)):=by
 have e:=str_beq hf;subst e;obtain ⟨g1,g2,g3⟩:=gl_of xc hg;obtain ⟨h1,h2,h3,h4⟩:=vis_of xc hy;obtain ⟨t,rfl⟩:∃t,ts=[t]:=by
  cases ts with
  | nil=>cases ht
  | cons t r=>cases r with
   | nil=>exact ⟨t,rfl⟩
   | cons _ _ =>
    obtain ⟨_,z⟩:=and2 ht;cases z
 obtain ⟨t1,_⟩:=and2 (show (teOk L.clsN sc t (.Name x p2)&&tesOk L.clsN sc [] [])=true from ht);refine PE.imp (pe_callB call_er1 g1 (blt_of xc (by decide +kernel)) (by decide +kernel) (pa_cons (pe_var h1 h2 h3 h4) (pa_cons (pe_te xc t1) pa_nil rfl) rfl) g3 g2 rfl rfl) fun σ H Q q=>?_;obtain ⟨f0,H0,f,en,m,o⟩:=er_slot q;rcases o with ⟨e,o⟩ | ⟨c,hc,e,o⟩
 ·obtain ⟨v,e1,hv⟩:=m.va e;cases hv;obtain ⟨k1,k2⟩:=te_none (sc:=sc) xc.lk hA t1;exact ⟨_,e1,.inl ⟨_,_,.type "NoneType", _,false,rfl,k1,.base .non,k2,o _ f H (Po.refl m.po.sub) (.bl _)⟩⟩
 ·obtain ⟨v,e1,hv⟩:=m.er e;obtain ⟨n,n1,n2⟩:=ks_at hk hc;obtain ⟨k1,k2,_⟩:=te_one (sc:=sc) xc.lk hA n1 n2 t1;obtain ⟨c1,_,_⟩:=cls_at xc.lk n1 n2;obtain ⟨b1,_⟩:=erB_ne xc.lk.er hA (mem_of_at n1) n2;have o:Ac X.K f H Q (.bool (erTy c t||false),false):=o;rw [Bool.or_false] at o;exact ⟨_,e1,.inr ⟨_,c,_,_,_,_,rfl,hv,c1,b1,k1,k2,o _ f H (Po.refl m.po.sub) (.bl _)⟩⟩
theorem isET_of (xc:XC L N sc W X) {f y:Str} {xs:List Expr} {k:Nat} {p p1 p2 pos:Pos} {i:Nat} {ks:List Nat} {ts:List Te} (hf:(f == "isinstance")=true) (hlen:ts.length≤100) (hg:glOk sc f=true) (hy:nmOk N sc i y=true) (hA:L.clsN.contains "AreaError" = true) (hk:ksOk L.clsN ks=true) (ht:tesOk L.clsN sc ts xs=true) :
  PE X (.Call (.Name f p) [.Name y p1,.Tuple xs k p2] [] pos) (dV L X.K W (.isE i ks ts)):=by
 have e:=str_beq hf;subst e;obtain ⟨g1,g2,g3⟩:=gl_of xc hg;obtain ⟨h1,h2,h3,h4⟩:=vis_of xc hy;have pt:PE X (.Tuple xs k p2) (tTup fun σ H Q=>Q (ts.map (teV X.K)) H):=pe_tup (pa_tes xc ht);refine PE.imp (pe_callB call_erT g1 (blt_of xc (by decide +kernel)) (by decide +kernel) (pa_cons (pe_var h1 h2 h3 h4) (pa_cons pt pa_nil rfl) rfl) g3 g2 rfl rfl) fun σ H Q q=>?_;obtain ⟨f0,H0,f,en,m,o⟩:=er_slot q;have lz:(ts.map (teV X.K)).length≤sizeLine:=by
  rw [List.length_map];exact Nat.le_of_lt (small1000 (by omega))
 have go:∀tp,H tp=none→Po f H f (L2.upd H tp (.tup (ts.map (teV X.K)))):=fun tp htp=>(Po.refl m.po.sub).newH htp;rcases o with ⟨e,o⟩ | ⟨c,hc,e,o⟩
 ·obtain ⟨v,e1,hv⟩:=m.va e;cases hv;obtain ⟨k1,k2⟩:=tes_none (sc:=sc) xc.lk hA ht;exact ⟨_,e1,lz,fun tp htp => .inl ⟨_,tp,_,.type "NoneType", _,false,rfl,upd_same,k1,.base .non,k2,o _ f _ (go tp htp) (.bl _)⟩⟩
 ·obtain ⟨v,e1,hv⟩:=m.er e;obtain ⟨n,n1,n2⟩:=ks_at hk hc;obtain ⟨k1,k2⟩:=tes_any (sc:=sc) xc.lk hA n1 n2 ht;obtain ⟨c1,_,_⟩:=cls_at xc.lk n1 n2;obtain ⟨b1,_⟩:=erB_ne xc.lk.er hA (mem_of_at n1) n2;exact ⟨_,e1,lz,fun tp htp => .inr ⟨_,c,_,tp,_,_,_,rfl,(go tp htp).sH.k hv,c1,b1,upd_same,k1,k2,o _ f _ (go tp htp) (.bl _)⟩⟩
theorem isN_slot {i:Nat} {g:Bool} {σ H Q} (h:dV L K W (.isN i g) σ H Q):∃v,σ[i]?=some (some v)∧Q (.bl (decide (v = .non) != g)) H:=by
 obtain ⟨f0,H0,f,en,m,o⟩:=h;have o':Out L.cls W σ f H (match en[i]? with | some (.va d)=>(isD d .none).bind fun b=>v1 (.bool (b != g)) | some (.er _)=>v1 (.bool g) | _=>R.no) (Ac K f H Q):=o;cases e:en[i]? with
 | none=>rw [e] at o';exact o'.elim
 | some s =>
  rw [e] at o';cases s with
  | er c =>
   obtain ⟨p,e1,_⟩:=m.er e;refine ⟨_,e1,?_⟩;have z:=(show Ac K f H Q (.bool g,false) from o') (.bl g) f H (Po.refl m.po.sub) (.bl g);have:(decide (V.ref p=V.non) != g)=g:=by simp
   rw [this];exact z
  | va d =>
   obtain ⟨v,e1,hv⟩:=m.va e;have e2:isD d .none = .ok (decide (v = .non)):=by
    rw [(show Vr K f H v d from .inl hv).isN];cases d <;> rfl
   have o':Out L.cls W σ f H ((isD d .none).bind fun b=>v1 (.bool (b != g))) (Ac K f H Q):=o';rw [e2] at o';exact ⟨v,e1,(show Ac K f H Q (.bool (decide (v = .non) != g),false) from o') _ f H (Po.refl m.po.sub) (.bl _)⟩
  | un=>exact o'.elim
  | ow d=>exact o'.elim
  | rd d=>exact o'.elim
  | fn d=>exact o'.elim
  | fd d=>exact o'.elim
  | dj d=>exact o'.elim
  | st d=>exact o'.elim
  | dk d=>exact o'.elim
theorem isN_of (xc:XC L N sc W X) {y:Str} {op:CmpOp} {i k:Nat} {g:Bool} {p p1 pos:Pos} (hop:(match op with | .Is => !g | .IsNot=>g | _=>false)=true) (hy:nmOk N sc i y=true) :
  PE X (.Compare (.Name y p) [op] [.Constant .none k p1] pos) (dV L X.K W (.isN i g)):=by
 obtain ⟨h1,h2,h3,h4⟩:=vis_of xc hy;cases op <;> first
  | (cases hop;done)
  | skip
 ·cases g with
  | true=>cases hop
  | false =>
   refine PE.imp (pe_cmpR op_isN (pe_var h1 h2 h3 h4) pe_non rfl) fun σ H Q q=>?_;obtain ⟨v,e1,z⟩:=isN_slot q;rw [Bool.bne_false] at z;exact ⟨v,e1,rfl,z⟩
 ·cases g with
  | false=>cases hop
  | true =>
   refine PE.imp (pe_cmpR op_notN (pe_var h1 h2 h3 h4) pe_non rfl) fun σ H Q q=>?_;obtain ⟨v,e1,z⟩:=isN_slot q;rw [Bool.bne_true] at z;exact ⟨v,e1,rfl,z⟩
theorem isN_b {i:Nat} {g:Bool} {en:En} {p:D×Bool} (h:L.ev (.isN i g) en = .ok p):∃k,p=(.bool k,false):=by
 have h:(match en[i]? with | some (.va d)=>(isD d .none).bind fun b=>v1 (.bool (b != g)) | some (.er _)=>v1 (.bool g) | _=>R.no) = .ok p:=h;split at h
 ·obtain ⟨b,_,h2⟩:=R.of_bind h;cases h2;exact ⟨_,rfl⟩
 ·cases h;exact ⟨_,rfl⟩
 ·cases h
theorem isN_t (xc:XC L N sc W X) {y:Str} {op:CmpOp} {i k:Nat} {g:Bool} {p p1 pos:Pos} (hop:(match op with | .Is => !g | .IsNot=>g | _=>false)=true) (hy:nmOk N sc i y=true) :
  PT X (.Compare (.Name y p) [op] [.Constant .none k p1] pos) (dT L X.K W (.isN i g)):=by
 obtain ⟨h1,h2,h3,h4⟩:=vis_of xc hy;cases op <;> first
  | (cases hop;done)
  | skip
 ·cases g with
  | true=>cases hop
  | false =>
   refine PT.imp (pt_cmpR op_isN (pe_var h1 h2 h3 h4) pe_non rfl) fun σ H Q q=>?_;obtain ⟨v,e1,z⟩:=isN_slot (dT_dV (fun _ z=>by cases z) (fun en p ep=>isN_b ep) q);rw [Bool.bne_false] at z;exact ⟨v,e1,rfl,z⟩
 ·cases g with
  | false=>cases hop
  | true =>
   refine PT.imp (pt_cmpR op_notN (pe_var h1 h2 h3 h4) pe_non rfl) fun σ H Q q=>?_;obtain ⟨v,e1,z⟩:=isN_slot (dT_dV (fun _ z=>by cases z) (fun en p ep=>isN_b ep) q);rw [Bool.bne_true] at z;exact ⟨v,e1,rfl,z⟩
end
end AW
namespace PySem.AutoSeq1
open PySem PySem.Spec PyProof.Rows
theorem ext_tup (l:Addr) (items:Array Value) (n:Nat) (b:Addr) (items2:Array Value) (n2:Nat) (dd:Option Addr) (sl:Array (Option Value)) (hs0:¬(!items.isEmpty&&Builtin.List.listTooLong (items.size+items2.size))=true) (hs1:items.size≤sizeLine) (hs2:items.size+items2.size≤sizeLine+1) :
  Meets (Builtin.«list.extend» ⟨[.ref l,.ref b],[]⟩) (fun _ R s=>s.heap.get? l=some { cls := .type "list", dict:=none,data := .seq items n,slots := #[] }∧s.heap.get? b=some ⟨.type "tuple", dd,.seq items2 n2,sl⟩∧R (.ok (.ret Value.none)) { s with heap:=s.heap.update l (Obj.mapSeq fun x=>x++items2),toks:=s.toks }) :=
 .of_wp fun prog w A R s h=>by
  obtain ⟨hp,g,d,tk,os⟩:=s;obtain ⟨hl,hb,h⟩:=h;have f1:=idx_int;have f2:=sub_tuple_tuple;have f3:=sub_list_list;have f4:=sub_tuple_list;have f5:=sub_list_tuple;
  have hz':(items++items2).size≤sizeLine+1:=by rw [Array.size_append];exact hs2
  wp_walk using (wpAny_updateSeq hl rfl (hz:=hs1) (_hz':=hz')),wpAny_loadPart' hl,wpAny_loadPart' hb;exact ⟨_,rfl,h⟩
end PySem.AutoSeq1
namespace AW
open PySem PySem.Spec PyProof.Rows L2
variable [CdT] [StA]
section
variable {X:Cx}
def rCntD (K:PySem.W.Frag):V→List V→Hp→VK→Prop:=fun x xs H Q=>∃(a:Addr) (y:V) (d:PyData) (ds:List PyData),x=V.ref a∧xs=[y]∧L2.Dp K H (V.ref a) (.list ds)∧L2.Dp K H y d ∧
 SeqAt.shaped (.list ds)=true∧SeqAt.shaped d=true∧Q (.int (ds.countP fun z=>PyData.eqv z d:Nat)) H
theorem mt_countD (hu:X.A.units+65<cLine):MtR X "list.count" (rCntD X.K):=by
 intro pins s σ H x xs v us Q I rx rxs h;obtain ⟨a,y,d,ds,rfl,rfl,hl,hy,sl,sd,q⟩:=h;cases rx;cases rxs with
 | cons ry rt =>
  rename_i uy ut;cases rt;obtain ⟨bs,r1⟩:=L2.Dp.reads I d y uy hy ry;have hxs:PyData.canLayAll0 ds=true:=SeqAt.canLay_of_shaped sl;have hroom:X.A.units+1+min (PyData.depthAll ds) d.depth<cLine:=room_in_shaped sd hu;cases hl with
  | lst hs ha =>
   obtain ⟨its,rv,⟨⟨cls,dd,data,sls⟩,n,ho,hc,hdn,hdt⟩,hlen⟩:=I.list hs;simp only at hc hdt;subst hc hdt;obtain ⟨as,h4⟩:=L2.Dp.readsAll I ds _ its ha rv;have hmap:its.map (SeqAt.readOf s.heap)=ds:=SeqAt.readsAll_map ds its as hxs h4;refine call_meets PySem.F.slot_list_count ⟨_,ho,rfl⟩ PySem.F.entry_list_count (PySem.F.args_list_count_2 _ _)
    (SeqAt.list_countAt a its.toArray n dd sls uy (fun u=>PyData.eqv (SeqAt.readOf s.heap u) d)) ⟨ho,SeqAt.items_eqAt (vs:=its.toArray) (show ReadsAll s.heap its.toArray.toList ds as from h4) r1 hxs (SeqAt.canLay_of_shaped sd) hroom,?_⟩
   have ec:its.toArray.toList.countP (fun u=>PyData.eqv (SeqAt.readOf s.heap u) d)=ds.countP fun z=>PyData.eqv z d:=by
    rw [←hmap,List.countP_map];rfl
   refine ⟨.int (ds.countP fun z=>PyData.eqv z d:Nat),H,I.tok _,⟨s.toks,?_⟩,q⟩;rw [ec]
def rExtT (K:PySem.W.Frag):V→List V→Hp→VK→Prop:=fun x vs H Q=>∃l b xs zs,x = .ref l∧vs=[.ref b]∧H l=some (.lst xs)∧SqT K H b zs∧xs.length+zs.length<sizeLine∧Q .non (upd H l (.lst (xs++zs)))
theorem mt_extT:MtM X "list.extend" (rExtT X.K):=by
 intro pins s σ H x vs v us Q I rx rv h;obtain ⟨l,b,xs,zs,rfl,rfl,hH,hB,hz,q⟩:=h;cases rx;obtain ⟨u,rfl,ru⟩:=rv.one;cases ru;obtain ⟨z,its,n,r,hl,e⟩:=I.lstM hH;obtain ⟨its2,r2,⟨⟨cls,dd,data,sls⟩,ho,hc,n2,hdt⟩,hl2⟩:=I.tuple hB;simp only at hc hdt;subst hc hdt;have hv2:=r2.length;have hsz:its.toArray.size+its2.toArray.size≤sizeLine:=by rw [List.size_toArray,List.size_toArray];omega
 have hlong:¬(!its.toArray.isEmpty&&Builtin.List.listTooLong (its.toArray.size+its2.toArray.size))=true:=by
  rw [notLongL hsz,Bool.and_false];exact Bool.false_ne_true
 refine call_meets F.slot_list_extend ⟨_,e,rfl⟩ F.entry_list_extend (F.args_list_extend_2 _ _)
  (AutoSeq1.ext_tup l its.toArray n b its2.toArray n2 dd sls hlong (by rw [List.size_toArray];omega) (by omega)) ⟨e,ho,?_⟩
 refine ⟨.non,_,I.lset (its':=its++its2) hH e (by simp) (r.append r2) ?_,rfl,q⟩;rw [List.length_append];omega
end
section
variable {L:Lk} {N:List Str} {sc:Nms} {W:WX} {X:Cx} {K:PySem.W.Frag}
theorem semM_noex (o:M1) (a:List D) (b:D) (k:Nat):semM o a b ≠ .ex k:=by
 cases o with
 | count=>exact ite_noex ok_noex no_noex k
 | index =>
  refine ite_noex (fun k=>?_) no_noex k;split
  ·exact ok_noex k
  ·exact no_noex k
theorem listR_noex (a:D) (k:Nat):listR a ≠ .ex k:=by cases a <;> first | exact no_noex k | exact ok_noex k
theorem imp_mth {o:M1} {a b:E} {r:V→List V→Hp→VK→Prop} (hr:∀{f H:Hp} {x y:V} {xs:List D} {dy:D} {p:D×Bool} {Q:VK},Same f H→Vr K f H x (.list xs)→Vr K f H y dy→semM o xs dy = .ok p→Ac K f H Q p→r x [y] H Q) {σ H Q} (h:dV L K W (.mth o a b) σ H Q) :
  tBM K "list" r (dR L K W a) (tCons (dR L K W b) tNil) σ H Q:=by
 obtain ⟨f0,H0,f,en,m,ot⟩:=h;have o1:=Out.bind (show Out L.cls W σ f H ((rd1 a en (L.ev a en)).bind fun x=>(listR x).bind fun xs=>(rd1 b en (L.ev b en)).bind fun y=>semM o xs y) (Ac K f H Q) from ot);refine ⟨f0,H0,f,en,m,o1.imp (Po.refl m.po.sub) fun dx _ h1 v f1 H1 q1 hv=>?_⟩;obtain ⟨xs,ex,h2⟩:=h1.bind.okk (listR_noex _);have ed:dx = .list xs:=by
  cases dx <;> first
   | (cases ex;done)
   | (cases ex;rfl)
 subst ed;refine ⟨?_,f0,H0,f1,en,m.mono q1,h2.bind.imp q1 fun dy _ h3 u f2 H2 q2 hu=>?_⟩
 ·obtain ⟨p,vs,rfl,hs,_⟩:=hv.list q1.sub;exact .inl ⟨rfl,vs,hs⟩
 ·obtain ⟨p,e,k⟩:=h3.okk (semM_noex _ _ _);exact hr q2.sub (hv.mono q2) hu e (k.mono (q1.trans q2))
theorem few_of {T:List Fn} {cs:List (Str×D)} {cl:List Str} {x:E} {e:Expr} {cp:Pos} (h:ckE T cs cl N sc x e=true):((backTo cp (starEach (e::[]) X.env)).all (fun x => !x.1)&&(backToKw cp (keywordEach [] X.env)).all (fun x=>x.1.isSome)
   && decide ((e::[]).length+([]:List Keyword).length+(if ([]:List Keyword).isEmpty then 0 else 1)<30))=true:=by
 rw [star_of h []];rfl
theorem mth_of (xc:XC L N sc W X) {o:M1} {a b:E} {x m:Str} {y:Expr} {px ap cp:Pos} (hm:(m1Fn o==m)=true) (ha:ckE L.T L.cons L.clsN N sc a (.Name x px)=true) (hb:ckE L.T L.cons L.clsN N sc b y=true) (hl:(ap.endLine==cp.line)=true) (ia:PE X (.Name x px) (dV L X.K W a)) (ib:PE X y (dV L X.K W b)) :
  PE X (.Call (.Attribute (.Name x px) m ap) [y] [] cp) (dV L X.K W (.mth o a b)):=by
 have e:=str_beq hm;subst e;cases o with
 | count =>
  refine PE.imp (pe_bm PySem.F.plainAttrs_list PySem.F.slot_list_count PySem.F.type_list_count (mt_countD xc.units) (sR_of xc ha ia) (pa_cons (sR_of xc hb ib) pa_nil (star_of hb [])) rfl (few_of hb) hl (star_of hb []) rfl) fun σ H Q q=>imp_mth (fun {f H x y xs dy p Q} sm hx hy e k=>?_) q;have e:(if SeqAt.shaped (.list xs)=true∧SeqAt.shaped dy=true then v1 (.int (xs.countP fun z=>z.eqv dy)) else .no)=R.ok p:=e;by_cases hz:SeqAt.shaped (.list xs)=true∧SeqAt.shaped dy=true
  ·rw [if_pos hz] at e;cases e;obtain ⟨a,vs,rfl,hs,_⟩:=hx.list sm;exact ⟨a,y,dy,xs,rfl,rfl,(hx.dp sm).shp hz.1,(hy.dp sm).shp hz.2,hz.1,hz.2,k _ f H (Po.refl sm) (.int _)⟩
  ·rw [if_neg hz] at e;cases e
 | index =>
  refine PE.imp (pe_bm PySem.F.plainAttrs_list PySem.F.slot_list_index PySem.F.type_list_index (mt_indexD xc.units) (sR_of xc ha ia) (pa_cons (sR_of xc hb ib) pa_nil (star_of hb [])) rfl (few_of hb) hl (star_of hb []) rfl) fun σ H Q q=>imp_mth (fun {f H x y xs dy p Q} sm hx hy e k=>?_) q;have e:(if SeqAt.shaped (.list xs)=true∧SeqAt.shaped dy=true then (match xs.findIdx? fun z=>z.eqv dy with | some j=>v1 (.int (j:Nat)) | none => .no) else .no)=R.ok p:=e;by_cases hz:SeqAt.shaped (.list xs)=true∧SeqAt.shaped dy=true
  ·rw [if_pos hz] at e;cases hj:xs.findIdx? fun z=>z.eqv dy with
   | none=>rw [hj] at e;cases e
   | some j =>
    rw [hj] at e;cases e;obtain ⟨hlt,h1,h2⟩:=List.findIdx?_eq_some_iff_getElem.mp hj;obtain ⟨a,vs,rfl,hs,_⟩:=hx.list sm;refine ⟨a,y,dy,xs,j,xs[j],rfl,rfl,(hx.dp sm).shp hz.1,(hy.dp sm).shp hz.2,hz.1,hz.2,List.getElem?_eq_getElem hlt,h1,fun i z' hi hz'=>?_,k _ f H (Po.refl sm) (.int _)⟩;obtain ⟨hil,rfl⟩:=List.getElem?_eq_some_iff.mp hz';have:=h2 i hi;simpa using this
  ·rw [if_neg hz] at e;cases e
end
end AW
namespace AW
open PySem PySem.Spec PyProof.Rows L2
variable [CdT] [StA]
section
variable {X:Cx} {pins:List (Addr×Obj)} {σ:L2.St} {H:Hp} {s:Shared}
theorem inv_unsuiteK {a:Addr} {q:Addr×Obj} (I:Inv (X.suite a (q::(X.pn++pins))) [] σ H s) (ok:X.Ok):Inv X (q::pins) σ H s :=
 ⟨ok,I.os,I.bare,I.base,I.loc,I.cell,I.free,I.freeC,fun p hp=>I.pin p (by
  rw [List.append_nil];rcases List.mem_append.mp hp with h | h
  ·exact List.mem_cons_of_mem _ (List.mem_append_left _ h)
  ·rcases List.mem_cons.mp h with h | h
   ·rw [h];exact List.mem_cons_self
   ·exact List.mem_cons_of_mem _ (List.mem_append_right _ h)),I.hok,I.len⟩
theorem inv_track {a:Addr} {oe:Obj} {vs:Array Value} {k:Nat} {K:PySem.W.Frag} (I:Inv X ((a,oe)::pins) σ H s) (hz:Zc (erC K k) none oe) (hd:oe.data = .fields vs) (h0:X.s_0.heap.get? a=none) (hp:∀p∈X.pn++pins,p.1≠a) :
  Inv X pins σ (upd H a (erO K k a)) s:=by
 obtain ⟨e,n,ne,nf,d⟩:=I.pin (a,oe) (List.mem_append_right _ List.mem_cons_self);have e:s.heap.get? a=some oe:=e;have n:H a=none:=n;have ne:a≠X.env.locals:=ne;have ne0:∀b o,X.s_0.heap.get? b=some o→b≠a:=fun b o e z=>by
  rw [z,h0] at e;cases e
 refine ⟨I.ok,I.os,I.bare,⟨I.base.keep,I.base.slot,fun b o e n hx=>?_,I.base.there,fun b xs q=>?_,fun b o u q=>?_,fun b ps q=>?_⟩,I.loc,I.cell,?_,fun x c ex=>?_,fun p hp'=>?_,I.hok.laidN (fun _ _ q=>q) n (erO_ok e hz hd),I.len⟩
 ·rw [upd_ne (ne0 b o e)];exact I.base.free b o e n hx
 ·have z:=I.base.tups b xs q;rw [upd_ne (ne_of_none z n)];exact z
 ·have z:=I.base.frzs b o u q;rw [upd_ne (ne_of_none z n)];exact z
 ·obtain ⟨m,z⟩:=I.base.tbls b ps q;exact ⟨m,by rw [upd_ne (ne_of_none z n)];exact z⟩
 ·rw [upd_ne (Ne.symm ne)];exact I.free
 ·have hc:c≠a:=fun z=>by
   obtain ⟨v,o,ho,hdc⟩:=I.cell x c ex;rw [z,e] at ho;cases ho;rw [hd] at hdc;cases hdc
  rw [upd_ne hc];exact I.freeC x c ex
 ·have hm:p∈X.pn++(a,oe)::pins:=by
   rcases List.mem_append.mp hp' with h | h
   ·exact List.mem_append_left _ h
   ·exact List.mem_append_right _ (List.mem_cons_of_mem _ h)
  obtain ⟨p1,p2,p3,p4,p5⟩:=I.pin p hm;exact ⟨p1,by rw [upd_ne (hp p hp')];exact p2,p3,p4,p5⟩
end
def wKeep (K:PySem.W.Frag) (c:Value) (h i:Nat) (D:Ends):WX:=fun cls d σ H =>
 PySem.W.exmOne K cls c=some true∧d=none∧∃k,cls=erC K k∧∀a,H a=none→D.nx (((σ.set h (some (.ref a))).set i (some (.ref a))).set h none) (upd H a (erO K k a))
section
variable {X:Cx} {x n m:Str} {c:Value} {h i:Nat} {body:List Stmt} {np pn pm pa pos pos':Pos} {tb:WX→TS}
theorem ps_try_keep (hs:X.stack=X.env::X.outer) (hf:X.env.frame=some X.env.locals) (hex:X.ex=[]) (hN:X.N.Nodup) (hh:X.N[h]?=some n) (hi:X.N[i]?=some m) (hne:h≠i) (hln:X.env.kindOf n=some .local) (hlm:X.env.kindOf m=some .local)
  (hd1:(n==("__debug__" : Str))=false) (hd2:(n==("__classdict__" : Str))=false) (hc:Names X x c)
  (hb:∀(W:WX) (pn:List (Addr×Obj)) (xe:Value→Shared→Prop),Takes (X.tr pn xe) W→PassesOwn (model X.prog X.w) X.A X.env xe→PSs (X.tr pn xe) body (tb W)) :
  PS X (.Try body [.ExceptHandler (some (.Name x np)) (some n) [.Assign [.Name m pm] (.Name n pn) pa] pos'] [] [] pos) (fun D σ H=>tb (wKeep X.K c h i D) D σ H):=by
 refine ⟨fun pins s σ H D I hh0=>?_⟩;have ok:=I.ok;have hfr:X.A.frames=some (X.env::X.outer):=by rw [ok.frames,hs]
 have hloc:Loc X.env.scope n := .inl hln;refine wpAny_Try_except ?_;refine wpAny_mono ((hb (wKeep X.K c h i D) (X.pn++pins) (fun e s₁=>wpAny (model X.prog X.w) X.A (noteFrame e X.env) (fun _ s₂=>wpAny (model X.prog X.w) X.A (setFlight e none) (fun _ s₃ =>
  wpAny (model X.prog X.w) X.A (handleBy e X.env [.ExceptHandler (some (.Name x np)) (some n) [.Assign [.Name m pm] (.Name n pn) pa] pos']) (SP X pins D) X.xe s₃) X.xe s₂) X.xe s₁) (fun u s' xx=>?_) PassesOwn.looking).run [] s σ H D (I.toTry _) hh0) (fun f s1 hsp=>?_) (fun e s1 he=>he)
 ·obtain ⟨a,B,sI,pins',σ',H',cls,d,rfl,J',nb,up,sky,na,os,ag,hb1,rfl,k,hcls,hw⟩:=xx;have J:Inv X pins σ' H' sI:=J'.ofTry ok;have sky':Sky B (X.env::X.outer) a (Zc cls none) X.env.locals s'.heap:=by rw [←hs];exact sky
  show wpAny (model X.prog X.w) X.A (noteFrame (.ref a) X.env) _ _ _;refine Sky.land Zc.steady hfr hf sky' fun h3 fl3 up3=>?_;have J3:Inv X pins σ' H' { s' with heap:=h3 }:=J.landed nb fl3.1 (up.trans up3) os ag;obtain ⟨oe3,vs3,he3,hz3,hd3⟩:=fl3.there;have notFr:∀{h:Heap} {o:Obj} {vs:Array Value},h.FunFrames B (X.env::X.outer)→h.get? a=some o→o.data = .fields vs→a ∉ frs (X.env::X.outer):=fun {h o vs} ff e dd hm=>by
   obtain ⟨_,o',e',hnf⟩:=ff.mem hm;rw [e] at e';cases e'
   exact hnf _ dd
  have nfr:=notFr fl3.2.2.1 he3 hd3;have nB:B.get? a=none:=fl3.2.1;have nI:∀o,sI.heap.get? a≠some o:=fun o e=>by
   have z:=nb a o e (by rw [hs];exact nfr);rw [nB] at z;cases z
  have n0:X.s_0.heap.get? a=none:=by
   cases e:X.s_0.heap.get? a with
   | none=>rfl
   | some o =>
    obtain ⟨o',e'⟩:=J.base.there a o e (by rw [hex];exact fun z=>nomatch z);exact absurd e' (nI o')
  have npin:∀p∈X.pn++pins,p.1≠a:=fun p hp z=>by
   obtain ⟨p1,_⟩:=J.pin p hp;rw [z] at p1;exact nI _ p1
  have nL:a≠X.env.locals:=fun z=>nfr (List.mem_filterMap.mpr ⟨X.env,List.mem_cons_self,by rw [hf,z]⟩);have nF:a ∉ X.fs:=fun hm=>by
   obtain ⟨e,he,q⟩:=List.mem_filterMap.mp hm;exact nfr (List.mem_filterMap.mpr ⟨e,List.mem_cons_of_mem _ he,q⟩)
  have S3:=J3.suite he3 hd3 na nL nF;refine wpAny_handleBy_cons (codeAny_handlers_test ?_) (by intro q;cases q);have LT:PySem.W.Looks (model X.prog X.w) h3 (typeOf (.ref a)) cls:=fun A Q E s k q=>wpAny_typeOf_ref (k _ _ he3) (by rw [hz3.1];exact q);have LM:=PySem.W.exm_one (M:=model X.prog X.w) (J3.kIn) LT hb1;have test:∀{Q:Value→Shared→Prop} {E:Value→Shared→Prop},Q c { s' with heap:=h3 }→wpAny (model X.prog X.w) (X.A.mark (some (.ref a))) (eval (.Name x np) X.env) Q E { s' with heap:=h3 }:=fun {Q E} q=>by
   obtain ⟨hg,hdbg,hm | ⟨hm,hv,hnn⟩⟩:=hc
   ·exact ld_glob (X:=X.suite a ((a,oe3)::(X.pn++pins))) S3 hg hm q hdbg
   ·exact ld_blt (X:=X.suite a ((a,oe3)::(X.pn++pins))) S3 hg hm hv q hnn hdbg
  refine test (LM.here ?_);refine codeAny_handlers_suite_as ?_;refine HandSPX.lands_againZ fl3 fun h4 fl4 up4=>?_;have J4:Inv X pins σ' H' { s' with heap:=h4 }:=J.landed nb fl4.1 ((up.trans up3).trans up4) os ag;obtain ⟨oe4,vs4,he4,hz4,hd4⟩:=fl4.there;have S4:=J4.suite he4 hd4 na nL nF;refine store_ok (X:=X.suite a ((a,oe4)::(X.pn++pins))) (v := .ref a) S4 hN hh hloc rfl (fun s5 S5=>?_) (.inr hln);have hlen:h<σ'.length:=by
   rw [J.len];exact (List.getElem?_eq_some_iff.mp hh).1
  have suite:PSs (X.suite a ((a,oe4)::(X.pn++pins))) [.Assign [.Name m pm] (.Name n pn) pa] (tAsg (tVar h) (gName i)) :=
   pss_one (ps_set (X:=X.suite a ((a,oe4)::(X.pn++pins))) hN hi (.inl hlm) (pe_var (X:=X.suite a ((a,oe4)::(X.pn++pins))) hh (.inl hln) hd1 hd2) rfl (.inr hlm))
  have q5:tAsg (tVar h) (gName i) { nx:=fun σ6 H6=>σ6=(σ'.set h (some (.ref a))).set i (some (.ref a))∧H6=H',rt:=fun _ _=>False,bk:=fun _ _=>False,ct:=fun _ _=>False } (σ'.set h (some (.ref a))) H' :=
   ⟨.ref a,List.getElem?_set_self hlen,rfl,rfl⟩
  refine wpAny_mono (suite.run [] s5 _ H' _ S5 q5) (fun f s6 hsp=>?_) (fun _ _ z=>False.elim z);cases f with
  | next =>
   obtain ⟨σ6,H6,S6,rfl,rfl⟩:=hsp;refine gone_ok (inv_unsuiteK S6 ok) hN hh hln fun s7 J7=>?_;rw [hcls] at hz4;exact ⟨_,_,inv_track J7 hz4 hd4 n0 npin,hw a na⟩
  | brk =>
   obtain ⟨σ6,H6,S6,q6⟩:=hsp;exact q6.elim
  | cont =>
   obtain ⟨σ6,H6,S6,q6⟩:=hsp;exact q6.elim
  | ret u =>
   obtain ⟨v6,σ6,H6,S6,r6,q6⟩:=hsp;exact q6.elim
 ·cases f with
  | next =>
   obtain ⟨σ',H',J',q⟩:=hsp;exact wpAny_execs_nil ⟨σ',H',J'.ofTry ok,q⟩
  | brk =>
   obtain ⟨σ',H',J',q⟩:=hsp;exact ⟨σ',H',J'.ofTry ok,q⟩
  | cont =>
   obtain ⟨σ',H',J',q⟩:=hsp;exact ⟨σ',H',J'.ofTry ok,q⟩
  | ret u =>
   obtain ⟨v,σ',H',J',r,q⟩:=hsp;exact ⟨v,σ',H',J'.ofTry ok,r,q⟩
end
end AW
namespace AW
open PySem PySem.Spec PyProof.Rows L2
variable [CdT] [StA]
section
variable {L:Lk} {N:List Str} {sc:Nms} {W:WX} {X:Cx}
theorem takes_len {X:Cx} {W:WX} (t:Takes X W):Takes X (fun cls d σ H=>σ.length=X.N.length→W cls d σ H):=fun u s' ⟨a,B,sI,pins,σ,H,cls,d,e,I,nb,up,sky,na,os,ag,w⟩ =>
 t u s' ⟨a,B,sI,pins,σ,H,cls,d,e,I,nb,up,sky,na,os,ag,w I.len⟩
theorem band {a b:Bool} (h:(a&&b)=true):a=true∧b=true:=Bool.and_eq_true_iff.mp h
theorem bnot {a:Bool} (h:(!a)=true):a=false:=by cases a <;> simp_all
theorem lamOk_s (xc:XC L N sc W X) {scope:Scope} (h:lamOk sc scope=true):LamX.LamS X.env.scope scope:=by
 unfold lamOk at h;obtain ⟨h,h5⟩:=band h;obtain ⟨h,h4⟩:=band h;obtain ⟨h,h3⟩:=band h;obtain ⟨h1,h2⟩:=band h;have a5:=List.all_eq_true.mp h5;refine ⟨eq_of_beq h1,bnot h2,bnot h3,fun y hy=>?_,fun y hy e=>?_⟩
 ·obtain ⟨z,_⟩:=band (a5 y hy);obtain ⟨z1,z2⟩:=band z;refine ⟨?_,?_⟩
  ·intro q;rw [q] at z1;cases z1
  ·intro q;rw [q] at z2;cases z2
 ·obtain ⟨_,z⟩:=band (a5 y hy);rw [e] at z;simp only [Bool.or_eq_true] at z;rcases z with (z | z) | z
  ·cases z
  ·exact .inl (xc.nm _ _ (eq_of_beq z)).1
  ·exact xc.nm _ _ (eq_of_beq z)
theorem XC.lam (xc:XC L N sc W X) (h32:32≤L.lev) {scope:Scope} (h:lamOk sc scope=true) {A:Around} {outer:List Env} {s:Shared} {H:Hp} {E:XK} {f c' l:Addr} (hl:s.heap.objs.size=l) (hr:Room L.lev (A.deeper (LamX.lamEnv X scope l f c'))) :
  XC L N scope.names (fun cls d _ H=>E cls d H) (LamX.lamCx X A outer s H E scope f c'):=by
 subst hl;have S:=lamOk_s xc h;have nk:isMk scope.names=false:=by
  unfold lamOk at h;obtain ⟨h,_⟩:=band h;exact bnot (band h).2
 refine ⟨xc.lk,xc.N,xc.nd,S.kind,fun x k hk=>?_,rfl,hr,takes_of rfl rfl rfl rfl,?_,fun z=>by rw [nk] at z;cases z⟩
 ·have hm:(x,k)∈scope.names:=PySem.mem_of_lookup hk;cases k with
  | «local» => exact absurd rfl (S.own _ hm).1
  | cell=>exact absurd rfl (S.own _ hm).2
  | free=>exact .inr hk
  | globalImplicit=>exact hk
  | globalExplicit=>trivial
 ·intro hfr M s' hk';have hN:s'.heap.NoSeer:=(seeB_ok xc.lk.see.1 M).keeps hk';refine PylongRoom.of (M.nolimit.keeps hk') ?_ (SeerAt.of hN xc.lk.see.2 hfr S.gen S.co rfl rfl);have z:=hr.dp;show (A.deeper (LamX.lamEnv X scope s.heap.objs.size f c')).depth+100<recursionLimit;omega
def Rest (L:Lk) (K:PySem.W.Frag) (j:Nat) (s:Sl) (v:V) (H':Hp) (Q:VK):Prop :=
 ∃f',Same f' H'∧(LamX.Tabs CdT.T H'∧∀b ps,f' b≠some (.tbl ps))∧ArgOk K f' H' v s∧((∃k,s = .er k)∨s = .va .none)∧(match L.c j [.un,.un,s] with
  | .ok p=>Ac K f' H' Q p
  | _=>False)
def eR (L:Lk) (K:PySem.W.Frag) (j:Nat) (Q:VK):XK:=fun cls d H'=>d=none∧PySem.W.exmOne K cls (.ref (He.ga K "AreaError"))=some true∧∃k,cls=erC K k∧∀a,H' a=none→Rest L K j (.er k) (.ref a) (upd H' a (erO K k a)) Q
def ttR (L:Lk) (K:PySem.W.Frag) (j:Nat):(XK→Hp→VK→Prop)→Hp→VK→Prop:=fun tl H Q=>∀Q':VK,(∀v H',Rest L K j (.va .none) .non H' Q→Q' v H')→tl (eR L K j Q) H Q'
theorem XC1.xc {lev:Nat} {Y:Cx} (x:XC1 Y.prog Y.w Y.K Y.mg Y.base lev N sc Y) (lk:LkOk L Y.prog Y.w Y.K Y.mg Y.base) (hl:L.lev≤lev):XC L N sc W0 Y :=
 ⟨lk,x.N,x.nd,x.kind,x.nm,x.calm,x.room.mono hl,takes0,x.py,fun z=>by rw [x.nmk] at z;cases z⟩
structure RfH (cl N:List Str) (sc:Nms) (h i:Nat) (s1 s2:Stmt) (e1 a n:Str):Prop where
 t:∃p1 k1 p2 p3 p4 p5 p6 p7 p8 p9 p10 p11 p12,s1 = .Assign [.Name e1 p1] (.Constant .none k1 p2) p3∧s2 = .Try [.Expr (.Call (.Name a p4) [] [] p5) p6] [.ExceptHandler (some (.Name "AreaError" p7)) (some n) [.Assign [.Name e1 p8] (.Name n p9) p10] p11] [] [] p12
 na:nmOk N sc 0 a=true
 ne:nmOk N sc i e1=true
 nn:nmOk N sc h n=true
 le:sc.lookup e1=some .local
 ln:sc.lookup n=some .local
 cl:cl[9]?=some ("AreaError" : Str)
 gl:glOk sc "AreaError" = true
 h0:h≠0
 i0:i≠0
 hi:h≠i
 nmk:isMk sc=false
theorem rfOk_h {cl N:List Str} {sc:Nms} {h i:Nat} {s1 s2:Stmt} (hok:rfOk cl N sc h i s1 s2=true):∃e1 a n,RfH cl N sc h i s1 s2 e1 a n:=by
 unfold rfOk at hok;split at hok
 case h_2=>cases hok
 case h_1 =>
  obtain ⟨hok,h14⟩:=band hok;obtain ⟨hok,h13⟩:=band hok;obtain ⟨hok,h12⟩:=band hok;obtain ⟨hok,h11⟩:=band hok;obtain ⟨hok,h10⟩:=band hok;obtain ⟨hok,h9⟩:=band hok;obtain ⟨hok,h8⟩:=band hok;obtain ⟨hok,h7⟩:=band hok;obtain ⟨hok,h6⟩:=band hok;obtain ⟨hok,h5⟩:=band hok;obtain ⟨hok,h4⟩:=band hok;obtain ⟨hok,h3⟩:=band hok;obtain ⟨h1,h2⟩:=band hok;have h1:=str_beq h1;subst h1;have h2:=str_beq h2;subst h2;have h8:=str_beq h8;subst h8;exact ⟨_,_,_,⟨_,_,_,_,_,_,_,_,_,_,_,_,_,rfl,rfl⟩,h3,h4,h5,eq_of_beq h6,eq_of_beq h7,eq_of_beq h9,h10,bne_iff_ne.mp h11,bne_iff_ne.mp h12,bne_iff_ne.mp h13,bnot h14⟩
theorem rf_run {Y:Cx} {sc:Nms} {j h i:Nat} {Ng:List Str} {s1 s2:Stmt} {rest:List Stmt} {a0:Str} {f:Addr} {PZ:Hp→Prop} (x1:XC1 Y.prog Y.w Y.K Y.mg Y.base L.lev Ng sc Y) (lk:LkOk L Y.prog Y.w Y.K Y.mg Y.base) (ha0:Ng[0]?=some a0) (hok:rfOk L.clsN Ng sc h i s1 s2=true)
  (hR:RestW Y.prog Y.w Y.K Y.mg Y.base L.lev Ng sc i rest fun s=>L.c j [.un,.un,s]) {tl:XK→Hp→VK→Prop}
  (act:∀(W:WX) (pn:List (Addr×Obj)) (xe:Value→Shared→Prop) (E:XK) (p1 p2:Pos),Takes (Y.tr pn xe) W→(∀cls d σ' H',E cls d H'→W cls d σ' H') →
   PE (Y.tr pn xe) (.Call (.Name a0 p1) [] [] p2) (fun σZ HZ Q=>σZ[0]?=some (some (.ref f))∧PZ HZ∧tl E HZ Q))
  {H:Hp} {Q:VK} (hc:PZ H) (hh:ttR L Y.K j tl H Q):∃t,PSs Y (s1::s2::rest) t∧t { nx:=fun _ H'=>Q .non H',rt:=Q } (L2.start Ng [.ref f]) H:=by
 have xc:XC L Ng sc W0 Y:=x1.xc lk (Nat.le_refl _);obtain ⟨e1,a,n,R⟩:=rfOk_h hok;obtain ⟨p1,k1,p2,p3,p4,p5,p6,p7,p8,p9,p10,p11,p12,rfl,rfl⟩:=R.t;obtain ⟨va1,va2,va3,va4⟩:=vis_of xc R.na;obtain ⟨ve1,ve2,ve3,ve4⟩:=vis_of xc R.ne;obtain ⟨vn1,vn2,vn3,vn4⟩:=vis_of xc R.nn;have kn:=xc.nm _ _ R.ln;have ke:=xc.nm _ _ R.le;obtain ⟨g1,g2,g3⟩:=gl_of xc R.gl;obtain ⟨k1',k2',k3'⟩:=cls_at xc.lk R.cl area_ne;have ea:a=a0:=by
  rw [xc.N,ha0] at va1;exact (Option.some.inj va1).symm
 subst ea;have hil:i<Ng.length:=by
  rw [xc.N] at ve1;exact (List.getElem?_eq_some_iff.mp ve1).1
 have h0l:0<Ng.length:=Nat.lt_of_le_of_lt (Nat.zero_le _) hil;obtain ⟨tr,hr1,hr2⟩:=hR Y x1;have fin:∀{s:Sl} {v:V} {σ:L2.St} {H':Hp},Rest L Y.K j s v H' Q→σ.length=Ng.length→σ[i]?=some (some v)→tr { nx:=fun _ H'=>Q .non H',rt:=Q } σ H':=fun {s v σ H'} ⟨f',sm,ct,ha,hs,hm⟩ hl h1=>hr2 s v σ f' H' Q sm ct ha hs hl h1 hm;refine ⟨_,pss_cons (ps_set xc.nd ve1 (.inl ke) pe_non rfl (.inr ke)) (pss_cons (ps_try_keep (h:=h) (i:=i) (c := .ref (He.ga Y.K "AreaError")) (tb:=fun W D σ H=>∃Ech:XK,(∀cls d σ' H',Ech cls d H'→σ'.length=Y.N.length→W cls d σ' H')∧σ[0]?=some (some (.ref f))∧PZ H∧tl Ech H fun _ H'=>D.nx σ H')
  x1.st x1.fr x1.ex xc.nd vn1 ve1 R.hi kn ke vn3 vn4 ⟨g1,g2,.inl k3'⟩ fun W pn xe tk _=>?_) hr1),?_⟩
 ·refine ⟨fun pins s' σ H' D I h'=>?_⟩;obtain ⟨Ech,hW,i1,i2,i3⟩:=h';have hp:=act _ pn xe Ech p4 p5 (takes_len tk) hW;exact (pss_one (ps_expr hp)).run pins s' σ H' D I ⟨i1,i2,i3⟩
 ·have hst:(L2.start Ng [V.ref f])[0]?=some (some (V.ref f)):=rfl;have hsl:(L2.start Ng [V.ref f]).length=Ng.length:=by
   unfold L2.start;simp;omega
  refine ⟨eR L Y.K j Q,fun cls d σ' H' ⟨hd,hx,k,hk,hr⟩ hlen=>⟨hx,hd,k,hk,fun a ha=>?_⟩,?_,hc,?_⟩
  ·have hlen:σ'.length=Ng.length:=by rw [hlen,xc.N]
   refine fin (hr a ha) (by simp [hlen]) ?_;rw [List.getElem?_set_ne R.hi,List.getElem?_set_self (by rw [List.length_set];omega)]
  ·rw [List.getElem?_set_ne R.i0];exact hst
  ·refine hh _ fun v H' hr=>?_;exact fin hr (by simp [hsl]) (List.getElem?_set_self (by omega))
theorem rfd_of (xc:XC L N sc W X) {j:Nat} {ks:List Nat} {e0:E} {f:Str} {b:Expr} {scope:Scope} {p lpos pos:Pos} (hm:isMk sc=true) (hg:glOk sc f=true) (ht:(match L.T[j]? with | some g=>g.name==f&&(match g.body with | .rf _ _ _=>true | _=>false) | none=>false)=true)
  (hs:lamOk sc scope=true) (hk:ksOk L.clsN ks=true) (ih:∀{W':WX} {X':Cx},XC L N scope.names W' X'→PE X' b (dV L X'.K W' e0)) :
  PE X (.Call (.Name f p) [.Lambda ⟨[],[],none,[],[],none,[]⟩ b scope lpos] [] pos) (dV L X.K W (.rfd j ks e0)):=by
 obtain ⟨room,lv,c,P,TB,hcode,hmT,hu⟩:=xc.mkr hm;obtain ⟨g1,g2,g3⟩:=gl_of xc hg;cases eg:L.T[j]? with
 | none=>rw [eg] at ht;cases ht
 | some g =>
  rw [eg] at ht;obtain ⟨t1,t2⟩:=band ht;have t1:=str_beq t1;subst t1;obtain ⟨h,i,r,eb⟩:∃h i r,g.body = .rf h i r:=by
   cases q:g.body with
   | rf h i r=>exact ⟨h,i,r,rfl⟩
   | _=>rw [q] at t2;cases t2
  obtain ⟨fa,params,s1,s2,rest,sg,a,oc,od,dV',kV,doc,pm,an,cdv,ct,osl,hmg,hkp,lk,hcd,hps,hb,Sg,hok,hR⟩:=xc.lk.rf j h i r g eg eb;have hN0:g.N[0]?=some a:=by
   have z:=Sg.pre;have z:=congrArg (fun l=>l[0]?) z;simpa [List.getElem?_take] using z
  have hva:Vis sg a:=by
   rcases Sg.par a (List.mem_singleton.mpr rfl) with q | q
   ·exact .inl q
   ·exact .inr (.inl q)
  obtain ⟨hd1,hd2,hA,hnm⟩:(a==("__debug__" : Str))=false∧(a==("__classdict__" : Str))=false∧L.clsN.contains "AreaError" = true∧isMk sg.names=false:=by
   obtain ⟨e1,a',n,R⟩:=rfOk_h hok;have h4:=R.na;unfold nmOk at h4;obtain ⟨h4,z3⟩:=band h4;obtain ⟨h4,z2⟩:=band h4;obtain ⟨z0,z1⟩:=band h4;have z0:=eq_of_beq z0;rw [hN0] at z0;cases z0;exact ⟨bne_false z2,bne_false z3,List.contains_iff_mem.mpr (mem_of_at R.cl),R.nmk⟩
  refine PE.imp (LamX.pe_lamcall (T:=CdT.T) (TT:=ttR L X.K j) (a:=a) (k:=L.lev) (t:=fun E=>dV L X.K (fun cls d _ H'=>E cls d H') e0) g1 hmg hkp lk hcd hb Sg hN0 hva (fun fl c' s H Q tl act hc h=>?_) TB hcode hmT hu room (lamOk_s xc hs) rfl (fun q cl pm cv ctv=>rfl)
   (fun A outer s H E f c' hr=>ih (xc.lam lv hs rfl hr)) g2 hd1 hd2) fun σ H Q q=>?_
  ·have hr1:Room L.lev (X.A.deeper (envOfC g.name sg s.heap.objs.size fa cdv)):=(Room.deeper room _).mono (by omega);have x1:XC1 X.prog X.w X.K X.mg X.base L.lev g.N sg.names (cxOf C8.CX0 X.prog X.w X.K X.mg X.base g.N g.name sg fa cdv X.A X.stack s H C8.E0).nox:=by
    refine ⟨rfl,rfl,rfl,rfl,rfl,rfl,Sg.nd,Sg.kind,fun x k hk=>?_,rfl,hr1,?_,PassesOwn.never,rfl,rfl,rfl,hnm⟩
    ·cases k with
     | «local» => exact hk
     | cell=>exact ⟨hk,rfl⟩
     | free=>exact .inr hk
     | globalImplicit=>exact hk
     | globalExplicit=>trivial
    ·intro hfr M s' hk';have hN:s'.heap.NoSeer:=(seeB_ok xc.lk.see.1 M).keeps hk';refine PylongRoom.of (M.nolimit.keeps hk') ?_ (SeerAt.of hN xc.lk.see.2 hfr Sg.gen Sg.co rfl rfl);have z:=hr1.dp;show (X.A.deeper (envOfC g.name sg s.heap.objs.size fa cdv)).depth+100<recursionLimit;omega
   exact rf_run (Y:=(cxOf C8.CX0 X.prog X.w X.K X.mg X.base g.N g.name sg fa cdv X.A X.stack s H C8.E0).nox) (j:=j) (PZ:=fun HZ=>HZ c'=some (LamX.CodeO c' (X.env.qual ++ "<lambda>"))) x1 xc.lk hN0 hok hR (fun W pn xe E p1 p2 tk hW=>act W pn xe E p1 p2 tk hW) hc h
  ·obtain ⟨f0,H0,f,en,m,o⟩:=q;have o:Out L.cls W σ f H (rfR ks (L.ev e0 en) fun s=>L.c j [.un,.un,s]) (Ac X.K f H Q):=o;refine ⟨m.ct.1,fun H1 ext T1 Q' hQ=>?_⟩;have q1:Po f H f H1:=⟨⟨ext⟩,Same.refl f,fun b o e=>ext b o (m.po.sub b o e) fun ps z=>m.ct.2 b ps (by rw [e,z]),fun _ _ e => .inl e,id,fun _=>T1⟩;have m1:=m.mono q1;refine ⟨f0,H0,f,en,m1,?_⟩;show Out L.cls _ σ f H1 (L.ev e0 en) _;cases ev:L.ev e0 en with
   | no=>rw [ev] at o;exact o.elim
   | ok p =>
    rw [ev] at o;have o:Out L.cls W σ f H ((L.c j [.un,.un,.va .none]).nox) (Ac X.K f H Q):=o;intro v f' H' q hv;refine hQ v H' ⟨f',q.sub,(m1.mono q).ct,.va .non,.inr rfl,?_⟩;cases ec:L.c j [.un,.un,.va .none] with
    | no=>rw [ec] at o;exact o.elim
    | ex k=>rw [ec] at o;exact o.elim
    | ok p2 =>
     rw [ec] at o;exact Ac.mono (q1.trans q) o
   | ex k =>
    rw [ev] at o;have o:Out L.cls W σ f H (if ks.contains k then (L.c j [.un,.un,.er k]).nox else .no) (Ac X.K f H Q):=o;by_cases hc:ks.contains k=true
    ·rw [if_pos hc] at o;intro f' H' q;obtain ⟨n,n1,n2⟩:=ks_at hk hc;obtain ⟨c1,c2,_⟩:=cls_at xc.lk n1 n2;obtain ⟨_,_,_,b4,_⟩:=erB_ne xc.lk.er hA (mem_of_at n1) n2;refine ⟨rfl,by rw [c2];exact b4,k,c2.trans c1.symm,fun a ha=>?_⟩;have q2:Po f' H' f' (upd H' a (erO X.K k a)):=(Po.refl q.sub).newH ha;refine ⟨f',q2.sub,((m1.mono q).mono q2).ct,.er upd_same,.inl ⟨k,rfl⟩,?_⟩;cases ec:L.c j [.un,.un,.er k] with
     | no=>rw [ec] at o;exact o.elim
     | ex k=>rw [ec] at o;exact o.elim
     | ok p2 =>
      rw [ec] at o;exact Ac.mono (q1.trans (q.trans q2)) o
    ·rw [if_neg hc] at o;exact o.elim
end
end AW
namespace AW
open PySem PySem.Spec PyProof.Rows L2
variable [CdT] [StA]
section
variable {K:PySem.W.Frag} {f:Hp}
theorem DkAll.len:∀{kvs:List (D×D)} {xs:List (NestedKey×Addr×Value)},DkAll K f kvs xs→xs.length=kvs.length
 | _,_,.nil=>rfl
 | _,_,.cons _ _ _ _ t=>congrArg Nat.succ t.len
theorem dkLook_at {kd:D}:∀{kvs:List (D×D)} {xs:List (NestedKey×Addr×Value)},DkAll K f kvs xs →
  (dlook kvs kd=none∧atKey xs (nk kd)=none)∨∃d a v u,dlook kvs kd=some d∧atKey xs (nk kd)=some (a,u)∧RelV v u∧Dp K f v d
 | _,_,.nil => .inl ⟨rfl,rfl⟩
 | _,_,.cons (k:=k) (d:=d) (a:=a) (v:=v) (u:=u) (r:=r) (xs:=xs) hk ha hu hd t=>by
  by_cases e:nk k=nk kd
  ·refine .inr ⟨d,a,v,u,?_,?_,hu,hd⟩
   ·unfold dlook;rw [List.find?_cons];simp [e]
   ·unfold atKey;rw [List.find?_cons];simp [e]
  ·have e1:dlook ((k,d)::r) kd=dlook r kd:=by
    unfold dlook;rw [List.find?_cons];simp [e]
   have e2:atKey ((nk k,a,u)::xs) (nk kd)=atKey xs (nk kd):=by
    unfold atKey;rw [List.find?_cons];simp [e]
   rw [e1,e2];exact dkLook_at t
theorem dkLook_some {kd:D} {kvs:List (D×D)} {xs:List (NestedKey×Addr×Value)} (h:DkAll K f kvs xs):(atKey xs (nk kd)).isSome=(dlook kvs kd).isSome:=by
 rcases dkLook_at (kd:=kd) h with ⟨a,b⟩ | ⟨d,a,v,u,b,c,_⟩
 ·rw [a,b];rfl
 ·rw [b,c];rfl
theorem put_map {kd d:D} {b:Addr} {v:V} {u:Value} (hu:RelV v u) (hd:Dp K f v d):∀{kvs:List (D×D)} {xs:List (NestedKey×Addr×Value)},DkAll K f kvs xs →
  DkAll K f (kvs.map fun x=>if nk x.1=nk kd then (x.1,d) else x) (xs.map (putAt (nk kd) u))
 | _,_,.nil => .nil
 | _,_,.cons (k:=k) (d:=d0) (a:=a) (u:=u0) hk ha hu0 hd0 t=>by
  rw [List.map_cons,List.map_cons];by_cases e:nk k=nk kd
  ·rw [if_pos e];have:putAt (nk kd) u (nk k,a,u0)=(nk k,a,u):=by unfold putAt;rw [if_pos e]
   rw [this];exact .cons hk ha hu hd (put_map (b:=b) hu hd t)
  ·rw [if_neg e];have:putAt (nk kd) u (nk k,a,u0)=(nk k,a,u0):=by unfold putAt;rw [if_neg e]
   rw [this];exact .cons hk ha hu0 hd0 (put_map (b:=b) hu hd t)
theorem dk_snoc {kd d:D} {b:Addr} {v:V} {u:Value} (hk:keyOk kd=true) (hb:Dp K f (.ref b) kd) (hu:RelV v u) (hd:Dp K f v d):∀{kvs:List (D×D)} {xs:List (NestedKey×Addr×Value)},DkAll K f kvs xs →
  DkAll K f (kvs++[(kd,d)]) (xs++[(nk kd,b,u)])
 | _,_,.nil => .cons hk hb hu hd .nil
 | _,_,.cons h1 h2 h3 h4 t => .cons h1 h2 h3 h4 (dk_snoc hk hb hu hd t)
theorem put_at {kd d:D} {b:Addr} {v:V} {u:Value} (hk:keyOk kd=true) (hb:Dp K f (.ref b) kd) (hu:RelV v u) (hd:Dp K f v d) {kvs:List (D×D)} {xs:List (NestedKey×Addr×Value)} (h:DkAll K f kvs xs) :
  DkAll K f (dput kvs kd d) (storedH xs (nk kd) b u):=by
 have e:=dkLook_some (kd:=kd) h;unfold dput storedH;cases hs:(dlook kvs kd).isSome with
 | true =>
  rw [hs] at e;rw [if_pos rfl,if_pos e];exact put_map (b:=b) hu hd h
 | false =>
  rw [hs] at e;rw [if_neg (by simp),if_neg (by rw [e];simp)];exact dk_snoc hk hb hu hd h
theorem put_len (xs:List (NestedKey×Addr×Value)) (k:NestedKey) (b:Addr) (u:Value):(storedH xs k b u).length≤xs.length+1:=by
 unfold storedH;split
 ·rw [List.length_map];omega
 ·rw [List.length_append];simp
end
section
variable {X:Cx} {pins:List (Addr×Obj)} {σ:L2.St} {H:Hp} {s:Shared}
mutual
theorem nested_at (I:Inv X pins σ H s):∀(d:D) (v:V) (u:Value),keyB d=true→Dp X.K H v d→RelV v u→NestedIs s.heap (nk d) u
 | .int i,_,_,_,h,r=>by
  cases h;obtain ⟨t,rfl⟩:=r;exact .int i t
 | .tuple ds,_,_,hk,h,r=>by
  cases h with
  | tup hs ha =>
   cases r;obtain ⟨its,rv,⟨o,ho,hc,n,hd⟩,_⟩:=I.tuple hs;exact .tup ho hc hd (by simpa using nesteds_at I ds _ its hk ha rv)
 | .none,_,_,hk,_,_=>by cases hk
 | .bool _,_,_,hk,_,_=>by cases hk
 | .str _,_,_,hk,_,_=>by cases hk
 | .list _,_,_,hk,_,_=>by cases hk
 | .dict _,_,_,hk,_,_=>by cases hk
theorem nesteds_at (I:Inv X pins σ H s):∀(ds:List D) (vs:List V) (us:List Value),keyBs ds=true→DpAll X.K H vs ds→Vals vs us→NestedAll s.heap (nks ds) us
 | [],_,_,_,h,r=>by
  cases h;cases r;exact .nil
 | d::ds,_,_,hk,h,r=>by
  have hk':=Bool.and_eq_true_iff.mp (show (keyB d&&keyBs ds)=true from hk);cases h with
  | cons h1 h2 =>
   cases r with
   | cons r1 r2=>exact .cons (nested_at I d _ _ hk'.1 h1 r1) (nesteds_at I ds _ _ hk'.2 h2 r2)
end
theorem keyOk_of {d:D} (h:keyOk d=true):keyB d=true∧(nk d).depth≤8:=by
 unfold keyOk at h;rw [Bool.and_eq_true,Bool.and_eq_true,decide_eq_true_eq] at h;exact ⟨h.1.2,h.2⟩
theorem key_at (I:Inv X pins σ H s) {d:D} {b:Addr} (h:keyOk d=true) (hd:Dp X.K H (.ref b) d):(nestedKind X.prog X.w).is s.heap (nk d) b :=
 ⟨nested_at I d _ _ (keyOk_of h).1 hd (show RelV (.ref b) (.ref b) from rfl),(keyOk_of h).2⟩
theorem keys_at (I:Inv X pins σ H s):∀{kvs:List (D×D)} {xs:List (NestedKey×Addr×Value)},DkAll X.K H kvs xs→∀x∈xs,(nestedKind X.prog X.w).is s.heap x.1 x.2.1
 | _,_,.nil,x,hx=>nomatch hx
 | _,_,.cons hk ha _ _ t,x,hx=>by
  rcases List.mem_cons.mp hx with rfl | hx
  ·exact key_at I hk ha
  ·exact keys_at I t x hx
theorem ents_at {K:PySem.W.Frag} {f:Hp} {P:Program} {w:World}:∀{kvs:List (D×D)} {xs:List (NestedKey×Addr×Value)},DkAll K f kvs xs→xs.map (entryOfKey (nestedKind P w))=xs.map fun x=>(⟨kh x.1,.ref x.2.1,x.2.2⟩:DictEntry)
 | _,_,.nil=>rfl
 | _,_,.cons (k:=k) hk _ _ _ t=>by
  rw [List.map_cons,List.map_cons,ents_at t];congr 1
  show (⟨(nk k).hash w,_,_⟩:DictEntry)=⟨kh (nk k),_,_⟩;rw [kh_hash w k (keyOk_of hk).1]
theorem dicO_at (I:Inv X pins σ H s) {p:Addr} {ep:Nat} {kvs:List (D×D)} {xs:List (NestedKey×Addr×Value)} (hH:H p=some (dicO xs ep p)) (hn:(xs.map (·.1)).Nodup) (h:DkAll X.K H kvs xs):s.heap.DictOfH (nestedKind X.prog X.w) p xs:=by
 obtain ⟨⟨o,es,h1,h2,h3,h4⟩,_,_⟩:=(show ObjOk X.prog X.w H s.heap p (dicO xs ep p) from I.hok p _ hH);exact ⟨o,es,ep,h1,h2,h3,by rw [h4,ents_at h],keys_at I h,hn⟩
theorem dicO_new {P:Program} {w:World} {K:PySem.W.Frag} {f H:Hp} {h:Heap} {p:Addr} {kvs:List (D×D)} {xs:List (NestedKey×Addr×Value)} (d:DkAll K f kvs xs) (hd:h.DictOfH (nestedKind P w) p xs):∃ep,ObjOk P w H h p (dicO xs ep p):=by
 obtain ⟨o,es,ep,h1,h2,h3,h4,_⟩:=hd;exact ⟨ep,⟨o,es,h1,h2,h3,by rw [h4,ents_at d]⟩,⟨o,h1⟩,fun g1 g2 ⟨o',es',a1,a2⟩ k=>⟨o',es',k o' a1,a2⟩⟩
theorem room_n {A:Around} (h:A.units+65<cLine):(nestedKind X.prog X.w).room A.in1:=by
 show A.in1.units+8<cLine;rw [Around.in1_units];omega
def tDNewN:TE:=fun _ H Q=>∀p ep,(p==sysModules)=false→H p=none→Q (.ref p) (upd H p (dicO [] ep p))
theorem pe_dnewN {pos:Pos}:PE X (.Dict [] [] pos) tDNewN:=⟨fun pins s σ H Q I h =>
 let ⟨ep,ok⟩:=dicO_new (P:=X.prog) (w:=X.w) (K:=X.K) (f:=H) (H:=upd H s.heap.objs.size (dicO [] 0 s.heap.objs.size)) .nil (Heap.DictOfH.new s.heap)
 wpAny_Dict_empty ⟨.ref s.heap.objs.size,_,I.laid (a:=s.heap.objs.size) (o:=dicO [] ep s.heap.objs.size) (t':=s.toks) (fun _ _ q=>Heap.get?_push_of_some _ q) (Nat.le_refl _)
  ok,rfl,h _ ep (beq_eq_false_iff_ne.mpr (Ne.symm (Nat.ne_of_lt I.big))) (I.hok.fresh (Nat.le_refl _))⟩⟩
def rGetN (K:PySem.W.Frag):V→List V→Hp→VK→Prop:=fun x vs H Q=>∃(p b:Addr) (z:V) (xs:List (NestedKey×Addr×Value)) (kvs:List (D×D)) (kd:D) (f:Hp) (ep:Nat),x = .ref p∧vs=[.ref b,z]∧(p==sysModules)=false∧H p=some (dicO xs ep p)∧(xs.map (·.1)).Nodup ∧
 DkAll K f kvs xs∧Same f H∧keyOk kd=true∧Dp K f (.ref b) kd∧(dlook kvs kd=none→Q z H)∧∀d,dlook kvs kd=some d→∀v,Dp K f v d→Q v H
theorem mt_getN (hu:X.A.units+65<cLine):MtR X "dict.get" (rGetN X.K):=by
 intro pins s σ H x vs v us Q I rx rxs h;obtain ⟨p,b,z,xs,kvs,kd,f,ep,rfl,rfl,hp,hH,hn,hk,sm,ko,hb,q1,q2⟩:=h;obtain rfl:v=Value.ref p:=rx;cases rxs with
 | cons ry rt =>
  rename_i uy ut;cases rt with
  | cons rz rt2 =>
   rename_i uz ut2;cases rt2;obtain rfl:uy=Value.ref b:=ry;have dd:=dicO_at I hH hn (hk.same sm);refine call_meetsIn PySem.F.slot_dict_get dd.typeIs PySem.F.entry_dict_get (PySem.F.args_dict_get_3 _ _ _) (meetsH_dict_get_default (nestedKind X.prog X.w) p b hp uz) ⟨room_n (X:=X) hu,nk kd,xs,key_at I ko (dp_same sm hb),dd,?_⟩;rcases dkLook_at (kd:=kd) hk with ⟨e1,e2⟩ | ⟨d,a,v',u',e1,e2,r',d'⟩
   ·rw [e2];exact ⟨z,H,I.tok _,rz,q1 e1⟩
   ·rw [e2];exact ⟨v',H,I.tok _,r',q2 d e1 v' d'⟩
def rSetN (K:PySem.W.Frag):V→V→V→Hp→(Hp→Prop)→Prop:=fun o i v H Q=>∃(p b:Addr) (xs:List (NestedKey×Addr×Value)) (kvs:List (D×D)) (kd d:D) (f:Hp) (ep:Nat),o = .ref p∧i = .ref b∧H p=some (dicO xs ep p)∧(xs.map (·.1)).Nodup∧xs.length≤sizeLine ∧
 DkAll K f kvs xs∧Same f H∧keyOk kd=true∧Dp K f (.ref b) kd∧Dp K f v d∧∀u ep',RelV v u→((storedH xs (nk kd) b u).map (·.1)).Nodup→Q (upd H p (dicO (storedH xs (nk kd) b u) ep' p))
theorem set_dk (hu:X.A.units+65<cLine):PSet X (rSetN X.K):=by
 intro pins s σ H o i v ov iv u Q I ro ri rv h;obtain ⟨p,b,xs,kvs,kd,d,f,ep,rfl,rfl,hH,hn,hl,hk,sm,ko,hb,hd,q⟩:=h;obtain rfl:ov=Value.ref p:=ro;obtain rfl:iv=Value.ref b:=ri;have dd:=dicO_at I hH hn (hk.same sm);refine wpAny_setItem_heap (hsz:=hl) (room_n (X:=X) hu) (key_at I ko (dp_same sm hb)) dd fun h' dd' hs=>?_;have he:∃q,h'.get? p=some q:=let ⟨q,_,_,hq,_⟩:=dd';⟨q,hq⟩
 have hn':((storedH xs (nk kd) b u).map (·.1)).Nodup:=let ⟨_,_,_,_,_,_,_,_,h5⟩:=dd';h5
 obtain ⟨ep',ok⟩:=dicO_new (P:=X.prog) (w:=X.w) (H:=upd H p (dicO [] 0 p)) (put_at ko hb rv hd hk) dd';exact ⟨_,d_write I (by rw [hH];exact True.intro) hs he (show ObjOk _ _ _ _ _ (dicO _ ep' _) from ok),q u ep' rv hn'⟩
def rSetJ:V→V→V→Hp→(Hp→Prop)→Prop:=fun o i v H Q=>∃(p:Addr) (xs:List (Key×V)) (k:Key),o = .ref p∧i=kV k∧H p=some (.dK xs)∧xs.length<sizeLine∧Q (upd H p (.dK (putK xs k v)))
theorem set_dj (hu:X.A.units+65<cLine):PSet X rSetJ:=by
 intro pins s σ H o i v ov iv u Q I ro ri rv h;obtain ⟨p,xs,k,rfl,rfl,hH,hl,q⟩:=h;obtain rfl:ov=Value.ref p:=ro;exact d_setItem (by omega) I (DPut.k hH hl) ri rv fun s' I'=>⟨_,I',q⟩
def rSetLN (K:PySem.W.Frag):V→V→V→Hp→(Hp→Prop)→Prop:=fun o i v H Q=>rSetL o i v H Q∨rSetN K o i v H Q∨rSetJ o i v H Q
theorem set_ln (hu:X.A.units+65<cLine):PSet X (rSetLN X.K):=by
 intro pins s σ H o i v ov iv u Q I ro ri rv h;rcases h with h | h | h
 ·exact set_list pins s σ H o i v ov iv u Q I ro ri rv h
 ·exact set_dk hu pins s σ H o i v ov iv u Q I ro ri rv h
 ·exact set_dj hu pins s σ H o i v ov iv u Q I ro ri rv h
def tBMN (i:Nat) (r:V→List V→Hp→VK→Prop) (t:TA):TE:=fun σ H Q=>∃p xs ep,σ[i]?=some (some (.ref p))∧H p=some (dicO xs ep p)∧t σ H fun vs H2=>r (.ref p) vs H2 Q
theorem pe_getN {y:Str} {py apos cpos:Pos} {e:Expr} {es:List Expr} {i:Nat} {t:TA} (hu:X.A.units+65<cLine) (hN:X.N[i]?=some y) (hv:Vis X.env.scope y) (hdb:(y==("__debug__" : Str))=false) (hcd:(y==("__classdict__" : Str))=false) (ha:PA X (e::es) t)
  (hfew:((backTo cpos (starEach (e::es) X.env)).all (fun x => !x.1)&&(backToKw cpos (keywordEach [] X.env)).all (fun x=>x.1.isSome)
   && decide ((e::es).length+([]:List Keyword).length+(if ([]:List Keyword).isEmpty then 0 else 1)<30))=true)
  (hline:(apos.endLine==cpos.line)=true) (hs:starEach (e::es) X.env=(false,eval e X.env)::starEach es X.env) (hplain:(backTo cpos (starEach es X.env)).any (·.1)=false) :
  PE X (.Call (.Attribute (.Name y py) "get" apos) (e::es) [] cpos) (tBMN i (rGetN X.K) t):=by
 refine ⟨fun pins s σ H Q I h=>?_⟩;obtain ⟨p,xs,ep,hsl,hH,ht⟩:=h;refine wpAny_Call_method_late rfl hfew hline rfl (thn ((pe_var (pos:=py) hN hv hdb hcd).run pins s σ H (fun v H1=>v = .ref p∧H1=H) I ⟨.ref p,hsl,rfl,rfl⟩) fun v s1 ⟨x,H1,I1,r1,q1⟩=>?_);obtain ⟨rfl,rfl⟩:=q1;obtain rfl:v=Value.ref p:=r1;obtain ⟨⟨o,es',h1,h2,h3,h4⟩,_,_⟩:=(show ObjOk X.prog X.w H1 s1.heap p (dicO xs ep p) from I1.hok p _ hH);refine ⟨"dict", "dict.get", PySem.F.plainAttrs_dict,PySem.F.slot_dict_get,PySem.F.type_dict_get,⟨o,h1,h2.1⟩,fun a q=>?_,?_⟩
 ·cases q;exact ⟨o,h1,h2.2.1⟩
 have hA:=ha.run cpos pins s1 σ H1 _ I1 ht;rw [hs] at hA ⊢;refine Calls.callWith_builtin (by show (false||(backTo cpos (starEach es X.env)).any (·.1))=false;rw [hplain] <;> rfl) (Calls.evalArgs_plain ?_);exact thn hA fun us s2 ⟨vs,H2,I2,r2,q2⟩=>mt_getN hu pins s2 σ H2 (.ref p) vs (.ref p) us Q I2 rfl r2 q2
end
section
variable {L:Lk} {N:List Str} {sc:Nms} {W:WX} {X:Cx} {K:PySem.W.Frag}
theorem key_ref {f:Hp} {d:D} {v:V} (hk:keyOk d=true) (h:Dp K f v d):∃b,v = .ref b:=by
 unfold keyOk at hk;rw [Bool.and_eq_true,Bool.and_eq_true] at hk;cases h with
 | tup h a=>exact ⟨_,rfl⟩
 | lst h a=>exact ⟨_,rfl⟩
 | dcj h a=>exact ⟨_,rfl⟩
 | non=>cases hk.1.1
 | bl=>cases hk.1.1
 | int=>cases hk.1.1
 | str=>cases hk.1.1
theorem imp_dget {i:Nat} {k x:E} {σ H Q} (h:dV L K W (.dget i k x) σ H Q):tBMN i (rGetN K) (tCons (dV L K W k) (tCons (dV L K W x) tNil)) σ H Q:=by
 obtain ⟨f0,H0,f,en,m,ot⟩:=h;have ot:Out L.cls W σ f H (match en[i]? with
  | some (.dk kvs)=>(L.ev k en).bind fun kd=>(L.ev x en).bind fun xd=>if keyOk kd.1=true then (match dlook kvs kd.1 with
   | some d=>v1 d
   | none=>v1 xd.1) else .no
  | _ => .no) (Ac K f H Q):=ot
 cases e:en[i]? with
 | none=>rw [e] at ot;exact ot.elim
 | some s =>
  rw [e] at ot;cases s with
  | dk kvs =>
   obtain ⟨p,xs,ep,e1,hp,h0,hf,hH,hn,hl,hk⟩:=m.dk e;have o1:=Out.bind (show Out L.cls W σ f H ((L.ev k en).bind fun kd=>(L.ev x en).bind fun xd=>if keyOk kd.1=true then (match dlook kvs kd.1 with
    | some d=>v1 d
    | none=>v1 xd.1) else .no) (Ac K f H Q) from ot)
   refine ⟨p,xs,ep,e1,hH,f0,H0,f,en,m,o1.imp (Po.refl m.po.sub) fun kd _ h1 v f1 H1 q1 hv=>?_⟩;obtain ⟨f2,q2,hv2⟩:=hv.settle q1;refine ⟨f0,H0,f2,en,m.mono q2,h1.bind.imp q2 fun xd _ h3 w f3 H3 q3 hw=>?_⟩;obtain ⟨f4,q4,hw2⟩:=hw.settle q3;by_cases ko:keyOk kd.1=true
   ·rw [if_pos ko] at h3;have hv4:=dp_same q4.sf hv2;obtain ⟨b,rfl⟩:=key_ref ko hv4;obtain ⟨p',xs',ep',e1',hp',h0',hf',hH',hn',hl',hk'⟩:=(m.mono (q2.trans q4)).dk e;rw [e1] at e1';cases e1';refine ⟨p,b,w,xs',kvs,kd.1,f4,ep',rfl,rfl,hp',hH',hn',hk',q4.sub,ko,hv4,fun en'=>?_,fun d ed v' hd'=>?_⟩
    ·rw [en'] at h3;exact (show Ac K f H Q (xd.1,false) from h3) w f4 H3 (q2.trans q4) hw2
    ·rw [ed] at h3;exact (show Ac K f H Q (d,false) from h3) v' f4 H3 (q2.trans q4) hd'
   ·rw [if_neg ko] at h3;exact h3.elim
  | un=>exact ot.elim
  | va d=>exact ot.elim
  | ow d=>exact ot.elim
  | rd d=>exact ot.elim
  | er d=>exact ot.elim
  | fn d=>exact ot.elim
  | fd d=>exact ot.elim
  | dj d=>exact ot.elim
  | st d=>exact ot.elim
theorem dget_of (xc:XC L N sc W X) {i:Nat} {k x:E} {y m:Str} {a b:Expr} {py ap cp:Pos} (hy:nmOk N sc i y=true) (hm:(m==("get" : Str))=true) (ha:ckE L.T L.cons L.clsN N sc k a=true) (hb:ckE L.T L.cons L.clsN N sc x b=true) (hl:(ap.endLine==cp.line)=true) (ia:PE X a (dV L X.K W k)) (ib:PE X b (dV L X.K W x)) :
  PE X (.Call (.Attribute (.Name y py) m ap) [a,b] [] cp) (dV L X.K W (.dget i k x)):=by
 have e:=str_beq hm;subst e;obtain ⟨h1,h2,h3,h4⟩:=vis_of xc hy;refine PE.imp (pe_getN xc.units h1 h2 h3 h4 (pa_cons ia (pa_cons ib pa_nil (star_of hb [])) (star_of ha [b])) ?_ hl (star_of ha [b]) ?_) fun σ H Q q=>imp_dget q
 ·rw [star_of ha [b],star_of hb []];rfl
 ·rw [star_of hb []];rfl
end
end AW
namespace AW
open PySem PySem.Spec PyProof.Rows L2
variable [CdT] [StA]
def viewV (p v:Addr):HO := .ext fun h=>h.IsValuesView v p
theorem dk_vals {K:PySem.W.Frag} {f:Hp}:∀{kvs:List (D×D)} {xs:List (NestedKey×Addr×Value)},DkAll K f kvs xs→∃vs,Vals vs (xs.map fun x=>x.2.2)∧DpAll K f vs (kvs.map (·.2))
 | _,_,.nil=>⟨[],.nil,.nil⟩
 | _,_,.cons hk ha hu hd t =>
  let ⟨vs,h1,h2⟩:=dk_vals t
  ⟨_::vs,.cons hu h1,.cons hd h2⟩
section
variable {prog:Program} {w:World} {r d:Addr} {es:Array DictEntry} {ep:Nat}
theorem kdl_valsRaw:PySem.W.KdlSrc prog w "dict_values" r d es.size (fun i v=>∃hi:i<es.size,v=es[i].val) (fun h=>h.IsValuesView r d∧h.DictRaw d es ep) where
 type:=fun _ hm=>hm.1.typeIs
 there:=fun _ hm=>⟨let ⟨_,ho,_⟩:=hm.1;Heap.lt_size ho,let ⟨_,ho,_⟩:=hm.2;Heap.lt_size ho⟩
 keep:=fun _ _ hm hk=>⟨let ⟨o,ho,x⟩:=hm.1;⟨o,hk r (.inl rfl) o ho,x⟩,hm.2.at fun o e=>hk d (.inr rfl) o e⟩
 notList:=by decide
 notTuple:=by decide
 hint:=fun _ _ _ _ hm hq=>PySem.W.kdl_hint_values hm.1.typeIs hq
 iter:=fun _ s hh hm=>⟨_,_,(fun _ _ hq=>wpAny_pyIter_values_raw hm.1 hm.2 hq),Walks.rawValues hh _ d (Nat.ne_of_lt (let ⟨_,ho,_⟩:=hm.2;Heap.lt_size ho)) es ep,
  ⟨⟨_,Heap.get?_push_size _ rfl,rfl,rfl⟩,hm.2.at fun o e=>Heap.get?_push_of_some _ e⟩⟩
end
section
variable {X:Cx}
theorem raw_at {P:Program} {w:World} {H:Hp} {h:Heap} {p:Addr} {ep:Nat} {xs:List (NestedKey×Addr×Value)} (ok:HOk P w H h) (hH:H p=some (dicO xs ep p)):∃es,h.DictRaw p es ep∧es.toList=xs.map fun x=>(⟨kh x.1,.ref x.2.1,x.2.2⟩:DictEntry):=by
 obtain ⟨⟨o,es,h1,h2,h3,h4⟩,_,_⟩:=(show ObjOk P w H h p (dicO xs ep p) from ok p _ hH);exact ⟨es,⟨o,h1,h2,h3⟩,h4⟩
def rValsN:V→List V→Hp→VK→Prop:=fun x vs H Q=>∃(p:Addr) (xs:List (NestedKey×Addr×Value)) (ep:Nat),x = .ref p∧vs=[]∧(p==sysModules)=false∧H p=some (dicO xs ep p)∧∀v,H v=none→Q (.ref v) (upd H v (viewV p v))
theorem mt_valsN:MtR X "dict.values" rValsN:=by
 intro pins s σ H x vs v us Q I rx rxs h;obtain ⟨p,xs,ep,rfl,rfl,hp,hH,q⟩:=h;obtain rfl:v=Value.ref p:=rx;cases rxs;obtain ⟨es,raw,he⟩:=raw_at I.hok hH;refine call_meetsIn PySem.F.slot_dict_values raw.typeIs PySem.F.entry_dict_values (PySem.F.args_dict_values_1 _) (meets_dict_values_raw p hp) ⟨⟨es,ep,raw⟩,?_⟩;refine ⟨.ref s.heap.objs.size,_,I.laid (a:=s.heap.objs.size) (o:=viewV p s.heap.objs.size) (t':=s.toks) (fun _ _ q=>Heap.get?_push_of_some _ q) (Nat.le_refl _) ?_,rfl,q _ (I.hok.fresh (Nat.le_refl _))⟩;exact ⟨⟨_,Heap.get?_push_size _ rfl,rfl,rfl⟩,⟨_,Heap.get?_push_size _ rfl⟩,fun g1 g2 ⟨o,a1,a2⟩ k=>⟨o,k o a1,a2⟩⟩
def rListV (K:PySem.W.Frag):List V→Hp→VK→Prop:=fun xs H Q=>∃(v p:Addr) (es:List (NestedKey×Addr×Value)) (kvs:List (D×D)) (f:Hp) (ep:Nat),xs=[.ref v]∧H v=some (viewV p v)∧H p=some (dicO es ep p)∧es.length≤sizeLine∧DkAll K f kvs es ∧
 ∀l vs,H l=none→DpAll K f vs (kvs.map (·.2))→Q (.ref l) (upd H l (.lst vs))
theorem cr_listV (hc:X.calm=true):CallR X (.type "list") (rListV X.K):=by
 intro pins s σ H xs us Q I r h;obtain ⟨v,p,ks,kvs,f,ep,rfl,hv,hH,hl,hk,q⟩:=h;obtain ⟨u,rfl,rx⟩:=r.one;obtain rfl:u=Value.ref v:=rx;obtain ⟨es,raw,he⟩:=raw_at I.hok hH;obtain ⟨view,_,_⟩:=(show ObjOk X.prog X.w H s.heap v (viewV p v) from I.hok v _ hv);obtain ⟨vs,rv,dv⟩:=dk_vals hk;have l1:es.size=ks.length:=by rw [←Array.length_toList,he,List.length_map]
 refine PySem.W.kdl_call (kdl_valsRaw (r:=v) (d:=p) (es:=es) (ep:=ep)) (I.ok.hd hc) ⟨view,raw⟩ (by rw [l1];exact hl) fun h' tk acc' c' kp e it=>?_;have ea:acc'.toList=ks.map fun x=>x.2.2:=by
  have hla:acc'.toList.length=ks.length:=by rw [Array.length_toList,it.1];exact l1
  apply List.ext_getElem?;intro j;rw [List.getElem?_map];cases hj:acc'.toList[j]? with
  | none =>
   have h1:=List.getElem?_eq_none_iff.mp hj;rw [List.getElem?_eq_none (by omega)];rfl
  | some z =>
   obtain ⟨hi,hz⟩:=it.2 j z (by rw [←Array.getElem?_toList];exact hj);have h2:es[j]?=some es[j]:=Array.getElem?_eq_getElem hi;have h3:es.toList[j]?=some es[j]:=by rw [Array.getElem?_toList];exact h2
   rw [he,List.getElem?_map] at h3;cases hb:ks[j]? with
   | none=>rw [hb] at h3;cases h3
   | some b =>
    rw [hb] at h3;have h4:=Option.some.inj h3;rw [hz,←h4];rfl
 rw [←ea] at rv;have hz:vs.length≤sizeLine:=by
  have:=rv.length;rw [this,Array.length_toList,it.1,l1];exact hl
 refine ⟨.ref s.heap.objs.size,_,I.laid (t':=tk) (o := .lst vs) kp (Nat.le_refl _) ?_,rfl,q _ _ (I.hok.fresh (Nat.le_refl _)) dv⟩;exact ⟨hz,acc'.toList,c',rv,by rw [Array.toArray_toList];exact e⟩
end
section
variable {L:Lk} {N:List Str} {sc:Nms} {W:WX} {X:Cx} {K:PySem.W.Frag}
def tValsN (i:Nat):TE:=fun σ H Q=>∃p xs ep,σ[i]?=some (some (.ref p))∧(p==sysModules)=false∧H p=some (dicO xs ep p)∧∀v,H v=none→Q (.ref v) (upd H v (viewV p v))
theorem pe_valsN {y:Str} {py apos cpos:Pos} {i:Nat} (hN:X.N[i]?=some y) (hv:Vis X.env.scope y) (hdb:(y==("__debug__" : Str))=false) (hcd:(y==("__classdict__" : Str))=false) (hline:(apos.endLine==cpos.line)=true) :
  PE X (.Call (.Attribute (.Name y py) "values" apos) [] [] cpos) (tValsN i):=by
 refine ⟨fun pins s σ H Q I h=>?_⟩;obtain ⟨p,xs,ep,hsl,hp,hH,q⟩:=h;refine wpAny_Call_method0_late rfl hline (thn ((pe_var (pos:=py) hN hv hdb hcd).run pins s σ H (fun v H1=>v = .ref p∧H1=H) I ⟨.ref p,hsl,rfl,rfl⟩) fun v s1 ⟨x,H1,I1,r1,q1⟩=>?_);obtain ⟨rfl,rfl⟩:=q1;obtain rfl:v=Value.ref p:=r1;obtain ⟨⟨o,es',h1,h2,h3,h4⟩,_,_⟩:=(show ObjOk X.prog X.w H1 s1.heap p (dicO xs ep p) from I1.hok p _ hH);refine ⟨"dict", "dict.values", PySem.F.plainAttrs_dict,PySem.F.slot_dict_values,PySem.F.type_dict_values,⟨o,h1,h2.1⟩,fun a q=>?_,?_⟩
 ·cases q;exact ⟨o,h1,h2.2.1⟩
 exact Calls.callWith_builtin rfl (PySem.evalArgs_none (mt_valsN pins s1 σ H1 (.ref p) [] (.ref p) [] Q I1 rfl .nil ⟨p,xs,ep,rfl,rfl,hp,hH,q⟩))
theorem imp_dvals {i:Nat} {σ H Q} (h:dV L K W (.dvals i) σ H Q):tCB (rListV K) (tCons (tValsN i) tNil) σ H Q:=by
 obtain ⟨f0,H0,f,en,m,ot⟩:=h;have ot:Out L.cls W σ f H (match en[i]? with
  | some (.dk kvs)=>R.ok (.list (kvs.map (·.2)),true)
  | _ => .no) (Ac K f H Q):=ot
 cases e:en[i]? with
 | none=>rw [e] at ot;exact ot.elim
 | some s =>
  rw [e] at ot;cases s with
  | dk kvs =>
   have ot:Ac K f H Q (.list (kvs.map (·.2)),true):=ot;obtain ⟨p,xs,ep,e1,hp,h0,hf,hH,hn,hl,hk⟩:=m.dk e;refine ⟨p,xs,ep,e1,hp,hH,fun v hv=>?_⟩;refine ⟨v,p,xs,kvs,f,ep,rfl,upd_same,by rw [upd_ne (ne_of_none hH hv)];exact hH,hl,hk,fun l vs hll hvs=>?_⟩;have q1:Po f H f (upd H v (viewV p v)):=(Po.refl m.po.sub).newH hv;have q2:Po f H f (upd (upd H v (viewV p v)) l (.lst vs)):=q1.newH hll;exact ot _ f _ q2 ⟨_,l,vs,rfl,rfl,q1.sH.free hll,same_none q1.sub hll,upd_same,hvs⟩
  | un=>exact ot.elim
  | va d=>exact ot.elim
  | ow d=>exact ot.elim
  | rd d=>exact ot.elim
  | er d=>exact ot.elim
  | fn d=>exact ot.elim
  | fd d=>exact ot.elim
  | dj d=>exact ot.elim
  | st d=>exact ot.elim
theorem dvals_of (xc:XC L N sc W X) {i:Nat} {f y m:Str} {fp py ap cp pos:Pos} (hf:(f==("list" : Str))=true) (hg:glOk sc f=true) (hy:nmOk N sc i y=true) (hm:(m==("values" : Str))=true) (hl:(ap.endLine==cp.line)=true) :
  PE X (.Call (.Name f fp) [.Call (.Attribute (.Name y py) m ap) [] [] cp] [] pos) (dV L X.K W (.dvals i)):=by
 have e:=str_beq hf;subst e;have e:=str_beq hm;subst e;obtain ⟨g1,g2,g3⟩:=gl_of xc hg;obtain ⟨h1,h2,h3,h4⟩:=vis_of xc hy;exact PE.imp (pe_callTy (cr_listV xc.calm) g1 (blt_of xc (by decide +kernel)) (by decide +kernel) (pa_cons (pe_valsN h1 h2 h3 h4 hl) pa_nil rfl) g3 g2 rfl rfl) fun σ H Q q=>imp_dvals q
end
end AW
namespace AW
open PySem PySem.Spec PyProof.Rows L2
variable [CdT] [StA]
def viewI (p v:Addr):HO := .ext fun h=>h.IsItemsView v p
def ItiN (p:Addr) (ep:Nat) (xs:List (NestedKey×Addr×Value)) (ys:List V):L2.It :=
 ⟨fun i H=>H p=some (dicO xs ep p)∧i<xs.length,fun i H x H'=>∃T k a u v,xs[i]?=some (k,a,u)∧ys[i]?=some v∧x = .ref T∧H T=none∧H'=upd H T (.tup [.ref a,v]),fun i H=>H p=some (dicO xs ep p)∧xs.length≤i⟩
section
variable {P:Program} {w:World} {K:PySem.W.Frag} {p:Addr} {ep:Nat}
theorem turn_itemsN {xs:List (NestedKey×Addr×Value)} {ys:List V} {elts:List Expr} {kk:Nat} {tpos:Pos} (it:Addr) (hy:∀(i:Nat) (k:NestedKey) (a:Addr) (u:Value),xs[i]?=some (k,a,u)→∃v,ys[i]?=some v∧RelV v u) :
  Turn P w K (.Tuple elts kk tpos) (ItiN p ep xs ys) [it] it (fun i h=>∃ok ov,IsItemIter h it p i xs.length ep ok ov) where
 mem:=by simp
 obj:=fun i h st b hb=>by
  have e:b=it:=by simpa using hb
  subst e;obtain ⟨ok,ov,e⟩:=st;exact ⟨_,e,fun v z=>nomatch z⟩
 keep:=fun i h h' st k=>let ⟨ok,ov,e⟩:=st;⟨ok,ov,k it (by simp) _ e⟩
 item:=by
  intro X hP hw hK hc i pins s σ H E I hf st hg;subst hP hw hK;obtain ⟨hd,hi⟩:=hg;obtain ⟨es,raw,hes⟩:=raw_at I.hok hd;have hl:es.size=xs.length:=by rw [←Array.length_toList,hes,List.length_map]
  obtain ⟨⟨k,a,u⟩,hkv⟩:∃q,xs[i]?=some q:=⟨xs[i],List.getElem?_eq_getElem hi⟩;obtain ⟨v,hv,ru⟩:=hy i k a u hkv;obtain ⟨ok,ov,he⟩:=st;rw [←hl] at he;have hi':i<es.size:=by rw [hl];exact hi
  have hlt:it<s.heap.objs.size:=Heap.lt_size he;have hq:es[i]=⟨kh k,.ref a,u⟩:=by
   have h3:es.toList[i]?=some es[i]:=by rw [Array.getElem?_toList];exact Array.getElem?_eq_getElem hi'
   rw [hes,List.getElem?_map,hkv] at h3;exact (Option.some.inj h3).symm
  refine wpAny_pyNext_items_item_raw he raw hi' fun h' ho hT hz hk=>?_;refine ⟨_,rfl,wpAny_letOwnedTupleGo_items (s:={ s with heap:=h' }) ho fun h'' he' sb=>?_⟩;rw [hq] at hT he';have hT2:h''.get? s.heap.objs.size=some { cls := .type "tuple", data := .seq #[.ref a,u] }:=(sb.2 _ (Nat.ne_of_gt hlt)).trans hT;have new:ObjOk X.prog X.w (upd H s.heap.objs.size (.tup [.ref a,v])) h'' s.heap.objs.size (.tup [.ref a,v]) :=
   ⟨by show 2≤sizeLine;decide,[.ref a,u],.cons rfl (.cons ru .nil),⟨_,hT2,rfl,_,rfl⟩⟩
  have I1:Inv X pins σ (upd H s.heap.objs.size (.tup [.ref a,v])) { s with heap:=h'' } :=
   I.turnedNew (t':=s.toks) (ch:=[it]) (fun b ob hb e=>(sb.2 b (by simpa using hb)).trans (hk b ob (by simpa using hb) e)) hf (Nat.le_refl _) new
  refine ⟨.ref s.heap.objs.size,_,I1,rfl,⟨_,k,a,u,v,hkv,hv,rfl,I.hok.fresh (Nat.le_refl _),rfl⟩,⟨.ref a,u,?_⟩,fun b hb=>?_⟩
  ·rw [←hl];exact he'
  ·have e:b=it:=by simpa using hb
   rw [e,upd_ne (Nat.ne_of_lt hlt)];exact (hf it (by simp)).1
 done:=by
  intro X hP hw hK hc i pins s σ H E I hf st hg;subst hP hw hK;obtain ⟨hd,hi⟩:=hg;obtain ⟨f0,f1,f2,f3,f4,f5⟩:=hf it (by simp);obtain ⟨es,raw,hes⟩:=raw_at I.hok hd;have hl:es.size=xs.length:=by rw [←Array.length_toList,hes,List.length_map]
  obtain ⟨ok,ov,he⟩:=st;rw [←hl] at he;exact wpAny_pyNext_items_end_raw (I.ok.hd hc) he raw (by omega) fun h' eb=>⟨rfl,I.turned (t':=s.toks) (fun b ob hb e=>eb b ob hb e) f0 f1 f3 f4 f5⟩
 self:=fun A i s Q E st h=>let ⟨_,_,e⟩:=st;PySem.W.kcp_self e h
end
section
variable {X:Cx}
def rItemsN:V→List V→Hp→VK→Prop:=fun x vs H Q=>∃(p:Addr) (xs:List (NestedKey×Addr×Value)) (ep:Nat),x = .ref p∧vs=[]∧(p==sysModules)=false∧H p=some (dicO xs ep p)∧∀v,H v=none→Q (.ref v) (upd H v (viewI p v))
theorem mt_itemsN:MtR X "dict.items" rItemsN:=by
 intro pins s σ H x vs v us Q I rx rxs h;obtain ⟨p,xs,ep,rfl,rfl,hp,hH,q⟩:=h;obtain rfl:v=Value.ref p:=rx;cases rxs;obtain ⟨es,raw,he⟩:=raw_at I.hok hH;refine call_meetsIn PySem.F.slot_dict_items raw.typeIs PySem.F.entry_dict_items (PySem.F.args_dict_items_1 _) (meets_dict_items_raw p hp) ⟨⟨es,ep,raw⟩,?_⟩;refine ⟨.ref s.heap.objs.size,_,I.laid (a:=s.heap.objs.size) (o:=viewI p s.heap.objs.size) (t':=s.toks) (fun _ _ q=>Heap.get?_push_of_some _ q) (Nat.le_refl _) ?_,rfl,q _ (I.hok.fresh (Nat.le_refl _))⟩;exact ⟨⟨_,Heap.get?_push_size _ rfl,rfl,rfl⟩,⟨_,Heap.get?_push_size _ rfl⟩,fun g1 g2 ⟨o,a1,a2⟩ k=>⟨o,k o a1,a2⟩⟩
def tItemsN (i:Nat):TE:=fun σ H Q=>∃p xs ep,σ[i]?=some (some (.ref p))∧(p==sysModules)=false∧H p=some (dicO xs ep p)∧∀v,H v=none→Q (.ref v) (upd H v (viewI p v))
theorem pe_itemsN {y:Str} {py apos cpos:Pos} {i:Nat} (hN:X.N[i]?=some y) (hv:Vis X.env.scope y) (hdb:(y==("__debug__" : Str))=false) (hcd:(y==("__classdict__" : Str))=false) (hline:(apos.endLine==cpos.line)=true) :
  PE X (.Call (.Attribute (.Name y py) "items" apos) [] [] cpos) (tItemsN i):=by
 refine ⟨fun pins s σ H Q I h=>?_⟩;obtain ⟨p,xs,ep,hsl,hp,hH,q⟩:=h;refine wpAny_Call_method0_late rfl hline (thn ((pe_var (pos:=py) hN hv hdb hcd).run pins s σ H (fun v H1=>v = .ref p∧H1=H) I ⟨.ref p,hsl,rfl,rfl⟩) fun v s1 ⟨x,H1,I1,r1,q1⟩=>?_);obtain ⟨rfl,rfl⟩:=q1;obtain rfl:v=Value.ref p:=r1;obtain ⟨⟨o,es',h1,h2,h3,h4⟩,_,_⟩:=(show ObjOk X.prog X.w H1 s1.heap p (dicO xs ep p) from I1.hok p _ hH);refine ⟨"dict", "dict.items", PySem.F.plainAttrs_dict,PySem.F.slot_dict_items,PySem.F.type_dict_items,⟨o,h1,h2.1⟩,fun a q=>?_,?_⟩
 ·cases q;exact ⟨o,h1,h2.2.1⟩
 exact Calls.callWith_builtin rfl (PySem.evalArgs_none (mt_itemsN pins s1 σ H1 (.ref p) [] (.ref p) [] Q I1 rfl .nil ⟨p,xs,ep,rfl,rfl,hp,hH,q⟩))
def iItemsN (i:Nat):TI:=fun σ H R=>∃p xs ep ys,σ[i]?=some (some (.ref p))∧(p==sysModules)=false∧H p=some (dicO xs ep p)∧(∀(i:Nat) (k:NestedKey) (a:Addr) (u:Value),xs[i]?=some (k,a,u)→∃v,ys[i]?=some v∧RelV v u)∧∀v,H v=none→R (ItiN p ep xs ys) (upd H v (viewI p v))
theorem pi_itemsN {y:Str} {py apos cpos tpos:Pos} {elts:List Expr} {kk:Nat} {i:Nat} (hN:X.N[i]?=some y) (hv:Vis X.env.scope y) (hdb:(y==("__debug__" : Str))=false) (hcd:(y==("__classdict__" : Str))=false) (hline:(apos.endLine==cpos.line)=true) :
  PI X (.Tuple elts kk tpos) (.Call (.Attribute (.Name y py) "items" apos) [] [] cpos) (iItemsN i):=by
 refine ⟨fun pins s σ H R I h=>?_⟩;obtain ⟨p,xs,ep,ys,hsl,hp,hH,hy,q⟩:=h;refine thn ((pe_itemsN (py:=py) (apos:=apos) (cpos:=cpos) hN hv hdb hcd hline).run pins s σ H (fun v H1=>∃b,v = .ref b∧H1 b=some (viewI p b)∧H1 p=some (dicO xs ep p)∧R (ItiN p ep xs ys) H1) I ⟨p,xs,ep,hsl,hp,hH,fun v hn=>⟨v,rfl,upd_same,by rw [upd_ne (ne_of_none hH hn)];exact hH,q v hn⟩⟩) fun u s1 ⟨x,H1,I1,rx,b,ex,hb,hd,q⟩=>?_;subst ex;obtain rfl:u=Value.ref b:=rx;obtain ⟨es,raw,hes⟩:=raw_at I1.hok hd;have hl:es.size=xs.length:=by rw [←Array.length_toList,hes,List.length_map]
 obtain ⟨view,_,_⟩:=(show ObjOk X.prog X.w H1 s1.heap b (viewI p b) from I1.hok b _ hb);refine wpAny_pyIter_items_raw (show s1.heap.IsItemsView b p from view) raw (pi_one (tk:=s1.toks) I1 _ (turn_itemsN _ hy) ⟨.none,.none,?_⟩ q);rw [←hl];exact Heap.get?_push_size _ rfl
end
section
variable {L:Lk} {N:List Str} {sc:Nms} {W:WX} {X:Cx} {K:PySem.W.Frag}
theorem dk_ys {f:Hp}:∀{kvs:List (D×D)} {xs:List (NestedKey×Addr×Value)},DkAll K f kvs xs→∃ys:List V,∀(i:Nat) (kn:NestedKey) (a:Addr) (u:Value),xs[i]?=some (kn,a,u)→∃k d v,kvs[i]?=some (k,d)∧ys[i]?=some v∧RelV v u∧Dp K f (.ref a) k∧Dp K f v d
 | _,_,.nil=>⟨[],fun i kn a u h=>by simp at h⟩
 | _,_,.cons (k:=k) (d:=d) (a:=a) (v:=v) (u:=u) hk ha hu hd t=>by
  obtain ⟨ys,h⟩:=dk_ys t;refine ⟨v::ys,fun i kn a' u' e=>?_⟩;cases i with
  | zero =>
   simp only [List.getElem?_cons_zero,Option.some.injEq,Prod.mk.injEq] at e;obtain ⟨rfl,rfl,rfl⟩:=e;exact ⟨k,d,v,rfl,rfl,hu,ha,hd⟩
  | succ i =>
   rw [List.getElem?_cons_succ] at e;rw [List.getElem?_cons_succ,List.getElem?_cons_succ];exact h i kn a' u' e
theorem impI_ditems {i:Nat} {σ H Rr} (h:dI L K W (.ditems i) σ H Rr):iItemsN i σ H Rr:=by
 obtain ⟨f0,H0,f,en,m,ot⟩:=h;have ot:Out L.cls W σ f H (match en[i]? with
  | some (.fd kvs)=>R.ok (kvs.map fun x=>PyData.tuple [x.1,x.2])
  | _ => .no) fun ds=>∀J f' H',Po f H f' H'→Wk K f' J ds→Rr J H':=ot
 cases e:en[i]? with
 | none=>rw [e] at ot;exact ot.elim
 | some s =>
  rw [e] at ot;cases s with
  | fd kvs =>
   have ot:∀J f' H',Po f H f' H'→Wk K f' J (kvs.map fun x=>PyData.tuple [x.1,x.2])→Rr J H':=ot;obtain ⟨p,xs,ep,e1,hp,hf,hl,hk⟩:=m.fd e;obtain ⟨ys,hys⟩:=dk_ys hk;have hln:=hk.len;refine ⟨p,xs,ep,ys,e1,hp,m.po.sub _ _ hf,fun j kn a u hx=>let ⟨_,_,v,_,h2,h3,_⟩:=hys j kn a u hx;⟨v,h2,h3⟩,fun v hv=>ot _ f _ ((Po.refl m.po.sub).newH hv) ⟨fun j H1 sm hj=>?_,fun H1 sm=>?_,fun j H1 x H2 hj sm y=>?_⟩⟩
   ·rw [List.length_map] at hj;exact ⟨sm _ _ hf,by omega⟩
   ·exact ⟨sm _ _ hf,by rw [List.length_map];omega⟩
   ·obtain ⟨T,kn,a,u,v,h1,h2,rfl,hT,rfl⟩:=y;obtain ⟨k,d,v',g1,g2,g3,g4,g5⟩:=hys j kn a u h1;rw [h2] at g2;cases g2;refine ⟨.tuple [k,d],by rw [List.getElem?_map,g1];rfl,fun fc s1 s2=>pair_new s2 hT (dp_same s1 g4) (dp_same s1 g5)⟩
  | un=>exact ot.elim
  | va d=>exact ot.elim
  | ow d=>exact ot.elim
  | rd d=>exact ot.elim
  | er d=>exact ot.elim
  | fn d=>exact ot.elim
  | dk d=>exact ot.elim
  | dj d=>exact ot.elim
  | st d=>exact ot.elim
theorem items_of (xc:XC L N sc W X) {i:Nat} {y m:Str} {elts:List Expr} {kk:Nat} {py ap cp tpos:Pos} (hy:nmOk N sc i y=true) (hm:(m==("items" : Str))=true) (hl:(ap.endLine==cp.line)=true) :
  PI X (.Tuple elts kk tpos) (.Call (.Attribute (.Name y py) m ap) [] [] cp) (dI L X.K W (.ditems i)):=by
 have e:=str_beq hm;subst e;obtain ⟨h1,h2,h3,h4⟩:=vis_of xc hy;exact PI.imp (pi_itemsN h1 h2 h3 h4 hl) fun σ H Q q=>impI_ditems q
end
end AW
namespace AW
open PySem PySem.Spec PyProof.Rows L2 PySem.W
variable [CdT] [StA]
section
variable {prog:Program} {w:World} {A:Around} {E:Value→Shared→Prop} {s:Shared}
theorem raw_same0 {nm:String} {a b:Addr} {es:Array DictEntry} {ep ep':Nat} {Q:Bool→Shared→Prop} (ha:(a==sysModules)=false) (hb:(b==sysModules)=false)
  (da:s.heap.DictRaw a es ep) (db:s.heap.DictRaw b #[] ep') (h:Q (es.size==0) s):wpAny (model prog w) A (Builtin.Dict.samePairs nm a b) Q E s:=by
 obtain ⟨oa,hoa,_,hda⟩:=da;obtain ⟨ob,hob,_,hdb⟩:=db;unfold Builtin.Dict.samePairs Builtin.Dict.showsAll;rw [if_neg (show ¬(a==sysModules)=true by rw [ha];exact Bool.false_ne_true),if_neg (show ¬(b==sysModules)=true by rw [hb];exact Bool.false_ne_true)];refine wpAny_bind (wpAny_pure (wpAny_bind (wpAny_pure ?_)));refine wpAny_bind (wpAny_dictEntries hoa hda ?_);dsimp only
 refine wpAny_bind (wpAny_dictEntries hob hdb ?_);by_cases hsz:es.size=0
 case neg =>
  rw [if_pos (by simpa using hsz)];have hbf:(es.size==0)=false:=by simpa using hsz
  rw [hbf] at h;exact wpAny_bind (wpAny_rule (wpAny_pure h))
 case pos =>
  have h':Q true s:=by simpa [hsz] using h
  rw [if_neg (by rw [hsz];simp)];refine wpAny_bind (wpAny_dictEpoch hoa hda ?_);rw [hsz];refine wpAny_bind ?_;rw [Std.Legacy.Range.forIn_eq_forIn_range'];exact wpAny_pure (wpAny_pure h')
theorem raw_ne0 {a b:Addr} {es:Array DictEntry} {ep ep':Nat} {Q:Value→Shared→Prop} (ha:(a==sysModules)=false) (hb:(b==sysModules)=false)
  (da:s.heap.DictRaw a es ep) (db:s.heap.DictRaw b #[] ep') (hu:A.units<cLine) (h:Q (.bool (!(es.size==0))) s) :
  wpAny (model prog w) A (compareOp .NotEq (.ref a) (.ref b)) Q E s:=by
 refine wpAny_richCompare_same_room (op := .NotEq) da.typeIs db.typeIs PySem.F.slot_dict_ne (wpAny_call_entry PySem.F.slot_dict_ne da.typeIs PySem.F.entry_dict_ne ?_ (PySem.F.args_dict_ne_2 _ _)) hu;show wpAny _ _ (Builtin.Dict.dictSlotArgs "__ne__" ⟨[.ref a,.ref b],[]⟩ >>= _) _ _ s;refine wpAny_bind ?_;unfold Builtin.Dict.dictSlotArgs;refine wpAny_bind (wpAny_notOrdered_dict da.typeIs ?_);show wpAny _ _ (pure (Value.ref a,Value.ref b)) _ _ s;refine wpAny_pure ?_;refine wpAny_bind (wpAny_isInstance (T := "dict") db.typeIs PySem.F.sub_dict_dict ?_);simp only [Bool.not_true,Bool.false_eq_true,if_false];refine wpAny_bind (wpAny_pure (wpAny_bind (wpAny_pure ?_)));refine wpAny_bind (raw_same0 ha hb da db ?_);refine wpAny_pure ⟨_,rfl,?_,?_⟩
 ·exact fun x=>nomatch x
 ·have e:((es.size==0)==false) = !(es.size==0):=by cases (es.size==0) <;> rfl
  simp only [e];exact h
end
section
variable {X:Cx}
def rDne:R2:=fun x y H Q=>∃(p q:Addr) (xs:List (NestedKey×Addr×Value)) (ep ep':Nat),x = .ref p∧y = .ref q∧(p==sysModules)=false∧(q==sysModules)=false∧H p=some (dicO xs ep p)∧H q=some (dicO [] ep' q)∧Q (.bl (!xs.isEmpty)) H
theorem op_dne (hu:X.A.units+65<cLine):OpR X (compareOp .NotEq) rDne:=by
 intro pins s σ H x y v u Q I rx ry h;obtain ⟨p,q,xs,ep,ep',rfl,rfl,hp,hq,hH,hH',hQ⟩:=h;obtain rfl:v=Value.ref p:=rx;obtain rfl:u=Value.ref q:=ry;obtain ⟨es,raw,he⟩:=raw_at I.hok hH;obtain ⟨es',raw',he'⟩:=raw_at I.hok hH';have e0:es' = #[]:=by
  cases es' with
  | mk l =>
   have:l=[]:=he';rw [this]
 rw [e0] at raw';have l1:es.size=xs.length:=by rw [←Array.length_toList,he,List.length_map]
 refine raw_ne0 hp hq raw raw' (by omega) ⟨.bl (!xs.isEmpty),H,I,?_,hQ⟩;show Value.bool _=Value.bool _;rw [l1];cases xs <;> rfl
def tDne (i:Nat):TE:=tOp rDne (tVar i) tDNewN
theorem pe_dne {y:Str} {py dp cpos:Pos} {i:Nat} (hu:X.A.units+65<cLine) (hN:X.N[i]?=some y) (hv:Vis X.env.scope y) (hdb:(y==("__debug__" : Str))=false) (hcd:(y==("__classdict__" : Str))=false) :
  PE X (.Compare (.Name y py) [.NotEq] [.Dict [] [] dp] cpos) (tDne i) :=
 pe_cmpR (op_dne hu) (pe_var hN hv hdb hcd) pe_dnewN (by rfl)
def rListK:List V→Hp→VK→Prop:=fun xs H Q=>∃(p:Addr) (es:List (NestedKey×Addr×Value)) (ep:Nat),xs=[.ref p]∧(p==sysModules)=false∧H p=some (dicO es ep p)∧es.length≤sizeLine ∧
 ∀l,H l=none→Q (.ref l) (upd H l (.lst (es.map fun x=>V.ref x.2.1)))
theorem vals_refs:∀ks:List (NestedKey×Addr×Value),Vals (ks.map fun x=>V.ref x.2.1) (ks.map fun x=>Value.ref x.2.1)
 | [] => .nil
 | _::ks => .cons rfl (vals_refs ks)
theorem cr_listK (hc:X.calm=true):CallR X (.type "list") rListK:=by
 intro pins s σ H xs us Q I r h;obtain ⟨p,ks,ep,rfl,hp,hH,hl,q⟩:=h;obtain ⟨u,rfl,rx⟩:=r.one;obtain rfl:u=Value.ref p:=rx;obtain ⟨es,raw,he⟩:=raw_at I.hok hH;have l1:es.size=ks.length:=by rw [←Array.length_toList,he,List.length_map]
 refine PySem.W.kdl_call (KdlSrc.rawDict (d:=p) (es:=es) (ep:=ep) hp) (I.ok.hd hc) raw (by rw [l1];exact hl) fun h' tk acc' c' kp e it=>?_;have ea:acc'.toList=ks.map fun x=>Value.ref x.2.1:=by
  have hla:acc'.toList.length=ks.length:=by rw [Array.length_toList,it.1];exact l1
  apply List.ext_getElem?;intro j;rw [List.getElem?_map];cases hj:acc'.toList[j]? with
  | none =>
   have h1:=List.getElem?_eq_none_iff.mp hj;rw [List.getElem?_eq_none (by omega)];rfl
  | some z =>
   obtain ⟨hi,hz⟩:=it.2 j z (by rw [←Array.getElem?_toList];exact hj);have h2:es[j]?=some es[j]:=Array.getElem?_eq_getElem hi;have h3:es.toList[j]?=some es[j]:=by rw [Array.getElem?_toList];exact h2
   rw [he,List.getElem?_map] at h3;cases hb:ks[j]? with
   | none=>rw [hb] at h3;cases h3
   | some b =>
    rw [hb] at h3;have h4:=Option.some.inj h3;rw [hz,←h4];rfl
 have rv:=vals_refs ks;rw [←ea] at rv;have hz:(ks.map fun x=>V.ref x.2.1).length≤sizeLine:=by rw [List.length_map];exact hl
 refine ⟨.ref s.heap.objs.size,_,I.laid (t':=tk) (o := .lst (ks.map fun x=>V.ref x.2.1)) kp (Nat.le_refl _) ?_,rfl,q _ (I.hok.fresh (Nat.le_refl _))⟩;exact ⟨hz,acc'.toList,c',rv,by rw [Array.toArray_toList];exact e⟩
def ItkN (p:Addr) (ep:Nat) (xs:List (NestedKey×Addr×Value)):L2.It :=
 ⟨fun i H=>H p=some (dicO xs ep p)∧i<xs.length,fun i H x H'=>∃k a u,xs[i]?=some (k,a,u)∧x = .ref a∧H'=H,fun i H=>H p=some (dicO xs ep p)∧xs.length≤i⟩
end
section
variable {P:Program} {w:World} {K:PySem.W.Frag} {p:Addr} {ep:Nat}
theorem turn_keysN {xs:List (NestedKey×Addr×Value)} {tg:Expr} (it:Addr):Turn P w K tg (ItkN p ep xs) [it] it (fun i h=>h.IsKeyIter it p i xs.length ep) where
 mem:=by simp
 obj:=fun i h st b hb=>by
  have e:b=it:=by simpa using hb
  subst e;obtain ⟨o,e,c,d⟩:=st;exact ⟨o,e,fun v z=>by rw [d] at z;cases z⟩
 keep:=fun i h h' st k=>st.at fun o e=>k it (by simp) o e
 item:=by
  intro X hP hw hK hc i pins s σ H E I hf st hg;subst hP hw hK;obtain ⟨hd,hi⟩:=hg;obtain ⟨es,raw,hes⟩:=raw_at I.hok hd;have hl:es.size=xs.length:=by rw [←Array.length_toList,hes,List.length_map]
  obtain ⟨⟨k,a,u⟩,hkv⟩:∃q,xs[i]?=some q:=⟨xs[i],List.getElem?_eq_getElem hi⟩;obtain ⟨f0,f1,f2,f3,f4,f5⟩:=hf it (by simp);have st':s.heap.IsKeyIter it p i es.size ep:=by rw [hl];exact st
  have hi':i<es.size:=by rw [hl];exact hi
  have hq:es[i]=⟨kh k,.ref a,u⟩:=by
   have h3:es.toList[i]?=some es[i]:=by rw [Array.getElem?_toList];exact Array.getElem?_eq_getElem hi'
   rw [hes,List.getElem?_map,hkv] at h3;exact (Option.some.inj h3).symm
  refine wpAny_pyNext_keys_item_raw st' raw hi' fun h' st2 sb=>?_;have I1:Inv X pins σ H { s with heap:=h' }:=I.turned (t':=s.toks) (fun b o hb e=>(sb.2 b hb).trans e) f0 f1 f3 f4 f5;obtain ⟨o,e,c,d⟩:=id st2;rw [hq];exact ⟨_,rfl,go_of (s:={ s with heap:=h' }) e c d (by decide) ⟨.ref a,H,I1,rfl,⟨k,a,u,hkv,rfl,rfl⟩,by rw [←hl];exact st2,fun b hb=>(hf b hb).1⟩⟩
 done:=by
  intro X hP hw hK hc i pins s σ H E I hf st hg;subst hP hw hK;obtain ⟨hd,hi⟩:=hg;obtain ⟨f0,f1,f2,f3,f4,f5⟩:=hf it (by simp);obtain ⟨es,raw,hes⟩:=raw_at I.hok hd;have hl:es.size=xs.length:=by rw [←Array.length_toList,hes,List.length_map]
  have st':s.heap.IsKeyIter it p i es.size ep:=by rw [hl];exact st
  exact wpAny_pyNext_keys_end_raw (I.ok.hd hc) st' raw (by omega) fun h' eb=>⟨rfl,I.turned (t':=s.toks) (fun b o hb e=>eb b o hb e) f0 f1 f3 f4 f5⟩
 self:=fun A i s Q E st h=>wpAny_pyIter_keyiter st h
end
section
variable {X:Cx}
def iKeysN (i:Nat):TI:=fun σ H R=>∃p xs ep,σ[i]?=some (some (.ref p))∧(p==sysModules)=false∧H p=some (dicO xs ep p)∧R (ItkN p ep xs) H
theorem pi_keysN {tg:Expr} {y:Str} {py:Pos} {i:Nat} (hN:X.N[i]?=some y) (hv:Vis X.env.scope y) (hdb:(y==("__debug__" : Str))=false) (hcd:(y==("__classdict__" : Str))=false) :
  PI X tg (.Name y py) (iKeysN i):=by
 refine ⟨fun pins s σ H R I h=>?_⟩;obtain ⟨p,xs,ep,hsl,hp,hH,q⟩:=h;refine thn ((pe_var (pos:=py) hN hv hdb hcd).run pins s σ H (fun v H1=>v = .ref p∧H1=H) I ⟨.ref p,hsl,rfl,rfl⟩) fun u s1 ⟨x,H1,I1,rx,e1,e2⟩=>?_;subst e1;subst e2
 obtain rfl:u=Value.ref p:=rx;obtain ⟨es,raw,hes⟩:=raw_at I1.hok hH;have hl:es.size=xs.length:=by rw [←Array.length_toList,hes,List.length_map]
 refine wpAny_pyIter_dict_raw hp raw (pi_one (tk:=s1.toks) I1 _ (turn_keysN _) ?_ q);rw [←hl];exact ⟨_,Heap.get?_push_size _ rfl,rfl,rfl⟩
def rPopN (K:PySem.W.Frag):V→List V→Hp→VK→Prop:=fun x vs H Q=>∃(p b:Addr) (xs:List (NestedKey×Addr×Value)) (kvs:List (D×D)) (kd d:D) (f:Hp) (ep:Nat),x = .ref p∧vs=[.ref b]∧(p==sysModules)=false∧H p=some (dicO xs ep p)∧(xs.map (·.1)).Nodup∧xs.length≤sizeLine ∧
 DkAll K f kvs xs∧Same f H∧keyOk kd=true∧Dp K f (.ref b) kd∧dlook kvs kd=some d∧∀v ep',Dp K f v d→((withoutH xs (nk kd)).map (·.1)).Nodup→Q v (upd H p (dicO (withoutH xs (nk kd)) ep' p))
theorem without_at {K:PySem.W.Frag} {f:Hp} {kd:D}:∀{kvs:List (D×D)} {xs:List (NestedKey×Addr×Value)},DkAll K f kvs xs→DkAll K f (kvs.filter fun x=>decide (nk x.1≠nk kd)) (withoutH xs (nk kd))
 | _,_,.nil => .nil
 | _,_,.cons (k:=k) (d:=d) (a:=a) (v:=v) (u:=u) (r:=r) (xs:=xs) hk ha hu hd t=>by
  have ih:=without_at (kd:=kd) t;by_cases e:nk k=nk kd
  ·have e1:((k,d)::r).filter (fun x=>decide (nk x.1≠nk kd))=r.filter fun x=>decide (nk x.1≠nk kd):=List.filter_cons_of_neg (by simp [e]);have e2:withoutH ((nk k,a,u)::xs) (nk kd)=withoutH xs (nk kd):=List.filter_cons_of_neg (by simp [e]);rw [e1,e2];exact ih
  ·have e1:((k,d)::r).filter (fun x=>decide (nk x.1≠nk kd))=(k,d)::r.filter fun x=>decide (nk x.1≠nk kd):=List.filter_cons_of_pos (by simp [e]);have e2:withoutH ((nk k,a,u)::xs) (nk kd)=(nk k,a,u)::withoutH xs (nk kd):=List.filter_cons_of_pos (by simp [e]);rw [e1,e2];exact .cons hk ha hu hd ih
theorem mt_popN (hu:X.A.units+65<cLine):MtR X "dict.pop" (rPopN X.K):=by
 intro pins s σ H x vs v us Q I rx rxs h;obtain ⟨p,b,xs,kvs,kd,d,f,ep,rfl,rfl,hp,hH,hn,hl,hk,sm,ko,hb,hd,q⟩:=h;obtain rfl:v=Value.ref p:=rx;obtain ⟨uy,rfl,ry⟩:=rxs.one;obtain rfl:uy=Value.ref b:=ry;have dd:=dicO_at I hH hn (hk.same sm);rcases dkLook_at (kd:=kd) hk with ⟨e1,e2⟩ | ⟨d',a,v',u',e1,e2,r',hd'⟩
 ·rw [e1] at hd;cases hd
 ·rw [e1] at hd;cases hd;refine call_pop_heap (hsz:=hl) (.inl rfl) (PySem.F.args_dict_pop_2 _ _) (room_n (X:=X) hu) (key_at I ko (dp_same sm hb)) hp dd e2 fun h' dd' hs=>?_;have he:∃q,h'.get? p=some q:=let ⟨q,_,_,hq,_⟩:=dd';⟨q,hq⟩
  have hn':((withoutH xs (nk kd)).map (·.1)).Nodup:=let ⟨_,_,_,_,_,_,_,_,h5⟩:=dd';h5
  obtain ⟨ep',ok⟩:=dicO_new (P:=X.prog) (w:=X.w) (H:=upd H p (dicO [] 0 p)) (without_at (kd:=kd) hk) dd';exact ⟨v',_,d_write I (by rw [hH];exact True.intro) hs he (show ObjOk _ _ _ _ _ (dicO _ ep' _) from ok),r',q v' ep' hd' hn'⟩
theorem pe_popN {y:Str} {py apos cpos:Pos} {e:Expr} {i:Nat} {t:TA} (hu:X.A.units+65<cLine) (hN:X.N[i]?=some y) (hv:Vis X.env.scope y) (hdb:(y==("__debug__" : Str))=false) (hcd:(y==("__classdict__" : Str))=false) (ha:PA X [e] t)
  (hfew:((backTo cpos (starEach [e] X.env)).all (fun x => !x.1)&&(backToKw cpos (keywordEach [] X.env)).all (fun x=>x.1.isSome)
   && decide ([e].length+([]:List Keyword).length+(if ([]:List Keyword).isEmpty then 0 else 1)<30))=true)
  (hline:(apos.endLine==cpos.line)=true) (hs:starEach [e] X.env=(false,eval e X.env)::starEach [] X.env) :
  PE X (.Call (.Attribute (.Name y py) "pop" apos) [e] [] cpos) (tBMN i (rPopN X.K) t):=by
 refine ⟨fun pins s σ H Q I h=>?_⟩;obtain ⟨p,xs,ep,hsl,hH,ht⟩:=h;refine wpAny_Call_method_late rfl hfew hline rfl (thn ((pe_var (pos:=py) hN hv hdb hcd).run pins s σ H (fun v H1=>v = .ref p∧H1=H) I ⟨.ref p,hsl,rfl,rfl⟩) fun v s1 ⟨x,H1,I1,r1,q1⟩=>?_);obtain ⟨rfl,rfl⟩:=q1;obtain rfl:v=Value.ref p:=r1;obtain ⟨⟨o,es',h1,h2,h3,h4⟩,_,_⟩:=(show ObjOk X.prog X.w H1 s1.heap p (dicO xs ep p) from I1.hok p _ hH);refine ⟨"dict", "dict.pop", PySem.F.plainAttrs_dict,PySem.F.slot_dict_pop,PySem.F.type_dict_pop,⟨o,h1,h2.1⟩,fun a q=>?_,?_⟩
 ·cases q;exact ⟨o,h1,h2.2.1⟩
 have hA:=ha.run cpos pins s1 σ H1 _ I1 ht;rw [hs] at hA ⊢;refine Calls.callWith_builtin (by rfl) (Calls.evalArgs_plain ?_);exact thn hA fun us s2 ⟨vs,H2,I2,r2,q2⟩=>mt_popN hu pins s2 σ H2 (.ref p) vs (.ref p) us Q I2 rfl r2 q2
end
section
variable {L:Lk} {N:List Str} {sc:Nms} {W:WX} {X:Cx} {K:PySem.W.Frag}
theorem imp_dne {i:Nat} {σ H Q} (h:dV L K W (.dne i) σ H Q):tDne i σ H Q:=by
 obtain ⟨f0,H0,f,en,m,ot⟩:=h;have ot:Out L.cls W σ f H (match en[i]? with
  | some (.dk kvs)=>v1 (.bool (!kvs.isEmpty))
  | _ => .no) (Ac K f H Q):=ot
 cases e:en[i]? with
 | none=>rw [e] at ot;exact ot.elim
 | some s =>
  rw [e] at ot;cases s with
  | dk kvs =>
   have ot:Ac K f H Q (.bool (!kvs.isEmpty),false):=ot;obtain ⟨p,xs,ep,e1,hp,h0,hf,hH,hn,hl,hk⟩:=m.dk e;refine ⟨.ref p,e1,fun q ep' hq hqn=>⟨p,q,xs,ep,ep',rfl,rfl,hp,hq,by rw [upd_ne (ne_of_none hH hqn)];exact hH,upd_same,?_⟩⟩;have el:xs.isEmpty=kvs.isEmpty:=by
    have:=hk.len;cases xs <;> cases kvs <;> simp_all
   rw [el];exact ot _ f _ ((Po.refl m.po.sub).newH hqn) (show Dp K f (.bl (!kvs.isEmpty)) (.bool (!kvs.isEmpty)) from .bl _)
  | un=>exact ot.elim
  | va d=>exact ot.elim
  | ow d=>exact ot.elim
  | rd d=>exact ot.elim
  | er d=>exact ot.elim
  | fn d=>exact ot.elim
  | fd d=>exact ot.elim
  | dj d=>exact ot.elim
  | st d=>exact ot.elim
theorem dne_of (xc:XC L N sc W X) {i:Nat} {y:Str} {py dp cpos:Pos} (hy:nmOk N sc i y=true):PE X (.Compare (.Name y py) [.NotEq] [.Dict [] [] dp] cpos) (dV L X.K W (.dne i)):=by
 obtain ⟨h1,h2,h3,h4⟩:=vis_of xc hy;exact PE.imp (pe_dne xc.units h1 h2 h3 h4) fun σ H Q q=>imp_dne q
theorem dneT_of (xc:XC L N sc W X) {i:Nat} {y:Str} {py dp cpos:Pos} (hy:nmOk N sc i y=true):PT X (.Compare (.Name y py) [.NotEq] [.Dict [] [] dp] cpos) (dT L X.K W (.dne i)):=by
 obtain ⟨h1,h2,h3,h4⟩:=vis_of xc hy;refine PT.imp (pt_cmpR (op_dne xc.units) (pe_var h1 h2 h3 h4) pe_dnewN (by rfl)) fun σ H Q q=>imp_dne (dT_dV (fun _ z=>by cases z) (fun en p ep=>?_) q);have ep':(match en[i]? with
  | some (.dk kvs)=>v1 (.bool (!kvs.isEmpty))
  | _ => .no)=R.ok p:=ep
 cases e:en[i]? with
 | none=>rw [e] at ep';cases ep'
 | some s =>
  rw [e] at ep';cases s with
  | dk kvs=>cases ep';exact ⟨_,rfl⟩
  | un=>cases ep'
  | va d=>cases ep'
  | ow d=>cases ep'
  | rd d=>cases ep'
  | er d=>cases ep'
  | fn d=>cases ep'
  | fd d=>cases ep'
  | dj d=>cases ep'
  | st d=>cases ep'
theorem keys_vs {f:Hp}:∀{kvs:List (D×D)} {xs:List (NestedKey×Addr×Value)},DkAll K f kvs xs→DpAll K f (xs.map fun x=>V.ref x.2.1) (kvs.map (·.1))
 | _,_,.nil => .nil
 | _,_,.cons _ ha _ _ t => .cons ha (keys_vs t)
theorem imp_dkeys {i:Nat} {σ H Q} (h:dV L K W (.dkeys i) σ H Q):tCB rListK (tCons (tVar i) tNil) σ H Q:=by
 obtain ⟨f0,H0,f,en,m,ot⟩:=h;have ot:Out L.cls W σ f H (match en[i]? with
  | some (.dk kvs)=>R.ok (.list (kvs.map (·.1)),true)
  | _ => .no) (Ac K f H Q):=ot
 cases e:en[i]? with
 | none=>rw [e] at ot;exact ot.elim
 | some s =>
  rw [e] at ot;cases s with
  | dk kvs =>
   have ot:Ac K f H Q (.list (kvs.map (·.1)),true):=ot;obtain ⟨p,xs,ep,e1,hp,h0,hf,hH,hn,hl,hk⟩:=m.dk e;refine ⟨.ref p,e1,p,xs,ep,rfl,hp,hH,hl,fun l hll=>?_⟩;have q2:Po f H f (upd H l (.lst (xs.map fun x=>V.ref x.2.1))):=(Po.refl m.po.sub).newH hll;exact ot _ f _ q2 ⟨_,l,_,rfl,rfl,nw hll,same_none m.po.sub hll,upd_same,keys_vs hk⟩
  | un=>exact ot.elim
  | va d=>exact ot.elim
  | ow d=>exact ot.elim
  | rd d=>exact ot.elim
  | er d=>exact ot.elim
  | fn d=>exact ot.elim
  | fd d=>exact ot.elim
  | dj d=>exact ot.elim
  | st d=>exact ot.elim
theorem dkeys_of (xc:XC L N sc W X) {i:Nat} {f y:Str} {fp py pos:Pos} (hf:(f==("list" : Str))=true) (hg:glOk sc f=true) (hy:nmOk N sc i y=true) :
  PE X (.Call (.Name f fp) [.Name y py] [] pos) (dV L X.K W (.dkeys i)):=by
 have e:=str_beq hf;subst e;obtain ⟨g1,g2,g3⟩:=gl_of xc hg;obtain ⟨h1,h2,h3,h4⟩:=vis_of xc hy;exact PE.imp (pe_callTy (cr_listK xc.calm) g1 (blt_of xc (by decide +kernel)) (by decide +kernel) (pa_cons (pe_var h1 h2 h3 h4) pa_nil rfl) g3 g2 rfl rfl) fun σ H Q q=>imp_dkeys q
end
end AW
namespace AW
open PySem PySem.Spec PyProof.Rows L2
variable [CdT] [StA]
section
variable {K:PySem.W.Frag} {f:Hp}
theorem jkB_key:∀{d:D},jkB d=true→∃q,jkey d=some q
 | .int i,_=>⟨.inl i,rfl⟩
 | .str x,_=>⟨.inr x,rfl⟩
 | .none,h=>by cases h
 | .bool _,h=>by cases h
 | .list _,h=>by cases h
 | .tuple _,h=>by cases h
 | .dict _,h=>by cases h
theorem jeq_key:∀{a b:D} {p q:Key},jkey a=some p→jkey b=some q→jeq a b=decide (p=q)
 | .int i,.int j,_,_,h,h'=>by
  cases h;cases h'
  show decide (i=j)=_;by_cases e:i=j
  ·subst e;simp
  ·rw [decide_eq_false e,decide_eq_false (fun z=>e (Sum.inl.inj z))]
 | .str i,.str j,_,_,h,h'=>by
  cases h;cases h'
  show decide (i=j)=_;by_cases e:i=j
  ·subst e;simp
  ·rw [decide_eq_false e,decide_eq_false (fun z=>e (Sum.inr.inj z))]
 | .int i,.str j,_,_,h,h'=>by
  cases h;cases h'
  exact (decide_eq_false (fun z=>by cases z)).symm
 | .str i,.int j,_,_,h,h'=>by
  cases h;cases h'
  exact (decide_eq_false (fun z=>by cases z)).symm
 | .none,_,_,_,h,_=>by cases h
 | .bool _,_,_,_,h,_=>by cases h
 | .list _,_,_,_,h,_=>by cases h
 | .tuple _,_,_,_,h,_=>by cases h
 | .dict _,_,_,_,h,_=>by cases h
 | .int _,.none,_,_,_,h=>by cases h
 | .int _,.bool _,_,_,_,h=>by cases h
 | .int _,.list _,_,_,_,h=>by cases h
 | .int _,.tuple _,_,_,_,h=>by cases h
 | .int _,.dict _,_,_,_,h=>by cases h
 | .str _,.none,_,_,_,h=>by cases h
 | .str _,.bool _,_,_,_,h=>by cases h
 | .str _,.list _,_,_,_,h=>by cases h
 | .str _,.tuple _,_,_,_,h=>by cases h
 | .str _,.dict _,_,_,_,h=>by cases h
theorem jkey_kV {H':Hp} {d:D} {q:Key} {v:V} (e:jkey d=some q) (h:Vr K f H' v d):v=kV q:=by
 cases d with
 | int i=>cases e;exact h.int
 | str x=>cases e;exact h.str
 | _=>cases e
theorem DjAll.len:∀{xs:List (Key×V)} {kvs:List (D×D)},DjAll K f xs kvs→xs.length=kvs.length
 | _,_,.nil=>rfl
 | _,_,.cons _ _ t=>congrArg Nat.succ t.len
theorem jlook_at {kd:D} {q:Key} (hq:jkey kd=some q):∀{xs:List (Key×V)} {kvs:List (D×D)},DjAll K f xs kvs →
  (jlook kvs kd=none∧valV xs q=none)∨∃d v,jlook kvs kd=some d∧valV xs q=some v∧Dp K f v d
 | _,_,.nil => .inl ⟨rfl,rfl⟩
 | _,_,.cons (q:=p) (v:=v) (xs:=xs) (k:=k) (d:=d) (kvs:=kvs) hk hd t=>by
  have je:=jeq_key hk hq;by_cases e:p=q
  ·refine .inr ⟨d,v,?_,?_,hd⟩
   ·unfold jlook;rw [List.find?_cons];simp [je,e]
   ·exact valV_pos e
  ·have e1:jlook ((k,d)::kvs) kd=jlook kvs kd:=by
    unfold jlook;rw [List.find?_cons];simp [je,e]
   rw [e1,valV_neg e];exact jlook_at hq t
theorem jmap_at {kd d:D} {q:Key} {v:V} (hq:jkey kd=some q) (hd:Dp K f v d):∀{xs:List (Key×V)} {kvs:List (D×D)},DjAll K f xs kvs →
  DjAll K f (xs.map fun kv=>if kv.1=q then (kv.1,v) else kv) (kvs.map fun x=>if jeq x.1 kd then (x.1,d) else x)
 | _,_,.nil => .nil
 | _,_,.cons (q:=p) (v:=v0) (xs:=xs) (k:=k) (d:=d0) (kvs:=kvs) hk hd0 t=>by
  have je:=jeq_key hk hq;rw [List.map_cons,List.map_cons];by_cases e:p=q
  ·rw [if_pos e,if_pos (by rw [je];exact decide_eq_true e)];exact .cons hk hd (jmap_at hq hd t)
  ·rw [if_neg e,if_neg (by rw [je,decide_eq_false e];decide)];exact .cons hk hd0 (jmap_at hq hd t)
theorem jsnoc_at {kd d:D} {q:Key} {v:V} (hq:jkey kd=some q) (hd:Dp K f v d):∀{xs:List (Key×V)} {kvs:List (D×D)},DjAll K f xs kvs→DjAll K f (xs++[(q,v)]) (kvs++[(kd,d)])
 | _,_,.nil => .cons hq hd .nil
 | _,_,.cons h1 h2 t => .cons h1 h2 (jsnoc_at hq hd t)
theorem jput_at {kd d:D} {q:Key} {v:V} (hq:jkey kd=some q) (hd:Dp K f v d) {xs:List (Key×V)} {kvs:List (D×D)} (h:DjAll K f xs kvs):DjAll K f (putK xs q v) (jput kvs kd d):=by
 unfold putK jput;rw [valV_any];rcases jlook_at hq h with ⟨e1,e2⟩ | ⟨d',v',e1,e2,_⟩
 ·rw [e1,e2,if_neg (by simp),if_neg (by simp)];exact jsnoc_at hq hd h
 ·rw [e1,e2,if_pos (show (some v').isSome=true from rfl),if_pos (show (some d').isSome=true from rfl)];exact jmap_at hq hd h
theorem jints_at:∀{xs:List (Key×V)} {kvs:List (D×D)} {ks:List Int},DjAll K f xs kvs→jints kvs=some ks→xs.map (·.1)=ks.map Sum.inl
 | _,_,_,.nil,e=>by cases e;rfl
 | _,_,_,.cons (q:=q) (k:=k) (kvs:=kvs) hk hd t,e=>by
  cases k with
  | int i =>
   cases hk;have e':(jints kvs).map (i :: ·)=some _:=e;cases e2:jints kvs with
   | none=>rw [e2] at e';cases e'
   | some r =>
    rw [e2] at e';cases e';rw [List.map_cons,List.map_cons,jints_at t e2]
  | _=>cases e
end
section
variable {K:PySem.W.Frag} {f0 H0 f H:Hp} {σ:L2.St} {en:En}
theorem jdict_noex (en:En) (i k:Nat):jdict en i ≠ .ex k:=by
 unfold jdict;split <;> (intro h;cases h)
theorem kdict_noex (en:En) (i k:Nat):kdict en i ≠ .ex k:=by
 unfold kdict;split <;> (intro h;cases h)
theorem owR_noex (en:En) (i k:Nat):owR en i ≠ .ex k:=by
 unfold owR;split <;> (intro h;cases h)
theorem owR_at {i:Nat} {ds:List D} (e:owR en i = .ok ds):en[i]?=some (.ow ds):=by
 unfold owR at e;split at e
 ·rename_i h;cases e;exact h
 ·cases e
theorem Mt.jd {i:Nat} {kvs:List (D×D)} (m:Mt K f0 H0 f H σ en) (e:jdict en i = .ok kvs):∃p xs,σ[i]?=some (some (.ref p))∧H p=some (.dK xs)∧DjAll K f xs kvs:=by
 unfold jdict at e;split at e
 ·rename_i h;cases e;obtain ⟨p,xs,e1,_,_,hH,ha⟩:=m.dj h;exact ⟨p,xs,e1,hH,ha⟩
 ·rename_i h;cases e;obtain ⟨v,e1,hv⟩:=m.va h;cases hv with
  | dcj h a=>exact ⟨_,_,e1,m.po.sub _ _ h,a⟩
 ·cases e
theorem Mt.kd {i:Nat} {kvs:List (D×D)} (m:Mt K f0 H0 f H σ en) (e:kdict en i = .ok kvs):∃p xs ep,σ[i]?=some (some (.ref p))∧(p==sysModules)=false∧H p=some (dicO xs ep p)∧(xs.map (·.1)).Nodup∧xs.length≤sizeLine∧DkAll K f kvs xs:=by
 unfold kdict at e;split at e
 ·rename_i h;cases e;obtain ⟨p,xs,ep,e1,hp,_,_,hH,hn,hl,ha⟩:=m.dk h;exact ⟨p,xs,ep,e1,hp,hH,hn,hl,ha⟩
 ·rename_i h;cases e;obtain ⟨p,xs,ep,e1,hp,hf,hn,hl,ha⟩:=m.fdn h;exact ⟨p,xs,ep,e1,hp,m.po.sub _ _ hf,hn,hl,ha⟩
 ·cases e
end
section
variable {L:Lk} {N:List Str} {sc:Nms} {W:WX} {X:Cx} {K:PySem.W.Frag}
theorem noSl_of {r:Expr} (h:plainE r=true):NoSl r:=by
 intro o i;cases r <;> first
  | rfl
  | cases h
theorem imp_jix {i:Nat} {k:E} {σ H Q} (h:dV L K W (.jix i k) σ H Q):tDGet (tVar i) (dV L K W k) σ H Q:=by
 obtain ⟨f0,H0,f,en,m,ot⟩:=h;have ot':Out L.cls W σ f H ((jdict en i).bind fun kvs=>(L.ev k en).bind fun kd=>if jkB kd.1=true then (match jlook kvs kd.1 with
  | some d=>v1 d
  | none => .no) else .no) (Ac K f H Q):=ot
 obtain ⟨kvs,e,o1⟩:=ot'.bind.okk (jdict_noex en i);obtain ⟨p,xs,e1,hH,ha⟩:=m.jd e;refine ⟨.ref p,e1,f0,H0,f,en,m,o1.bind.imp (Po.refl m.po.sub) fun kd _ h1 v f1 H1 q1 hv=>?_⟩;by_cases ko:jkB kd.1=true
 ·rw [if_pos ko] at h1;obtain ⟨q,hq⟩:=jkB_key ko;have ev:=jkey_kV hq hv.read;rcases jlook_at hq (dj_same q1.sf ha) with ⟨e2,e3⟩ | ⟨d,w,e2,e3,hd⟩
  ·rw [e2] at h1;exact h1.elim
  ·rw [e2] at h1;refine ⟨p,w,rfl,?_,(show Ac K f H Q (d,false) from h1) w f1 H1 q1 hd⟩;rw [ev,←e3];exact DGet.k (q1.sH.k hH)
 ·rw [if_neg ko] at h1;exact h1.elim
theorem jix_of (xc:XC L N sc W X) {i:Nat} {k:E} {y:Str} {a:Expr} {py pos:Pos} (hy:nmOk N sc i y=true) (hp:plainE a=true) (ia:PE X a (dV L X.K W k)) :
  PE X (.Subscript (.Name y py) a pos) (dV L X.K W (.jix i k)):=by
 obtain ⟨h1,h2,h3,h4⟩:=vis_of xc hy;have hu:=xc.units;exact PE.imp (pe_dget (by omega) (pe_var h1 h2 h3 h4) ia (noSl_of hp)) fun σ H Q q=>imp_jix q
def rJin (neg:Bool):R2:=fun y x H Q=>∃a o,x = .ref a∧DGet H a y o∧Q (.bl (o.isSome != neg)) H
theorem op_jin (hu:X.A.units+1<cLine):OpR X (compareOp .In) (rJin false):=by
 intro pins s σ H y x v u Q I ry rx h;obtain ⟨a,o,rfl,g,q⟩:=h;obtain rfl:u=Value.ref a:=rx;exact d_in hu I g ry fun s' I'=>⟨.bl o.isSome,H,I',rfl,by simpa using q⟩
theorem op_jnin (hu:X.A.units+1<cLine):OpR X (compareOp .NotIn) (rJin true):=by
 intro pins s σ H y x v u Q I ry rx h;obtain ⟨a,o,rfl,g,q⟩:=h;obtain rfl:u=Value.ref a:=rx;exact d_notIn hu I g ry fun s' I'=>⟨.bl (!o.isSome),H,I',rfl,by simpa using q⟩
theorem imp_jin {i:Nat} {k:E} {g:Bool} {σ H Q} (h:dV L K W (.jin i k g) σ H Q):tOp (rJin g) (dV L K W k) (tVar i) σ H Q:=by
 obtain ⟨f0,H0,f,en,m,ot⟩:=h;have ot':Out L.cls W σ f H ((jdict en i).bind fun kvs=>(L.ev k en).bind fun kd=>if jkB kd.1=true then v1 (.bool ((jlook kvs kd.1).isSome != g)) else .no) (Ac K f H Q):=ot;obtain ⟨kvs,e,o1⟩:=ot'.bind.okk (jdict_noex en i);obtain ⟨p,xs,e1,hH,ha⟩:=m.jd e;refine ⟨f0,H0,f,en,m,o1.bind.imp (Po.refl m.po.sub) fun kd _ h1 v f1 H1 q1 hv=>⟨.ref p,e1,?_⟩⟩;by_cases ko:jkB kd.1=true
 ·rw [if_pos ko] at h1;obtain ⟨q,hq⟩:=jkB_key ko;have ev:=jkey_kV hq hv.read;refine ⟨p,valV xs q,rfl,?_,?_⟩
  ·rw [ev];exact DGet.k (q1.sH.k hH)
  ·have e4:(jlook kvs kd.1).isSome=(valV xs q).isSome:=by
    rcases jlook_at hq (dj_same q1.sf ha) with ⟨e2,e3⟩ | ⟨d,w,e2,e3,hd⟩
    ·rw [e2,e3];rfl
    ·rw [e2,e3];rfl
   rw [e4] at h1;exact (show Ac K f H Q (.bool ((valV xs q).isSome != g),false) from h1) _ f1 H1 q1 (show Dp K f1 _ _ from .bl _)
 ·rw [if_neg ko] at h1;exact h1.elim
theorem jin_of (xc:XC L N sc W X) {i:Nat} {k:E} {y:Str} {a:Expr} {op:CmpOp} {g:Bool} {py pos:Pos} (hy:nmOk N sc i y=true) (ho:(match op with | .In => !g | .NotIn=>g | _=>false)=true) (ia:PE X a (dV L X.K W k)) :
  PE X (.Compare a [op] [.Name y py] pos) (dV L X.K W (.jin i k g)):=by
 obtain ⟨h1,h2,h3,h4⟩:=vis_of xc hy;have hu:=xc.units;cases op with
 | In =>
  have:g=false:=by simpa using ho
  subst this;exact PE.imp (pe_cmpR (op_jin (by omega)) ia (pe_var h1 h2 h3 h4) (by rfl)) fun σ H Q q=>imp_jin q
 | NotIn =>
  have:g=true:=by simpa using ho
  subst this;exact PE.imp (pe_cmpR (op_jnin (by omega)) ia (pe_var h1 h2 h3 h4) (by rfl)) fun σ H Q q=>imp_jin q
 | _=>cases ho
theorem jinT_of (xc:XC L N sc W X) {i:Nat} {k:E} {y:Str} {a:Expr} {op:CmpOp} {g:Bool} {py pos:Pos} (hy:nmOk N sc i y=true) (ho:(match op with | .In => !g | .NotIn=>g | _=>false)=true) (ia:PE X a (dV L X.K W k)) :
  PT X (.Compare a [op] [.Name y py] pos) (dT L X.K W (.jin i k g)):=by
 obtain ⟨h1,h2,h3,h4⟩:=vis_of xc hy;have hu:=xc.units;have bo:∀en p,L.ev (.jin i k g) en = .ok p→∃b,p=(.bool b,false):=fun en p ep=>by
  have ep':((jdict en i).bind fun kvs=>(L.ev k en).bind fun kd=>if jkB kd.1=true then v1 (.bool ((jlook kvs kd.1).isSome != g)) else .no)=R.ok p:=ep;obtain ⟨kvs,_,e2⟩:=R.of_bind ep';obtain ⟨kd,_,e3⟩:=R.of_bind e2;by_cases ko:jkB kd.1=true
  ·rw [if_pos ko] at e3;cases e3;exact ⟨_,rfl⟩
  ·rw [if_neg ko] at e3;cases e3
 cases op with
 | In =>
  have:g=false:=by simpa using ho
  subst this;exact PT.imp (pt_cmpR (op_jin (by omega)) ia (pe_var h1 h2 h3 h4) (by rfl)) fun σ H Q q=>imp_jin (dT_dV (fun _ z=>by cases z) bo q)
 | NotIn =>
  have:g=true:=by simpa using ho
  subst this;exact PT.imp (pt_cmpR (op_jnin (by omega)) ia (pe_var h1 h2 h3 h4) (by rfl)) fun σ H Q q=>imp_jin (dT_dV (fun _ z=>by cases z) bo q)
 | _=>cases ho
def rJlen:List V→Hp→VK→Prop:=fun vs H Q=>∃(a:Addr) (kvs:List (Key×V)),vs=[.ref a]∧H a=some (.dK kvs)∧Q (.int kvs.length) H
theorem cr_jlen:CallR X (.builtin "len") rJlen:=by
 intro pins s σ H xs us Q I r h;obtain ⟨a,kvs,rfl,hH,q⟩:=h;obtain ⟨u,rfl,rx⟩:=r.one;obtain rfl:u=Value.ref a:=rx;exact d_len I (.inl hH) fun t s' I'=>⟨.int kvs.length,H,I',⟨_,rfl⟩,q⟩
theorem imp_jlen {i:Nat} {σ H Q} (h:dV L K W (.jlen i) σ H Q):tCB rJlen (tCons (tVar i) tNil) σ H Q:=by
 obtain ⟨f0,H0,f,en,m,ot⟩:=h;have ot':Out L.cls W σ f H ((jdict en i).bind fun kvs=>v1 (.int kvs.length)) (Ac K f H Q):=ot;obtain ⟨kvs,e,o1⟩:=ot'.bind.okk (jdict_noex en i);obtain ⟨p,xs,e1,hH,ha⟩:=m.jd e;refine ⟨.ref p,e1,p,xs,rfl,hH,?_⟩;rw [ha.len];exact (show Ac K f H Q (.int kvs.length,false) from o1) _ f H (Po.refl m.po.sub) (show Dp K f _ _ from .int _)
theorem jlen_of (xc:XC L N sc W X) {i:Nat} {f y:Str} {fp py pos:Pos} (hf:(f==("len" : Str))=true) (hg:glOk sc f=true) (hy:nmOk N sc i y=true) :
  PE X (.Call (.Name f fp) [.Name y py] [] pos) (dV L X.K W (.jlen i)):=by
 have e:=str_beq hf;subst e;obtain ⟨g1,g2,g3⟩:=gl_of xc hg;obtain ⟨h1,h2,h3,h4⟩:=vis_of xc hy;exact PE.imp (pe_callB cr_jlen g1 (blt_of xc (by decide +kernel)) (by decide +kernel) (pa_cons (pe_var h1 h2 h3 h4) pa_nil rfl) g3 g2 rfl rfl) fun σ H Q q=>imp_jlen q
def rJsrt:List V→Hp→VK→Prop:=fun xs H Q=>∃(a:Addr) (kvs:List (Key×V)) (ks:List Int),xs=[.ref a]∧H a=some (.dK kvs)∧kvs.map (·.1)=ks.map Sum.inl∧ks.length<64 ∧
  ∀p,H p=none→Q (.ref p) (upd H p (.lst ((ks.mergeSort fun a b=>decide (a≤b)).map V.int)))
theorem sort_eq {ys ks:List Int} (h:ys.Perm ks) (hs:ys.Pairwise (· ≤ ·)):ys=ks.mergeSort fun a b=>decide (a≤b):=by
 have p2:=(List.mergeSort_perm ks fun a b=>decide (a≤b));have s2:=List.pairwise_mergeSort (le:=fun a b:Int=>decide (a≤b)) (fun a b c h1 h2=>by simp at *;omega) (fun a b=>by simp;omega) ks;refine List.Perm.eq_of_pairwise (le:=fun a b:Int=>a≤b) (fun a b _ _ h1 h2=>Int.le_antisymm h1 h2) hs (s2.imp fun z=>by simpa using z) (h.trans p2.symm)
theorem cr_jsrt (hc:X.calm=true):CallR X (.builtin "sorted") rJsrt:=by
 intro pins s σ H xs us Q I r h;obtain ⟨a,kvs,ks,rfl,hH,hk,hl,q⟩:=h;refine call_sortedDI hc pins s σ H _ us Q I r ⟨a,kvs,ks,rfl,.inl hH,hk,hl,fun ys p hp hs hn=>?_⟩;rw [sort_eq hp hs];exact q p hn
theorem imp_jsrt {i:Nat} {σ H Q} (h:dV L K W (.jsrt i) σ H Q):tCB rJsrt (tCons (tVar i) tNil) σ H Q:=by
 obtain ⟨f0,H0,f,en,m,ot⟩:=h;have ot':Out L.cls W σ f H ((jdict en i).bind fun kvs=>(match jints kvs with
  | some ks=>if ks.length<64 then .ok (.list ((ks.mergeSort fun a b=>decide (a≤b)).map .int),true) else .no
  | none => .no)) (Ac K f H Q):=ot
 obtain ⟨kvs,e,o1⟩:=ot'.bind.okk (jdict_noex en i);obtain ⟨p,xs,e1,hH,ha⟩:=m.jd e;cases ek:jints kvs with
 | none=>rw [ek] at o1;exact o1.elim
 | some ks =>
  rw [ek] at o1;have o1:Out L.cls W σ f H (if ks.length<64 then R.ok (PyData.list ((ks.mergeSort fun a b=>decide (a≤b)).map .int),true) else .no) (Ac K f H Q):=o1;by_cases hl:ks.length<64
  ·rw [if_pos hl] at o1;refine ⟨.ref p,e1,p,xs,ks,rfl,hH,jints_at ha ek,hl,fun l hll=>?_⟩;have q2:Po f H f (upd H l (.lst ((ks.mergeSort fun a b=>decide (a≤b)).map V.int))):=(Po.refl m.po.sub).newH hll;exact (show Ac K f H Q (.list ((ks.mergeSort fun a b=>decide (a≤b)).map .int),true) from o1) _ f _ q2 ⟨_,l,_,rfl,rfl,nw hll,same_none m.po.sub hll,upd_same,DpAll.ints _⟩
  ·rw [if_neg hl] at o1;exact o1.elim
theorem jsrt_of (xc:XC L N sc W X) {i:Nat} {f y:Str} {fp py pos:Pos} (hf:(f==("sorted" : Str))=true) (hg:glOk sc f=true) (hy:nmOk N sc i y=true) :
  PE X (.Call (.Name f fp) [.Name y py] [] pos) (dV L X.K W (.jsrt i)):=by
 have e:=str_beq hf;subst e;obtain ⟨g1,g2,g3⟩:=gl_of xc hg;obtain ⟨h1,h2,h3,h4⟩:=vis_of xc hy;exact PE.imp (pe_callB (cr_jsrt xc.calm) g1 (blt_of xc (by decide +kernel)) (by decide +kernel) (pa_cons (pe_var h1 h2 h3 h4) pa_nil rfl) g3 g2 rfl rfl) fun σ H Q q=>imp_jsrt q
def rGetJ:V→List V→Hp→VK→Prop:=fun x vs H Q=>∃(p:Addr) (y z:V) (o:Option V),x = .ref p∧vs=[y,z]∧DGet H p y o∧Q (o.getD z) H
theorem mt_getJ (hu:X.A.units+1<cLine):MtR X "dict.get" rGetJ:=by
 intro pins s σ H x vs v us Q I rx rxs h;obtain ⟨p,y,z,o,rfl,rfl,g,q⟩:=h;obtain rfl:v=Value.ref p:=rx;obtain ⟨u1,u2,rfl,r1,r2⟩:=rxs.two;exact d_get2 hu I g r1 r2 fun w' s' I' rw'=>⟨_,H,I',rw',q⟩
def tBMJ (i:Nat) (r:V→List V→Hp→VK→Prop) (t:TA):TE:=fun σ H Q=>∃p xs,σ[i]?=some (some (.ref p))∧H p=some (.dK xs)∧t σ H fun vs H2=>r (.ref p) vs H2 Q
theorem pe_getJ {y:Str} {py apos cpos:Pos} {e:Expr} {es:List Expr} {i:Nat} {t:TA} (hu:X.A.units+65<cLine) (hN:X.N[i]?=some y) (hv:Vis X.env.scope y) (hdb:(y==("__debug__" : Str))=false) (hcd:(y==("__classdict__" : Str))=false) (ha:PA X (e::es) t)
  (hfew:((backTo cpos (starEach (e::es) X.env)).all (fun x => !x.1)&&(backToKw cpos (keywordEach [] X.env)).all (fun x=>x.1.isSome)
   && decide ((e::es).length+([]:List Keyword).length+(if ([]:List Keyword).isEmpty then 0 else 1)<30))=true)
  (hline:(apos.endLine==cpos.line)=true) (hs:starEach (e::es) X.env=(false,eval e X.env)::starEach es X.env) (hplain:(backTo cpos (starEach es X.env)).any (·.1)=false) :
  PE X (.Call (.Attribute (.Name y py) "get" apos) (e::es) [] cpos) (tBMJ i rGetJ t):=by
 refine ⟨fun pins s σ H Q I h=>?_⟩;obtain ⟨p,xs,hsl,hH,ht⟩:=h;refine wpAny_Call_method_late rfl hfew hline rfl (thn ((pe_var (pos:=py) hN hv hdb hcd).run pins s σ H (fun v H1=>v = .ref p∧H1=H) I ⟨.ref p,hsl,rfl,rfl⟩) fun v s1 ⟨x,H1,I1,r1,q1⟩=>?_);obtain ⟨rfl,rfl⟩:=q1;obtain rfl:v=Value.ref p:=r1;obtain ⟨_,_,vs,_,dd⟩:=dk_of I1.hok hH;have tI:=dd.typeIs;obtain ⟨ob,_,_,h1,h2,_⟩:=dd;refine ⟨"dict", "dict.get", PySem.F.plainAttrs_dict,PySem.F.slot_dict_get,PySem.F.type_dict_get,tI,fun a q=>?_,?_⟩
 ·cases q;exact ⟨ob,h1,h2.2.1⟩
 have hA:=ha.run cpos pins s1 σ H1 _ I1 ht;rw [hs] at hA ⊢;refine Calls.callWith_builtin (by show (false||(backTo cpos (starEach es X.env)).any (·.1))=false;rw [hplain] <;> rfl) (Calls.evalArgs_plain ?_);exact thn hA fun us s2 ⟨vs,H2,I2,r2,q2⟩=>mt_getJ (by omega) pins s2 σ H2 (.ref p) vs (.ref p) us Q I2 rfl r2 q2
theorem imp_jget {i:Nat} {k x:E} {σ H Q} (h:dV L K W (.jget i k x) σ H Q):tBMJ i rGetJ (tCons (dV L K W k) (tCons (dV L K W x) tNil)) σ H Q:=by
 obtain ⟨f0,H0,f,en,m,ot⟩:=h;have ot':Out L.cls W σ f H ((jdict en i).bind fun kvs=>(L.ev k en).bind fun kd=>(L.ev x en).bind fun xd=>if jkB kd.1=true then (match jlook kvs kd.1 with
  | some d=>v1 d
  | none=>v1 xd.1) else .no) (Ac K f H Q):=ot
 obtain ⟨kvs,e,o1⟩:=ot'.bind.okk (jdict_noex en i);obtain ⟨p,xs,e1,hH,ha⟩:=m.jd e;refine ⟨p,xs,e1,hH,f0,H0,f,en,m,o1.bind.imp (Po.refl m.po.sub) fun kd _ h1 v f1 H1 q1 hv=>?_⟩;refine ⟨f0,H0,f1,en,m.mono q1,h1.bind.imp q1 fun xd _ h3 w f3 H3 q3 hw=>?_⟩;obtain ⟨f4,q4,hw2⟩:=hw.settle q3;by_cases ko:jkB kd.1=true
 ·rw [if_pos ko] at h3;obtain ⟨q,hq⟩:=jkB_key ko;have ev:=jkey_kV hq hv.read;refine ⟨p,v,w,valV xs q,rfl,rfl,?_,?_⟩
  ·rw [ev];exact DGet.k (q4.sH.k (q1.sH.k hH))
  rcases jlook_at hq (dj_same (q1.trans q4).sf ha) with ⟨e2,e3⟩ | ⟨d,u,e2,e3,hd⟩
  ·rw [e2] at h3;rw [e3];exact (show Ac K f H Q (xd.1,false) from h3) w f4 H3 (q1.trans q4) hw2
  ·rw [e2] at h3;rw [e3];exact (show Ac K f H Q (d,false) from h3) u f4 H3 (q1.trans q4) hd
 ·rw [if_neg ko] at h3;exact h3.elim
theorem jget_of (xc:XC L N sc W X) {i:Nat} {k x:E} {y m:Str} {a b:Expr} {py ap cp:Pos} (hy:nmOk N sc i y=true) (hm:(m==("get" : Str))=true) (ha:ckE L.T L.cons L.clsN N sc k a=true) (hb:ckE L.T L.cons L.clsN N sc x b=true) (hl:(ap.endLine==cp.line)=true) (ia:PE X a (dV L X.K W k)) (ib:PE X b (dV L X.K W x)) :
  PE X (.Call (.Attribute (.Name y py) m ap) [a,b] [] cp) (dV L X.K W (.jget i k x)):=by
 have e:=str_beq hm;subst e;obtain ⟨h1,h2,h3,h4⟩:=vis_of xc hy;refine PE.imp (pe_getJ xc.units h1 h2 h3 h4 (pa_cons ia (pa_cons ib pa_nil (star_of hb [])) (star_of ha [b])) ?_ hl (star_of ha [b]) ?_) fun σ H Q q=>imp_jget q
 ·rw [star_of ha [b],star_of hb []];rfl
 ·rw [star_of hb []];rfl
def rDix (K:PySem.W.Frag):R2:=fun x y H Q=>∃(p b:Addr) (xs:List (NestedKey×Addr×Value)) (kvs:List (D×D)) (kd:D) (f:Hp) (ep:Nat),x = .ref p∧y = .ref b∧H p=some (dicO xs ep p)∧(xs.map (·.1)).Nodup ∧
 DkAll K f kvs xs∧Same f H∧keyOk kd=true∧Dp K f (.ref b) kd∧∃d,dlook kvs kd=some d∧∀v,Dp K f v d→Q v H
theorem pe_dix {a:Expr} {o:Expr} {td ty:TE} {pos:Pos} (hu:X.A.units+65<cLine) (ho:PE X o td) (hi:PE X a ty) (hs:NoSl a):PE X (.Subscript o a pos) (tOp (rDix X.K) td ty):=by
 refine ⟨fun pins s σ H Q I h=>?_⟩;refine subD_of PySem.F.slot_dict_getitem.lookup hs (thn (ho.run pins s σ H _ I h) fun u s1 ⟨x,H1,I1,rx,q1⟩=>thn (hi.run pins s1 σ H1 _ I1 q1) fun iv s2 ⟨y,H2,I2,ry,q2⟩=>?_);obtain ⟨p,b,xs,kvs,kd,f,ep,rfl,rfl,hH,hn,hk,sm,ko,hb,d,ed,q⟩:=q2;obtain rfl:u=Value.ref p:=rx;obtain rfl:iv=Value.ref b:=ry;have dd:=dicO_at I2 hH hn (hk.same sm);refine ⟨dd.typeIs,?_⟩;rcases dkLook_at (kd:=kd) hk with ⟨e1,e2⟩ | ⟨d',a,v',u',e1,e2,r',d''⟩
 ·rw [e1] at ed;cases ed
 ·rw [e1] at ed;cases ed;exact wpAny_getItem_heap (room_n (X:=X) hu) (key_at I2 ko (dp_same sm hb)) dd e2 ⟨v',H2,I2.tok _,r',q v' d''⟩
theorem imp_dix {i:Nat} {k:E} {σ H Q} (h:dV L K W (.dix i k) σ H Q):tOp (rDix K) (tVar i) (dV L K W k) σ H Q:=by
 obtain ⟨f0,H0,f,en,m,ot⟩:=h;have ot':Out L.cls W σ f H ((kdict en i).bind fun kvs=>(L.ev k en).bind fun kd=>if keyOk kd.1=true then (match dlook kvs kd.1 with
  | some d=>v1 d
  | none => .no) else .no) (Ac K f H Q):=ot
 obtain ⟨kvs,e,o1⟩:=ot'.bind.okk (kdict_noex en i);obtain ⟨p,xs,ep,e1,hp,hH,hn,hl,ha⟩:=m.kd e;refine ⟨.ref p,e1,f0,H0,f,en,m,o1.bind.imp (Po.refl m.po.sub) fun kd _ h1 v f1 H1 q1 hv=>?_⟩;obtain ⟨f2,q2,hv2⟩:=hv.settle q1;by_cases ko:keyOk kd.1=true
 ·rw [if_pos ko] at h1;obtain ⟨b,rfl⟩:=key_ref ko hv2;cases ed:dlook kvs kd.1 with
  | none=>rw [ed] at h1;exact h1.elim
  | some d =>
   rw [ed] at h1;exact ⟨p,b,xs,kvs,kd.1,f2,ep,rfl,rfl,q2.sH.k hH,hn,ha.same q2.sf,q2.sub,ko,hv2,d,ed,fun w hw=>(show Ac K f H Q (d,false) from h1) w f2 H1 q2 hw⟩
 ·rw [if_neg ko] at h1;exact h1.elim
theorem dix_of (xc:XC L N sc W X) {i:Nat} {k:E} {y:Str} {a:Expr} {py pos:Pos} (hy:nmOk N sc i y=true) (hp:plainE a=true) (ia:PE X a (dV L X.K W k)) :
  PE X (.Subscript (.Name y py) a pos) (dV L X.K W (.dix i k)):=by
 obtain ⟨h1,h2,h3,h4⟩:=vis_of xc hy;exact PE.imp (pe_dix xc.units (pe_var h1 h2 h3 h4) ia (noSl_of hp)) fun σ H Q q=>imp_dix q
theorem srtOk_of {ds:List D} (h:srtOk ds=true):(∀d∈ds,keyB d=true∧d.depth≤8)∧((∀d∈ds,∃xs,d = .tuple xs)∨∀d∈ds,∃i,d = .int i)∧PySem.W.AllAlike ds∧ds.length≤line:=by
 unfold srtOk at h;simp only [Bool.and_eq_true,List.all_eq_true,decide_eq_true_eq,Bool.or_eq_true] at h;obtain ⟨⟨⟨h1,h2⟩,h3⟩,h4⟩:=h;refine ⟨h1,?_,h3,h4⟩;rcases h2 with h2 | h2
 ·refine .inl fun d hd=>?_;have:=h2 d hd;cases d with
  | tuple xs=>exact ⟨xs,rfl⟩
  | _=>cases this
 ·refine .inr fun d hd=>?_;have:=h2 d hd;cases d with
  | int i=>exact ⟨i,rfl⟩
  | _=>cases this
theorem sortsAt_srt {prog:Program} {w:World} {A:Around} {s:Shared} {vs:List Value} {ds:List D} (e:PySem.W.EachIs (fun v d=>∃as,Reads s.heap v d as) vs ds) (h:srtOk ds=true) (hu:A.units+8<cLine):PySem.W.SortsAt prog w A s (PySem.W.dataKind s.heap ds) vs:=by
 obtain ⟨h1,h2,h3,h4⟩:=srtOk_of h;have hr:∀d,d∈ds→A.units+d.depth<cLine:=fun d hd=>by have:=(h1 d hd).2;omega
 rcases h2 with h2 | h2
 ·exact sortsAt_tups e h3 h2 hr
 ·refine PySem.W.SortsAt.data e h3 (.inr fun d hd=>?_) hr;obtain ⟨i,rfl⟩:=h2 d hd;exact ⟨fun z=>by (cases z),fun xs z=>by (cases z)⟩
theorem each_dp {f:Hp} {vs:List V} {us:List Value} {ds:List D} (r:Vals vs us) (h:DpAll K f vs ds):PySem.W.EachIs (fun u d=>∃v,RelV v u∧Dp K f v d) us ds:=by
 induction r generalizing ds with
 | nil=>cases h;exact .nil
 | cons r1 r2 ih =>
  cases h with
  | cons h1 h2=>exact .cons ⟨_,r1,h1⟩ (ih h2)
theorem dp_each {f:Hp} {us:List Value} {ds:List D} (h:PySem.W.EachIs (fun u d=>∃v,RelV v u∧Dp K f v d) us ds):∃vs,Vals vs us∧DpAll K f vs ds:=by
 induction h with
 | nil=>exact ⟨[],.nil,.nil⟩
 | cons h t ih =>
  obtain ⟨v,r,hd⟩:=h;obtain ⟨vs,rs,hds⟩:=ih;exact ⟨v::vs,.cons r rs,.cons hd hds⟩
def rSrt (K:PySem.W.Frag):List V→Hp→VK→Prop:=fun xs H Q=>∃(a:Addr) (vs:List V) (f:Hp) (ds:List D),xs=[.ref a]∧SqL K H a vs∧Same f H∧DpAll K f vs ds∧srtOk ds=true ∧
 ∀l ws,H l=none→DpAll K f ws (srtD ds)→Q (.ref l) (upd H l (.lst ws))
theorem each_reads {pins:List (Addr×Obj)} {σ:L2.St} {H f:Hp} {s:Shared} (I:Inv X pins σ H s) (sm:Same f H) {us:List Value} {ds:List D} (hk:∀d∈ds,keyB d=true) (h:PySem.W.EachIs (fun u d=>∃v,RelV v u∧Dp X.K f v d) us ds) :
  PySem.W.EachIs (fun u d=>∃as,Reads s.heap u d as) us ds:=by
 induction h with
 | nil=>exact .nil
 | cons h t ih =>
  rename_i u d us ds;obtain ⟨v,r,hd⟩:=h;exact .cons (L2.Dp.reads I d v u ((dp_same sm hd).old (keyB_canLay d (hk d List.mem_cons_self))) r) (ih fun d' hd'=>hk d' (List.mem_cons_of_mem _ hd'))
theorem srtD_len (ds:List D):(srtD ds).length=ds.length:=List.length_mergeSort ..
theorem cr_srt (hu:X.A.units+65<cLine):CallR X (.builtin "sorted") (rSrt X.K):=by
 intro pins s σ H xs us Q I r h;obtain ⟨a,vs,f,ds,rfl,hs,sm,ha,ok,q⟩:=h;obtain ⟨u,rfl,rx⟩:=r.one;obtain rfl:u=Value.ref a:=rx;obtain ⟨its,rv,hl,hz⟩:=I.list hs;have e:=each_dp rv ha;have er:=each_reads I sm (fun d hd=>((srtOk_of ok).1 d hd).1) e;have S:=sortsAt_srt (prog:=X.prog) (w:=X.w) (A:=X.A.in1.in1) (s:={ s with heap:=PySem.W.sortingHeap (PySem.W.copyHeap s.heap its) (s.heap.objs.size+1) its }) (vs:=its) (ds:=ds)
  (er.mono fun _ _ ⟨as,r⟩=>⟨as,PyProof.Rows.Reads.keeps (fun _ _=>PySem.W.sorting_copy_old) r⟩) ok (by rw [Around.in1_units,Around.in1_units];omega)
 have il:its.length≤sizeLine:=by rw [←rv.length];exact hz
 have hid:(ds.map id)=ds:=List.map_id ds;have eo:PySem.W.EachIs (fun u d=>∃v,RelV v u∧Dp X.K f v d) (PySem.W.sortVals (PySem.W.dataKind (PySem.W.sortingHeap (PySem.W.copyHeap s.heap its) (s.heap.objs.size+1) its) ds) false its its) (srtD ds):=by
  have:=PySem.W.sortVals_data (enc:=(id:D→D)) (h':=PySem.W.sortingHeap (PySem.W.copyHeap s.heap its) (s.heap.objs.size+1) its) false e (er.mono fun _ _ ⟨as,r⟩=>⟨as,PyProof.Rows.Reads.keeps (fun _ _=>PySem.W.sorting_copy_old) r⟩) (by rw [hid];exact (srtOk_of ok).2.2.1);rw [hid] at this;exact this
 obtain ⟨ws,rw',hws⟩:=dp_each eo;refine PySem.W.sorted_vals hl.isList S il ?_;obtain ⟨ep,he'⟩:=PyProof.Rows.sortedAll_at s.heap its (PySem.W.sortVals (PySem.W.dataKind (PySem.W.sortingHeap (PySem.W.copyHeap s.heap its) (s.heap.objs.size+1) its) ds) false its its).toArray;have hlen:ws.length≤sizeLine:=by
  rw [hws.length,srtD_len,←ha.length];exact hz
 exact ⟨.ref _,upd H (s.heap.objs.size+1) (.lst ws),I.laid (t':=s.toks) (fun _ _=>PyProof.Rows.sortedAll_old) (Nat.le_succ _) ⟨hlen,_,ep,rw',he'⟩,rfl,q _ ws (I.hok.fresh (Nat.le_succ _)) hws⟩
theorem imp_srt {a:E} {σ H Q} (h:dV L K W (.srt a) σ H Q):tCB (rSrt K) (tCons (dR L K W a) tNil) σ H Q:=by
 obtain ⟨f0,H0,f,en,m,ot⟩:=h;have o1:=Out.bind (show Out L.cls W σ f H ((rd1 a en (L.ev a en)).bind semSrt) (Ac K f H Q) from ot);refine ⟨f0,H0,f,en,m,o1.imp (Po.refl m.po.sub) fun d _ h1 v f1 H1 q1 hv=>?_⟩;cases d with
 | list xs =>
  have h1:Out L.cls W σ f H (if srtOk xs=true then R.ok (PyData.list (srtD xs),true) else .no) (Ac K f H Q):=h1;by_cases ok:srtOk xs=true
  ·rw [if_pos ok] at h1;obtain ⟨p,vs,rfl,hs,ha⟩:=hv.list q1.sub;refine ⟨p,vs,f1,xs,rfl,hs,q1.sub,ha,ok,fun l ws hll hws=>?_⟩;have q2:Po f H f1 (upd H1 l (.lst ws)):=q1.newH hll;exact (show Ac K f H Q (.list (srtD xs),true) from h1) _ f1 _ q2 ⟨_,l,ws,rfl,rfl,q1.sH.free hll,same_none q1.sub hll,upd_same,hws⟩
  ·rw [if_neg ok] at h1;exact h1.elim
 | _=>exact h1.elim
theorem srt_of (xc:XC L N sc W X) {a:E} {f:Str} {b:Expr} {fp pos:Pos} (hf:(f==("sorted" : Str))=true) (hg:glOk sc f=true) (hb:ckE L.T L.cons L.clsN N sc a b=true) (ib:PE X b (dV L X.K W a)) :
  PE X (.Call (.Name f fp) [b] [] pos) (dV L X.K W (.srt a)):=by
 have e:=str_beq hf;subst e;obtain ⟨g1,g2,g3⟩:=gl_of xc hg;have pl:(backTo pos (starEach ([]:List Expr) X.env)).any (·.1)=false:=rfl;exact PE.imp (pe_callB (cr_srt xc.units) g1 (blt_of xc (by decide +kernel)) (by decide +kernel) (pa_cons (sR_of xc hb ib) pa_nil (star_of hb [])) g3 g2 (star_of hb []) pl) fun σ H Q q=>imp_srt q
end
end AW
namespace AW
open PySem PySem.Spec PyProof.Rows L2
variable [CdT] [StA]
section
variable {X:Cx} {K:PySem.W.Frag}
def rDsrt (K:PySem.W.Frag):List V→Hp→VK→Prop:=fun xs H Q=>∃(p:Addr) (es:List (NestedKey×Addr×Value)) (kvs:List (D×D)) (f:Hp) (ep:Nat),xs=[.ref p]∧(p==sysModules)=false∧H p=some (dicO es ep p)∧es.length≤sizeLine∧Same f H∧DkAll K f kvs es∧srtOk (kvs.map (·.1))=true ∧
 ∀l ws,H l=none→DpAll K f ws (srtD (kvs.map (·.1)))→Q (.ref l) (upd H l (.lst ws))
theorem cr_dsrt (hc:X.calm=true) (hu:X.A.units+65<cLine):CallR X (.builtin "sorted") (rDsrt X.K):=by
 intro pins s σ H xs us Q I r h;obtain ⟨p,ks,kvs,f,ep,rfl,hp,hH,hl,sm,hk,ok,q⟩:=h;obtain ⟨u,rfl,rx⟩:=r.one;obtain rfl:u=Value.ref p:=rx;obtain ⟨es,raw,he⟩:=raw_at I.hok hH;have l1:es.size=ks.length:=by rw [←Array.length_toList,he,List.length_map]
 refine Calls.call_function_entry PyProof.Rows.kind_sorted PyProof.Rows.plain_sorted PyProof.Rows.entry_sorted (PyProof.Rows.args_sorted1 _) ?_;unfold Builtin.«sorted»;refine wpAny_bind (m:=checkCount "sorted" 1 1 _) (wpAny_pure ?_);refine wpAny_bind (PySem.W.kdu_collect (A:=X.A.in1) (KdlSrc.rawDict (d:=p) (es:=es) (ep:=ep) hp) (I.ok.hd hc) raw (by rw [l1];exact hl) fun h' tk acc hkp hacc=>?_);have ea:acc.toList=ks.map fun x=>Value.ref x.2.1:=by
  have hla:acc.toList.length=ks.length:=by rw [Array.length_toList,hacc.1];exact l1
  apply List.ext_getElem?;intro j;rw [List.getElem?_map];cases hj:acc.toList[j]? with
  | none =>
   have h1:=List.getElem?_eq_none_iff.mp hj;rw [List.getElem?_eq_none (by omega)];rfl
  | some z =>
   obtain ⟨hi,hz⟩:=hacc.2 j z (by rw [←Array.getElem?_toList];exact hj);have h2:es[j]?=some es[j]:=Array.getElem?_eq_getElem hi;have h3:es.toList[j]?=some es[j]:=by rw [Array.getElem?_toList];exact h2
   rw [he,List.getElem?_map] at h3;cases hb:ks[j]? with
   | none=>rw [hb] at h3;cases h3
   | some b =>
    rw [hb] at h3;have h4:=Option.some.inj h3;rw [hz,←h4];rfl
 have rv:=vals_refs ks;rw [←ea] at rv;have hal:acc.toList.length=ks.length:=by rw [ea,List.length_map]
 have ha:DpAll X.K f (ks.map fun x=>V.ref x.2.1) (kvs.map (·.1)):=keys_vs hk;have I1:Inv X pins σ H { s with heap:=h',toks:=tk }:=I.kept hkp;have e:=each_dp rv ha;have er:=each_reads I1 sm (fun d hd=>((srtOk_of ok).1 d hd).1) e;generalize acc.toList=its at rv hal e er;generalize hds:kvs.map (·.1)=ds at *
 refine wpAny_bind (wpAny_newList ?_ (by rw [hal];exact hl));have hoL:(h'.push (seqObj "list" its.toArray 0)).get? h'.objs.size=some (seqObj "list" its.toArray 0):=Heap.get?_push_size _ rfl;show wpAny _ _ _ _ _ { s with heap:=h'.push (seqObj "list" its.toArray 0),toks:=tk };have old:∀{b:Addr} {o:Obj},h'.get? b=some o→(PySem.W.sortingHeap (h'.push (seqObj "list" its.toArray 0)) h'.objs.size its).get? b=some o:=fun {b o} e =>
  PySem.W.sortingHeap_old (Nat.ne_of_lt (Heap.lt_size e)) (Heap.get?_push_of_some _ e)
 have er':PySem.W.EachIs (fun u d=>∃as,Reads (PySem.W.sortingHeap (h'.push (seqObj "list" its.toArray 0)) h'.objs.size its) u d as) its ds:=er.mono fun _ _ ⟨as,r⟩=>⟨as,PyProof.Rows.Reads.keeps (fun _ _=>old) r⟩;have S:=sortsAt_srt (prog:=X.prog) (w:=X.w) (A:=X.A.in1.in1) (s:={ s with heap:=PySem.W.sortingHeap (h'.push (seqObj "list" its.toArray 0)) h'.objs.size its,toks:=tk }) (vs:=its) (ds:=ds) er' ok (by rw [Around.in1_units,Around.in1_units];omega);have il:its.length≤sizeLine:=by rw [hal];exact hl
 have hid:(ds.map id)=ds:=List.map_id ds;have eo:PySem.W.EachIs (fun u d=>∃v,RelV v u∧Dp X.K f v d) (PySem.W.sortVals (PySem.W.dataKind (PySem.W.sortingHeap (h'.push (seqObj "list" its.toArray 0)) h'.objs.size its) ds) false its its) (srtD ds):=by
  have:=PySem.W.sortVals_data (enc:=(id:D→D)) (h':=PySem.W.sortingHeap (h'.push (seqObj "list" its.toArray 0)) h'.objs.size its) false e er' (by rw [hid];exact (srtOk_of ok).2.2.1);rw [hid] at this;exact this
 obtain ⟨ws,rw',hws⟩:=dp_each eo;refine wpAny_bind (wpAny_holding (wpAny_call_entry PyProof.Rows.slot_list_sort ⟨_,hoL,rfl⟩ PyProof.Rows.entry_list_sort
  (PySem.W.list_sort_vals (s:={ s with heap:=h'.push (seqObj "list" its.toArray 0),toks:=tk }) hoL S il ⟨_,rfl,?_⟩) (PyProof.Rows.args_list_sort _)))
 obtain ⟨e',he'⟩:=PyProof.Rows.sortedHeap_at (vs:=its) (out:=(PySem.W.sortVals (PySem.W.dataKind (PySem.W.sortingHeap (h'.push (seqObj "list" its.toArray 0)) h'.objs.size its) ds) false its its).toArray) hoL;have hlen:ws.length≤sizeLine:=by
  rw [hws.length,srtD_len,←hds,List.length_map,←hk.len];exact hl
 refine wpAny_pure ⟨_,rfl,.ref h'.objs.size,upd H h'.objs.size (.lst ws),I1.laid (t':=tk) (fun b u e=>?_) (Nat.le_refl _) ⟨hlen,_,e',rw',he'⟩,rfl,q _ ws (I1.hok.fresh (Nat.le_refl _)) hws⟩;have hb:b<h'.objs.size:=Heap.lt_size e;rw [PyProof.Rows.sortedHeap_old (Nat.ne_of_lt hb) (by rw [size_push'];exact Nat.lt_succ_of_lt hb)];exact Heap.get?_push_of_some _ e
end
section
variable {L:Lk} {N:List Str} {sc:Nms} {W:WX} {X:Cx} {K:PySem.W.Frag}
theorem imp_dsrt {i:Nat} {σ H Q} (h:dV L K W (.dsrt i) σ H Q):tCB (rDsrt K) (tCons (tVar i) tNil) σ H Q:=by
 obtain ⟨f0,H0,f,en,m,ot⟩:=h;have ot':Out L.cls W σ f H ((kdict en i).bind fun kvs=>if srtOk (kvs.map (·.1))=true then R.ok (PyData.list (srtD (kvs.map (·.1))),true) else .no) (Ac K f H Q):=ot;obtain ⟨kvs,e,o1⟩:=ot'.bind.okk (kdict_noex en i);obtain ⟨p,xs,ep,e1,hp,hH,hn,hl,ha⟩:=m.kd e;by_cases ok:srtOk (kvs.map (·.1))=true
 ·rw [if_pos ok] at o1;refine ⟨.ref p,e1,p,xs,kvs,f,ep,rfl,hp,hH,hl,m.po.sub,ha,ok,fun l ws hll hws=>?_⟩;have q2:Po f H f (upd H l (.lst ws)):=(Po.refl m.po.sub).newH hll;exact (show Ac K f H Q (.list (srtD (kvs.map (·.1))),true) from o1) _ f _ q2 ⟨_,l,ws,rfl,rfl,nw hll,same_none m.po.sub hll,upd_same,hws⟩
 ·rw [if_neg ok] at o1;exact o1.elim
theorem dsrt_of (xc:XC L N sc W X) {i:Nat} {f y:Str} {fp py pos:Pos} (hf:(f==("sorted" : Str))=true) (hg:glOk sc f=true) (hy:nmOk N sc i y=true) :
  PE X (.Call (.Name f fp) [.Name y py] [] pos) (dV L X.K W (.dsrt i)):=by
 have e:=str_beq hf;subst e;obtain ⟨g1,g2,g3⟩:=gl_of xc hg;obtain ⟨h1,h2,h3,h4⟩:=vis_of xc hy;exact PE.imp (pe_callB (cr_dsrt xc.calm xc.units) g1 (blt_of xc (by decide +kernel)) (by decide +kernel) (pa_cons (pe_var h1 h2 h3 h4) pa_nil rfl) g3 g2 rfl rfl) fun σ H Q q=>imp_dsrt q
end
theorem args_max4 (a b c d:Value):argsOk "max" ⟨[a,b,c,d],[]⟩:=by unfold argsOk;kernel_rfl
section
variable {prog:Program} {w:World} {A:Around} {E:Value→Shared→Prop} {s:Shared}
theorem call_max_four {a b c d:Value} {Q:Value→Shared→Prop}
  (h:wpAny (model prog w) A.in1 (pyIter (.ref s.heap.objs.size)) (fun it s₂=>∃I fp wr n P St bt,it = .ref I∧Walks prog w A.in1 I fp wr n P St∧St 0 s₂.heap∧(∀b∈fp,b<s₂.heap.objs.size)∧0<n∧CmpOf prog w A.in1 .Gt P bt ∧
   ∀v h' tk,P (argBest bt (n-1)) v→(∀b o,b ∉ wr→s₂.heap.get? b=some o→h'.get? b=some o)→Q v { s₂ with heap:=h',toks:=tk }) E
   { s with heap:=s.heap.push { cls := .type "tuple", data := .seq #[a,b,c,d] } }) :
  wpAny (model prog w) A (call (.builtin "max") [a,b,c,d]) Q E s:=by
 have hname:(toString "max" ++ toString ".loop" : String) = "max.loop" := by decide
 refine call_function_tree F.kind_max F.plain_max F.entry_max (args_max4 _ _ _ _) ?_;show wpAny _ A.in1 (Builtin.Builtins.bindParams "max" ["key", "default"] 0 ⟨[],[]⟩ >>= _) _ _ s;refine wpAny_bind (wpAny_of_eq (show Builtin.Builtins.bindParams "max" ["key", "default"] 0 ⟨[],[]⟩=pure [none,none] from rfl) ?_);show wpAny _ A.in1 (newTuple [a,b,c,d] >>= _) _ _ s;refine wpAny_bind (wpAny_newObj_type ?_);refine wpAny_bind (wpAny_mono h (fun it s₂ h₂=>?_) fun _ _ e=>e);obtain ⟨I,fp,wr,n,P,St,bt,rfl,W,hst,hfp,hn,hcmp,hQ⟩:=h₂;refine wpAny_bind (wpAny_newObj_type ?_);have hSf:s₂.heap.objs.size ∉ fp:=fun hm=>Nat.lt_irrefl _ (hfp _ hm);rw [hname];refine wpAny_pure ⟨plainId_quiet F.plain_max_loop _,codeAny_max_loop_first W bt hcmp s₂.heap.objs.size hSf hn (W.frame _ _ _ hst fun b _ o e=>Heap.get?_push_of_some _ e) (Heap.get?_push_size _ rfl) fun v h' tk hP hk=>?_⟩;exact hQ v h' tk hP fun b o hbw e=>hk b o hbw (Nat.ne_of_lt (Heap.lt_size e)) (Heap.get?_push_of_some _ e)
theorem max_four_ints {a b c d:Int} {t u x y:Tok} {Q:Value→Shared→Prop} (hh:A.handled=none)
  (h:∀h' tk z,(∀d o,s.heap.get? d=some o→h'.get? d=some o)→Q (.int (maxI (maxI (maxI a b) c) d) z) { s with heap:=h',toks:=tk }) :
  wpAny (model prog w) A (call (.builtin "max") [.int a t,.int b u,.int c x,.int d y]) Q E s:=by
 have hT:(s.heap.push { cls := .type "tuple", data := .seq #[.int a t,.int b u,.int c x,.int d y] }).IsTuple s.heap.objs.size (intItems #[(a,t),(b,u),(c,x),(d,y)]):=⟨_,Heap.get?_push_size _ rfl,rfl,0,by simp [intItems]⟩;refine call_max_four (wpAny_pyIter_tuple hT ?_);have hsz:(s.heap.push { cls := .type "tuple", data := .seq #[.int a t,.int b u,.int c x,.int d y] }).objs.size=s.heap.objs.size+1:=Heap.size_push ..;refine ⟨_,[_,s.heap.objs.size],[_],_,_,_,_,rfl,Walks.tuple (A:=A.in1) hh _ s.heap.objs.size (by rw [hsz];exact Nat.ne_of_lt (Nat.lt_succ_self _)) (intItems #[(a,t),(b,u),(c,x),(d,y)]),
  ⟨⟨_,Heap.get?_push_size _ rfl,rfl,rfl⟩,hT.push _⟩,fun d hd=>?_,by simp [intItems],CmpOf.ints_gt (numAt #[(a,t),(b,u),(c,x),(d,y)]) (fun _ _=>intItems_at),fun v h' tk hP hk=>?_⟩
 ·show d<((s.heap.push _).push _).objs.size;rw [Heap.size_push,hsz];rcases List.mem_cons.mp hd with rfl | hd
  ·rw [hsz];exact Nat.lt_succ_self _
  ·rcases List.mem_cons.mp hd with rfl | hd
   ·exact Nat.lt_succ_of_lt (Nat.lt_succ_self _)
   ·cases hd
 ·have hold:∀d o,s.heap.get? d=some o→h'.get? d=some o:=fun d o e=>by
   refine hk d o (fun hm=>?_) (Heap.get?_push_of_some _ (Heap.get?_push_of_some _ e));rcases List.mem_cons.mp hm with e1 | hm
   ·have:=Heap.lt_size e;rw [e1,hsz] at this;exact Nat.lt_irrefl _ (Nat.lt_of_succ_lt this)
   ·cases hm
  have hv:∃z,v = .int (maxI (maxI (maxI a b) c) d) z:=by
   have hP':(intItems #[(a,t),(b,u),(c,x),(d,y)])[argBest (fun i j=>decide (numAt #[(a,t),(b,u),(c,x),(d,y)] i>numAt #[(a,t),(b,u),(c,x),(d,y)] j)) 3]?=some v:=by
    have hsz2:(intItems #[(a,t),(b,u),(c,x),(d,y)]).size-1=3:=by simp [intItems]
    rw [←hsz2];exact hP
   unfold maxI;by_cases hba:b>a
   ·by_cases hc:c>b
    ·by_cases hd:d>c
     ·have e:argBest (fun i j=>decide (numAt #[(a,t),(b,u),(c,x),(d,y)] i>numAt #[(a,t),(b,u),(c,x),(d,y)] j)) 3=3:=by simp [argBest,numAt,hba,hc,hd]
      rw [e] at hP';exact ⟨y,by simpa [intItems,hba,hc,hd] using hP'.symm⟩
     ·have e:argBest (fun i j=>decide (numAt #[(a,t),(b,u),(c,x),(d,y)] i>numAt #[(a,t),(b,u),(c,x),(d,y)] j)) 3=2:=by simp [argBest,numAt,hba,hc,hd]
      rw [e] at hP';exact ⟨x,by simpa [intItems,hba,hc,hd] using hP'.symm⟩
    ·by_cases hd:d>b
     ·have e:argBest (fun i j=>decide (numAt #[(a,t),(b,u),(c,x),(d,y)] i>numAt #[(a,t),(b,u),(c,x),(d,y)] j)) 3=3:=by simp [argBest,numAt,hba,hc,hd]
      rw [e] at hP';exact ⟨y,by simpa [intItems,hba,hc,hd] using hP'.symm⟩
     ·have e:argBest (fun i j=>decide (numAt #[(a,t),(b,u),(c,x),(d,y)] i>numAt #[(a,t),(b,u),(c,x),(d,y)] j)) 3=1:=by simp [argBest,numAt,hba,hc,hd]
      rw [e] at hP';exact ⟨u,by simpa [intItems,hba,hc,hd] using hP'.symm⟩
   ·by_cases hc:c>a
    ·by_cases hd:d>c
     ·have e:argBest (fun i j=>decide (numAt #[(a,t),(b,u),(c,x),(d,y)] i>numAt #[(a,t),(b,u),(c,x),(d,y)] j)) 3=3:=by simp [argBest,numAt,hba,hc,hd]
      rw [e] at hP';exact ⟨y,by simpa [intItems,hba,hc,hd] using hP'.symm⟩
     ·have e:argBest (fun i j=>decide (numAt #[(a,t),(b,u),(c,x),(d,y)] i>numAt #[(a,t),(b,u),(c,x),(d,y)] j)) 3=2:=by simp [argBest,numAt,hba,hc,hd]
      rw [e] at hP';exact ⟨x,by simpa [intItems,hba,hc,hd] using hP'.symm⟩
    ·by_cases hd:d>a
     ·have e:argBest (fun i j=>decide (numAt #[(a,t),(b,u),(c,x),(d,y)] i>numAt #[(a,t),(b,u),(c,x),(d,y)] j)) 3=3:=by simp [argBest,numAt,hba,hc,hd]
      rw [e] at hP';exact ⟨y,by simpa [intItems,hba,hc,hd] using hP'.symm⟩
     ·have e:argBest (fun i j=>decide (numAt #[(a,t),(b,u),(c,x),(d,y)] i>numAt #[(a,t),(b,u),(c,x),(d,y)] j)) 3=0:=by simp [argBest,numAt,hba,hc,hd]
      rw [e] at hP';exact ⟨t,by simpa [intItems,hba,hc,hd] using hP'.symm⟩
  obtain ⟨z,hz⟩:=hv;rw [hz];exact h h' tk z hold
end
section
variable {L:Lk} {N:List Str} {sc:Nms} {W:WX} {X:Cx} {K:PySem.W.Frag}
def rMax4:List V→Hp→VK→Prop:=fun xs H Q=>∃i j k l:Int,xs=[.int i,.int j,.int k,.int l]∧Q (.int (maxI (maxI (maxI i j) k) l)) H
theorem cr_max4 (hc:X.calm=true):CallR X (.builtin "max") rMax4:=by
 intro pins s σ H xs us Q I r h;obtain ⟨i,j,k,l,rfl,q⟩:=h;cases r with
 | cons r1 r =>
  obtain ⟨u2,u3,u4,rfl,r2,r3,r4⟩:=vals3 r;obtain ⟨t1,rfl⟩:=r1;obtain ⟨t2,rfl⟩:=r2;obtain ⟨t3,rfl⟩:=r3;obtain ⟨t4,rfl⟩:=r4;exact max_four_ints (I.ok.hd hc) fun h' tk z kp=>⟨.int (maxI (maxI (maxI i j) k) l),H,I.kept kp,⟨_,rfl⟩,q⟩
theorem imp_max4 {a b c d:E} {σ H Q} (h:dV L K W (.max4 a b c d) σ H Q):tCB rMax4 (tCons (dV L K W a) (tCons (dV L K W b) (tCons (dV L K W c) (tCons (dV L K W d) tNil)))) σ H Q:=by
 obtain ⟨f0,H0,f,en,m,ot⟩:=h;have o1:=Out.bind (show Out L.cls W σ f H ((L.ev a en).bind fun x=>(L.ev b en).bind fun y=>(L.ev c en).bind fun u=>(L.ev d en).bind fun v=>(intR x.1).bind fun i=>(intR y.1).bind fun j=>(intR u.1).bind fun k=>(intR v.1).bind fun l=>v1 (.int (maxI (maxI (maxI i j) k) l))) (Ac K f H Q) from ot);refine ⟨f0,H0,f,en,m,o1.imp (Po.refl m.po.sub) fun x _ h1 v1' f1 H1 q1 hv1=>?_⟩;refine ⟨f0,H0,f1,en,m.mono q1,h1.bind.imp q1 fun y _ h2 v2 f2 H2 q2 hv2=>?_⟩;refine ⟨f0,H0,f2,en,(m.mono q1).mono q2,h2.bind.imp (q1.trans q2) fun u _ h3 v3 f3 H3 q3 hv3=>?_⟩;refine ⟨f0,H0,f3,en,((m.mono q1).mono q2).mono q3,h3.bind.imp ((q1.trans q2).trans q3) fun w _ h4 v4 f4 H4 q4 hv4=>?_⟩;obtain ⟨i,e1,h5⟩:=h4.bind.okk (intR_noex _);obtain ⟨j,e2,h6⟩:=h5.bind.okk (intR_noex _);obtain ⟨k,e3,h7⟩:=h6.bind.okk (intR_noex _);obtain ⟨l,e4,h8⟩:=h7.bind.okk (intR_noex _);have r1:=hv1.read;rw [intR_cases e1] at r1;have r2:=hv2.read;rw [intR_cases e2] at r2;have r3:=hv3.read;rw [intR_cases e3] at r3;have r4:=hv4.read;rw [intR_cases e4] at r4;refine ⟨i,j,k,l,by rw [r1.int,r2.int,r3.int,r4.int],?_⟩;exact (show Ac K f H Q (.int (maxI (maxI (maxI i j) k) l),false) from h8) _ f4 H4 (((q1.trans q2).trans q3).trans q4) (show Dp K f4 _ _ from .int _)
theorem max4_of (xc:XC L N sc W X) {a b c d:E} {f:Str} {p q r t:Expr} {fp pos:Pos} (hf:(f==("max" : Str))=true) (hg:glOk sc f=true)
  (ha:ckE L.T L.cons L.clsN N sc a p=true) (hb:ckE L.T L.cons L.clsN N sc b q=true) (hc:ckE L.T L.cons L.clsN N sc c r=true) (hd:ckE L.T L.cons L.clsN N sc d t=true)
  (ia:PE X p (dV L X.K W a)) (ib:PE X q (dV L X.K W b)) (ic:PE X r (dV L X.K W c)) (id':PE X t (dV L X.K W d)) :
  PE X (.Call (.Name f fp) [p,q,r,t] [] pos) (dV L X.K W (.max4 a b c d)):=by
 have e:=str_beq hf;subst e;obtain ⟨g1,g2,g3⟩:=gl_of xc hg;have pl:(backTo pos (starEach [q,r,t] X.env)).any (·.1)=false:=by
  rw [star_of hb [r,t],star_of hc [t],star_of hd []];rfl
 exact PE.imp (pe_callB (cr_max4 xc.calm) g1 (blt_of xc (by decide +kernel)) (by decide +kernel) (pa_cons ia (pa_cons ib (pa_cons ic (pa_cons id' pa_nil (star_of hd [])) (star_of hc [t])) (star_of hb [r,t])) (star_of ha [q,r,t])) g3 g2 (star_of ha [q,r,t]) pl) fun σ H Q q=>imp_max4 q
theorem imp_cmpP {elt:E} {tg:Tg} {i0:Nat} {ifs:Eo} {own:List (Str×Nat)} (ht:∀i∈tgSlots tg,i∈own.map (·.2)) {σ H Q} (h:dV L K W (.cmpP elt tg i0 ifs own) σ H Q) :
  tLc (iList K (tVar i0)) (gD K tg) (dB L K W0 ifs) (dV L K W0 elt) (own.map (·.2)) σ H Q:=by
 obtain ⟨f0,H0,f,en,m,ot⟩:=h;generalize hvs:own.map (·.2)=vs at ht ⊢;have ot':Out L.cls W σ f H ((owR en i0).bind fun ds=>(compL (fun d=>(bindT tg d (wipe en (own.map (·.2)))).bind fun en'=>(evB L.G L.c (dflT L.T) ifs en').nox.bind fun b =>
   if b then (L.ev elt en').nox.bind fun y=>R.ok (some y.1) else .ok none) ds).bind fun ys=>if ds.length≤line then R.ok (PyData.list ys,true) else .no) (Ac K f H Q):=ot
 rw [hvs] at ot';generalize hF:(fun d=>(bindT tg d (wipe en vs)).bind fun en'=>(evB L.G L.c (dflT L.T) ifs en').nox.bind fun b=>if b then (L.ev elt en').nox.bind fun y=>R.ok (some y.1) else .ok none)=F at ot';have hFx:∀d k,F d ≠ .ex k:=fun d k=>by
  rw [←hF];exact bind_noex (bindT_noex _ _ _) (fun en'=>bind_noex (fun k=>nox_noex k) fun b=>ite_noex (bind_noex (fun k=>nox_noex k) fun _=>ok_noex) ok_noex) k
 obtain ⟨ds,eds,h1⟩:=ot'.bind.okk (owR_noex en i0);obtain ⟨p,ps,e1,_,_,hHp,hps⟩:=m.ow (owR_at eds);refine ⟨.ref p,e1,p,rfl,⟨ps,.inl (.inl hHp)⟩,fun D hD=>?_⟩;have sub0:Same f H:=m.po.sub;obtain ⟨ys,ey,h2⟩:=h1.bind.okk (compL_noex hFx ds);have hz:ds.length≤line:=by
  refine Classical.byContradiction fun hz=>?_;rw [if_neg hz] at h2;exact h2
 rw [if_pos hz] at h2;have hlen:∀n,n<ds.length→n<sizeLine:=fun n hn=>by rw [←line_eq];omega
 let St:Nat→Hp→Prop:=fun i H'=>i≤ds.length∧∃fi acc done rest,Po f H fi H'∧fi D=none∧H' D=some (.lst acc)∧DpAll K fi acc done∧compL F (ds.drop i) = .ok rest∧done++rest=ys∧done.length≤i
 refine ⟨fun i mm H'=>mm=ds.length-i∧St i H',⟨ds.length,rfl,Nat.zero_le _,f,[],[],ys,(Po.refl sub0).newH hD,sub0.free hD,upd_same,.nil,ey,rfl,Nat.le_refl _⟩,?_⟩;rintro i mm H' ⟨rfl,hi,fi,acc,done,rest,q2,fD,HD,hacc,hcomp,hys,hdl⟩;have sm1:Same f H':=q2.sf.trans q2.sub;have hHp':H' p=some (.lst ps):=q2.sH.k hHp;by_cases hlt:i<ds.length
 ·obtain ⟨v,hv,_⟩:=all_at hps hlt;refine .inr ⟨⟨ps,v,.inl (.inl hHp'),hv⟩,St (i+1),fun H'' hst=>⟨_,by omega,rfl,hst⟩,fun x H2 hy=>?_⟩;obtain ⟨rfl,hy⟩:=hy;obtain ⟨d,hd,hx0⟩:=hps.getV (hy _ (.inl (.inl hHp')));have hx:=dp_same q2.sf hx0;have hdrop:ds.drop i=d::ds.drop (i+1):=by
   rw [List.drop_eq_getElem_cons hlt];have:ds[i]=d:=by
    rw [List.getElem?_eq_getElem hlt] at hd;exact Option.some.inj hd
   rw [this]
  rw [hdrop] at hcomp;have hcomp':(F d).bind (fun o=>(compL F (ds.drop (i+1))).bind fun ys=>R.ok (consO o ys)) = .ok rest:=hcomp;obtain ⟨o,eo,hc2⟩:=R.of_bind hcomp';obtain ⟨rest',er,hc3⟩:=R.of_bind hc2;have erest:rest=consO o rest':=by cases hc3;rfl
  rw [←hF] at eo;obtain ⟨en',eb,eo2⟩:=R.of_bind eo;obtain ⟨b,ebb,eo3⟩:=R.of_bind eo2;have ebb:=R.of_nox ebb;have m2:=(m.mono q2).wipes vs;refine ⟨f0,H0,fi,_,d,en',m2,hx,eb,fun σ' m' hwp=>⟨(hwp vs ht).trans (wipe_wipe σ vs),?_⟩⟩;have core:∀f3 H3,Po fi H2 f3 H3→(if b=true then dV L K W0 elt σ' H3 fun y H4=>∃acc,H4 D=some (.lst acc)∧acc.length<sizeLine∧St (i+1) (L2.upd H4 D (.lst (acc++[y]))) else St (i+1) H3):=fun f3 H3 q4=>by
   have HD3:H3 D=some (.lst acc):=q4.sH.k HD;have fD3:f3 D=none:=q4.loose fD HD;cases b with
   | true =>
    rw [if_pos rfl] at eo3 ⊢;obtain ⟨p',ep,eo4⟩:=R.of_bind eo3;have ep:=R.of_nox ep;refine ⟨f0,H0,f3,en',m'.mono q4,?_⟩;rw [ep];intro v f4 H4 q5 hv;obtain ⟨f5,q6,hv2⟩:=hv.settle q5;have fD5:f5 D=none:=q6.loose fD3 HD3;have hal:=hacc.length;refine ⟨acc,q6.sH.k HD3,hlen _ (by omega),hlt,f5,acc++[v],done++[p'.1],rest',?_,fD5,upd_same,?_,er,?_,by rw [List.length_append,List.length_singleton];omega⟩
    ·exact (q2.trans (q4.trans q6)).upd (nw hD) fD5 (q6.sH.k HD3)
    ·exact (dpa_same ((q4.trans q6).sf) hacc).append (.cons hv2 .nil)
    ·cases eo4;rw [List.append_assoc];rw [erest] at hys;exact hys
   | false =>
    rw [if_neg Bool.false_ne_true] at eo3 ⊢;cases eo3;refine ⟨hlt,f3,acc,done,rest',q2.trans q4,fD3,HD3,dpa_same q4.sf hacc,er,?_,by omega⟩;rw [erest] at hys;exact hys
  cases ifs with
  | none =>
   have ebb':R.ok true=R.ok b:=ebb;cases ebb';exact core fi H2 (Po.refl q2.sub)
  | some e =>
   refine ⟨f0,H0,fi,en',m',?_⟩;have ebb':evT L.G L.c (dflT L.T) e en' = .ok b:=ebb;rw [ebb'];exact fun f3 H3 q4=>core f3 H3 q4
 ·have ei:i=ds.length:=by omega
  subst ei;refine .inl ⟨⟨ps,.inl (.inl hHp'),Nat.le_of_eq hps.length⟩,?_⟩;rw [List.drop_length] at hcomp;have:rest=[]:=by cases hcomp;rfl
  subst this;rw [List.append_nil] at hys;subst hys;exact h2 _ fi H' q2 ⟨done,D,acc,rfl,rfl,nw hD,fD,HD,hacc⟩
end
end AW
namespace AW
open PySem PySem.Spec PyProof.Rows L2
variable [CdT] [StA]
section
variable {K:PySem.W.Frag} {f:Hp}
theorem strR_noex (d:D) (k:Nat):strR d ≠ .ex k:=by cases d <;> first | exact no_noex k | exact ok_noex k
theorem strR_at {d:D} {x:Str} (h:strR d = .ok x):d = .str x:=by
 cases d with
 | str y=>cases h;rfl
 | _=>cases h
theorem joinR_noex (a:Str) (xs:List D) (k:Nat):semT1 .join a (.list xs) ≠ .ex k:=by
 show (match strsD xs with
  | some ys=>if (ys.map (·.length)).sum+ys.length*a.length≤line then v1 (.str (Txt.join a ys)) else .no
  | none => .no:R (D×Bool)) ≠ .ex k
 cases strsD xs with
 | none=>exact no_noex k
 | some ys=>exact ite_noex (fun _=>v1_noex) no_noex k
theorem semT1_noex (o:Tm1) (a:Str) (b:D) (k:Nat):semT1 o a b ≠ .ex k:=by
 cases o <;> cases b <;> first
  | exact no_noex k
  | exact v1_noex
  | exact joinR_noex _ _ k
  | exact ite_noex (fun _=>v1_noex) no_noex k
  | exact ite_noex ok_noex no_noex k
theorem semT2_noex (o:Tm2) (a:Str) (b c:D) (k:Nat):semT2 o a b c ≠ .ex k:=by
 cases o <;> cases b <;> cases c <;> first
  | exact no_noex k
  | exact v1_noex
theorem dpa_strs (K:PySem.W.Frag) (f:Hp):∀ys:List Str,DpAll K f (ys.map V.str) (ys.map PyData.str)
 | [] => .nil
 | y::r => .cons (.str y) (dpa_strs K f r)
theorem strsD_at:∀{vs:List V} {ds:List D} {ys:List Str},DpAll K f vs ds→strsD ds=some ys→vs=ys.map V.str
 | _,_,_,.nil,e=>by cases e;rfl
 | _,_,_,.cons (v:=v) (d:=d) (ds:=ds) h t,e=>by
  cases h with
  | str y =>
   have e':(strsD ds).map (y :: ·)=some _:=e;cases e2:strsD ds with
   | none=>rw [e2] at e';cases e'
   | some r =>
    rw [e2] at e';cases e';rw [List.map_cons,strsD_at t e2]
  | _=>cases e
end
section
variable {L:Lk} {N:List Str} {sc:Nms} {W:WX} {X:Cx} {K:PySem.W.Frag}
theorem imp_tx1 {o:Tm1} {a b:E} {r:V→List V→Hp→VK→Prop} (hr:∀{f H:Hp} {x:Str} {y:V} {dy:D} {p:D×Bool} {Q:VK},Same f H→Vr K f H y dy→semT1 o x dy = .ok p→Ac K f H Q p→r (.str x) [y] H Q) {σ H Q} (h:dV L K W (.tx1 o a b) σ H Q) :
  tBM K "str" r (dV L K W a) (tCons (dR L K W b) tNil) σ H Q:=by
 obtain ⟨f0,H0,f,en,m,ot⟩:=h;have o1:=Out.bind (show Out L.cls W σ f H ((L.ev a en).bind fun x=>(strR x.1).bind fun u=>(rd1 b en (L.ev b en)).bind fun y=>semT1 o u y) (Ac K f H Q) from ot);refine ⟨f0,H0,f,en,m,o1.imp (Po.refl m.po.sub) fun dx _ h1 v f1 H1 q1 hv=>?_⟩;obtain ⟨z,ex,h2⟩:=h1.bind.okk (strR_noex _);have hv':=hv.read;rw [strR_at ex] at hv';have ev:=hv'.str;subst ev;refine ⟨rfl,f0,H0,f1,en,m.mono q1,h2.bind.imp q1 fun dy _ h3 u f2 H2 q2 hu=>?_⟩;obtain ⟨p,e,k⟩:=h3.okk (semT1_noex _ _ _);exact hr q2.sub hu e (k.mono (q1.trans q2))
theorem rcv_of {x:Expr} (h:rcvOk x=true) (m:Str):attributeBase x m X.env (eval x X.env)=eval x X.env:=by
 cases x <;> first
  | rfl
  | cases h
theorem tx1_of (xc:XC L N sc W X) {o:Tm1} {a b:E} {m:Str} {x y:Expr} {ap cp:Pos} (hm:(t1Fn o==m)=true) (hx:rcvOk x=true) (ha:ckE L.T L.cons L.clsN N sc a x=true) (hb:ckE L.T L.cons L.clsN N sc b y=true) (hl:(ap.endLine==cp.line)=true) (ia:PE X x (dV L X.K W a)) (ib:PE X y (dV L X.K W b)) :
  PE X (.Call (.Attribute x m ap) [y] [] cp) (dV L X.K W (.tx1 o a b)):=by
 have e:=str_beq hm;subst e;have pa:=pa_cons (sR_of xc hb ib) pa_nil (star_of hb []);cases o with
 | part =>
  refine PE.imp (pe_bm PySem.F.plainAttrs_str PySem.F.slot_str_partition PySem.F.type_str_partition mt_partition ia pa (rcv_of hx _) (few_of hb) hl (star_of hb []) rfl) fun σ H Q q=>imp_tx1 (fun {f H x y dy p Q} sm hy e k=>?_) q;cases dy with
  | str z =>
   have e:(if (z.length==0)=false∧x.length≤line then v1 (.tuple [.str (Txt.partition x z).1,.str (Txt.partition x z).2.1,.str (Txt.partition x z).2.2]) else .no)=R.ok p:=e;by_cases hz:(z.length==0)=false∧x.length≤line
   ·rw [if_pos hz] at e;cases e;exact ⟨x,z,rfl,by rw [hy.str],hz.1,by rw [←line_eq];exact hz.2,fun p hp=>k.newT sm (.cons (.str _) (.cons (.str _) (.cons (.str _) .nil))) hp⟩
   ·rw [if_neg hz] at e;cases e
  | _=>cases e
 | split =>
  refine PE.imp (pe_bm PySem.F.plainAttrs_str PySem.F.slot_str_split PySem.F.type_str_split mt_split ia pa (rcv_of hx _) (few_of hb) hl (star_of hb []) rfl) fun σ H Q q=>imp_tx1 (fun {f H x y dy p Q} sm hy e k=>?_) q;cases dy with
  | str z =>
   have e:(if (z.length==0)=false∧x.length+2≤line then R.ok (PyData.list ((Txt.split x z).map .str),true) else .no)=R.ok p:=e;by_cases hz:(z.length==0)=false∧x.length+2≤line
   ·rw [if_pos hz] at e;cases e;exact ⟨x,z,rfl,by rw [hy.str],hz.1,by rw [←line_eq];exact hz.2,fun p hp=>k.newL sm (dpa_strs _ _ _) hp⟩
   ·rw [if_neg hz] at e;cases e
  | _=>cases e
 | sw =>
  refine PE.imp (pe_bm PySem.F.plainAttrs_str PySem.F.slot_str_startswith PySem.F.type_str_startswith mt_startswith ia pa (rcv_of hx _) (few_of hb) hl (star_of hb []) rfl) fun σ H Q q=>imp_tx1 (fun {f H x y dy p Q} sm hy e k=>?_) q;cases dy with
  | str z =>
   cases e;exact ⟨x,z,rfl,by rw [hy.str],k.here sm (.bl _)⟩
  | _=>cases e
 | strip =>
  refine PE.imp (pe_bm PySem.F.plainAttrs_str PySem.F.slot_str_strip PySem.F.type_str_strip mt_stripChars ia pa (rcv_of hx _) (few_of hb) hl (star_of hb []) rfl) fun σ H Q q=>imp_tx1 (fun {f H x y dy p Q} sm hy e k=>?_) q;cases dy with
  | str z =>
   have e:(if x.length≤line then v1 (.str (Txt.stripChars x z)) else .no)=R.ok p:=e;by_cases hz:x.length≤line
   ·rw [if_pos hz] at e;cases e;exact ⟨x,z,rfl,by rw [hy.str],by rw [←line_eq];exact hz,k.here sm (.str _)⟩
   ·rw [if_neg hz] at e;cases e
  | _=>cases e
 | join =>
  refine PE.imp (pe_bm PySem.F.plainAttrs_str PySem.F.slot_str_join PySem.F.type_str_join mt_join ia pa (rcv_of hx _) (few_of hb) hl (star_of hb []) rfl) fun σ H Q q=>imp_tx1 (fun {f H x y dy p Q} sm hy e k=>?_) q;cases dy with
  | list zs =>
   have e:(match strsD zs with
    | some ys=>if (ys.map (·.length)).sum+ys.length*x.length≤line then v1 (.str (Txt.join x ys)) else .no
    | none => .no)=R.ok p:=e
   cases hs:strsD zs with
   | none=>rw [hs] at e;cases e
   | some ys =>
    rw [hs] at e;have e:(if (ys.map (·.length)).sum+ys.length*x.length≤line then v1 (.str (Txt.join x ys)) else .no)=R.ok p:=e;by_cases hz:(ys.map (·.length)).sum+ys.length*x.length≤line
    ·rw [if_pos hz] at e;cases e;obtain ⟨a,vs,rfl,ha,ra⟩:=hy.list sm;have ev:=strsD_at ra hs;subst ev;exact ⟨x,a,ys,rfl,rfl,.inl ha,hz,k.here sm (.str _)⟩
    ·rw [if_neg hz] at e;cases e
  | _=>cases e
theorem imp_tx2 {o:Tm2} {a b c:E} {r:V→List V→Hp→VK→Prop} (hr:∀{f H:Hp} {x:Str} {y z:V} {dy dz:D} {p:D×Bool} {Q:VK},Same f H→Vr K f H y dy→Vr K f H z dz→semT2 o x dy dz = .ok p→Ac K f H Q p→r (.str x) [y,z] H Q) {σ H Q} (h:dV L K W (.tx2 o a b c) σ H Q) :
  tBM K "str" r (dV L K W a) (tCons (dV L K W b) (tCons (dV L K W c) tNil)) σ H Q:=by
 obtain ⟨f0,H0,f,en,m,ot⟩:=h;have o1:=Out.bind (show Out L.cls W σ f H ((L.ev a en).bind fun x=>(strR x.1).bind fun u=>(L.ev b en).bind fun y=>(L.ev c en).bind fun w=>semT2 o u y.1 w.1) (Ac K f H Q) from ot);refine ⟨f0,H0,f,en,m,o1.imp (Po.refl m.po.sub) fun dx _ h1 v f1 H1 q1 hv=>?_⟩;obtain ⟨z,ex,h2⟩:=h1.bind.okk (strR_noex _);have hv':=hv.read;rw [strR_at ex] at hv';have ev:=hv'.str;subst ev;refine ⟨rfl,f0,H0,f1,en,m.mono q1,h2.bind.imp q1 fun dy _ h3 u f2 H2 q2 hu=>?_⟩;refine ⟨f0,H0,f2,en,m.mono (q1.trans q2),h3.bind.imp (q1.trans q2) fun dz _ h4 w f3 H3 q3 hw=>?_⟩;obtain ⟨p,e,k⟩:=h4.okk (semT2_noex _ _ _ _);exact hr q3.sub (hu.read.mono q3) hw.read e (k.mono ((q1.trans q2).trans q3))
theorem few2_of {T:List Fn} {cs:List (Str×D)} {cl:List Str} {x x2:E} {e e2:Expr} {cp:Pos} (h:ckE T cs cl N sc x e=true) (h2:ckE T cs cl N sc x2 e2=true):((backTo cp (starEach [e,e2] X.env)).all (fun x => !x.1)&&(backToKw cp (keywordEach [] X.env)).all (fun x=>x.1.isSome)
   && decide ([e,e2].length+([]:List Keyword).length+(if ([]:List Keyword).isEmpty then 0 else 1)<30))=true:=by
 rw [star_of h [e2],star_of h2 []];rfl
theorem tx2_of (xc:XC L N sc W X) {o:Tm2} {a b c:E} {m:Str} {x y w:Expr} {ap cp:Pos} (hm:(t2Fn o==m)=true) (hx:rcvOk x=true) (ha:ckE L.T L.cons L.clsN N sc a x=true) (hb:ckE L.T L.cons L.clsN N sc b y=true) (hc:ckE L.T L.cons L.clsN N sc c w=true) (hl:(ap.endLine==cp.line)=true) (ia:PE X x (dV L X.K W a)) (ib:PE X y (dV L X.K W b)) (ic:PE X w (dV L X.K W c)) :
  PE X (.Call (.Attribute x m ap) [y,w] [] cp) (dV L X.K W (.tx2 o a b c)):=by
 have e:=str_beq hm;subst e;have pa:=pa_cons ib (pa_cons ic pa_nil (star_of hc [])) (star_of hb [w]);have hp:(backTo cp (starEach [w] X.env)).any (·.1)=false:=by
  rw [star_of hc []];rfl
 cases o with
 | sw3 =>
  refine PE.imp (pe_bm PySem.F.plainAttrs_str PySem.F.slot_str_startswith PySem.F.type_str_startswith mt_startswith3 ia pa (rcv_of hx _) (few2_of hb hc) hl (star_of hb [w]) hp) fun σ H Q q=>imp_tx2 (fun {f H x y z dy dz p Q} sm hy hz e k=>?_) q;cases dy <;> cases dz <;> first
   | (cases e;done)
   | skip
  case str.int b i =>
   cases e;exact ⟨x,b,i,rfl,by rw [hy.str,hz.int],k.here sm (.bl _)⟩
 | find3 =>
  refine PE.imp (pe_bm PySem.F.plainAttrs_str PySem.F.slot_str_find PySem.F.type_str_find mt_find3 ia pa (rcv_of hx _) (few2_of hb hc) hl (star_of hb [w]) hp) fun σ H Q q=>imp_tx2 (fun {f H x y z dy dz p Q} sm hy hz e k=>?_) q;cases dy <;> cases dz <;> first
   | (cases e;done)
   | skip
  case str.int b i =>
   cases e;exact ⟨x,b,i,rfl,by rw [hy.str,hz.int],k.here sm (.int _)⟩
theorem dpa_pick {f:Hp}:∀(ix:List Nat) {vs:List V} {ds:List D},DpAll K f vs ds→DpAll K f (ix.filterMap fun i=>vs[i]?) (ix.filterMap fun i=>ds[i]?)
 | [],_,_,_ => .nil
 | i::r,vs,ds,h=>by
  have ih:=dpa_pick r h;cases hd:ds[i]? with
  | none =>
   have hv:vs[i]?=none:=by
    have:=List.getElem?_eq_none_iff.mp hd;exact List.getElem?_eq_none (by rw [h.length];exact this)
   rw [List.filterMap_cons_none hv,List.filterMap_cons_none hd];exact ih
  | some d =>
   obtain ⟨v,hv,h1⟩:=h.get hd;rw [List.filterMap_cons_some hv,List.filterMap_cons_some hd];exact .cons h1 ih
theorem vals_pick:∀(ix:List Nat) {vs:List V} {us:List Value},Vals vs us→Vals (ix.filterMap fun i=>vs[i]?) (ix.filterMap fun i=>us[i]?)
 | [],_,_,_ => .nil
 | i::r,vs,us,h=>by
  have ih:=vals_pick r h;have hl:=h.length;cases hv:vs[i]? with
  | none =>
   have hu:us[i]?=none:=by
    have:=List.getElem?_eq_none_iff.mp hv;exact List.getElem?_eq_none (by omega)
   rw [List.filterMap_cons_none hv,List.filterMap_cons_none hu];exact ih
  | some d =>
   obtain ⟨u,hu,h1⟩:=valsAt h hv;rw [List.filterMap_cons_some hv,List.filterMap_cons_some hu];exact .cons h1 ih
where
 valsAt:∀{vs:List V} {us:List Value} {i:Nat} {v:V},Vals vs us→vs[i]?=some v→∃u,us[i]?=some u∧RelV v u
  | _,_,_,_,.nil,h=>by simp at h
  | _,_,0,_,.cons a _,h=>by cases h;exact ⟨_,rfl,a⟩
  | _,_,i+1,_,.cons _ t,h=>valsAt (i:=i) t h
def tSt (K:PySem.W.Frag) (te:TE) (tl th ts:TO):TE:=fun σ H Q=>te σ H fun x H1=>tl σ H1 fun lo H2=>th σ H2 fun hi H3=>ts σ H3 fun st H4=>∃a xs,x = .ref a∧SqL K H4 a xs∧st≠some 0∧∀p,H4 p=none→Q (.ref p) (upd H4 p (.lst (pickL xs lo hi st)))
theorem pe_stp {e st:Expr} {lo hi:Option Expr} {te:TE} {tl th ts:TO} {p3 pos:Pos} (he:PE X e te) (hl:PO X lo tl) (hh:PO X hi th) (hs:PO X (some st) ts):PE X (.Subscript e (.Slice lo hi (some st) p3) pos) (tSt X.K te tl th ts):=by
 refine ⟨fun pins s σ H Q I h=>?_⟩;refine Subscript_ (thn (he.run pins s σ H _ I h) fun v s1 ⟨x,H1,I1,r1,q1⟩=>?_);refine wpAny_Slice (thn (hl.run pins s1 σ H1 _ I1 q1) fun vl s2 ⟨l,H2,I2,pl,q2⟩=>thn (hh.run pins s2 σ H2 _ I2 q2) fun vu s3 ⟨u,H3,I3,pu,q3⟩=>thn (hs.run pins s3 σ H3 _ I3 q3) fun vs s4 ⟨o,H4,I4,ps,q4⟩=>?_);obtain ⟨a,xs,ex,hx,h0,q⟩:=q4;subst ex;cases r1;have I5:Inv X pins σ H4 { s4 with heap:=s4.heap.push { cls := .type "slice", data := .fields #[vl,vu,vs] } }:=I4.kept (t':=s4.toks) fun b ob q=>Heap.get?_push_of_some _ q;obtain ⟨its,r,ht,hz⟩:=I5.list hx;have hlen:=r.length;show wpAny (model X.prog X.w) X.A (subscriptTail e (.Slice lo hi (some st) p3) (.ref a) (.ref s4.heap.objs.size)) (EP X pins σ Q) X.xe { s4 with heap:=s4.heap.push { cls := .type "slice", data := .fields #[vl,vu,vs] } };refine tail_any (ops:=[.ref a,.ref s4.heap.objs.size]) ht.isList.typeIs (PySem.slot_list_getitem.lookup) ?_ (by with_unfolding_all rfl);refine wpAny_getItem_list_slice ht.isList (Heap.IsSliceOf.new _ vl vu vs) pl pu ps h0 ?_ (by rw [List.size_toArray];omega);have ep:slicePick its.toArray l u o=(pickL its l u o).toArray:=by
  unfold slicePick pickL;simp
 rw [ep];have hle:(pickL xs l u o).length≤sizeLine:=by
  have h1:=slicePick_size_le its.toArray l u o;rw [ep,List.size_toArray,List.size_toArray] at h1;have h2:(pickL xs l u o).length=(pickL its l u o).length:=by
   unfold pickL;rw [hlen];exact (vals_pick _ r).length
  omega
 refine ⟨.ref _,_,I5.laid (t':=s4.toks) (o := .lst (pickL xs l u o)) (fun b ob q=>Heap.get?_push_of_some _ q) (Nat.le_refl _) ?_,rfl,q _ (I5.hok.fresh (Nat.le_refl _))⟩;refine ⟨hle,_,0,?_,Heap.get?_push_size _ rfl⟩;have:=vals_pick (sliceRange (sliceBounds l u o xs.length).1 (sliceBounds l u o xs.length).2.1 (sliceBounds l u o xs.length).2.2) r;unfold pickL;rw [←hlen];exact this
theorem imp_stp {a:E} {lo hi st:Eo} {σ H Q} (h:dV L K W (.stp a lo hi st) σ H Q):tSt K (dR L K W a) (dO L K W lo) (dO L K W hi) (dO L K W st) σ H Q:=by
 obtain ⟨f0,H0,f,en,m,ot⟩:=h;have o1:=Out.bind (show Out L.cls W σ f H ((rd1 a en (L.ev a en)).bind fun x=>(listR x).bind fun u=>(evO L.G L.c (dflT L.T) lo en).bind fun l=>(evO L.G L.c (dflT L.T) hi en).bind fun h=>(evO L.G L.c (dflT L.T) st en).bind fun s=>semSt u l h s) (Ac K f H Q) from ot);refine ⟨f0,H0,f,en,m,o1.imp (Po.refl m.po.sub) fun dx _ h1 v f1 H1 q1 hv=>?_⟩;obtain ⟨xs,ex,h2⟩:=h1.bind.okk (listR_noex _);have ed:dx = .list xs:=by
  cases dx <;> first
   | (cases ex;done)
   | (cases ex;rfl)
 subst ed;refine ⟨f0,H0,f1,en,m.mono q1,h2.bind.imp q1 fun l _ h3 f2 H2 q2=>?_⟩;refine ⟨f0,H0,f2,en,m.mono (q1.trans q2),h3.bind.imp (q1.trans q2) fun u _ h4 f3 H3 q3=>?_⟩;refine ⟨f0,H0,f3,en,m.mono ((q1.trans q2).trans q3),h4.bind.imp ((q1.trans q2).trans q3) fun s _ h5 f4 H4 q4=>?_⟩;have q14:=((q1.trans q2).trans q3).trans q4;have h6:Out L.cls W σ f H (if s=some 0 then R.no else .ok (PyData.list (pickL xs l u s),true)) (Ac K f H Q):=h5;by_cases hs:s=some 0
 ·rw [if_pos hs] at h6;exact h6.elim
 ·rw [if_neg hs] at h6;have hv2:=((hv.mono q2).mono q3).mono q4;obtain ⟨p,vs,rfl,hsq,ha⟩:=hv2.list q4.sub;refine ⟨p,vs,rfl,hsq,hs,fun r hr=>?_⟩;have k:=(show Ac K f H Q (.list (pickL xs l u s),true) from h6).mono q14;refine k.newL q4.sub ?_ hr;unfold pickL;rw [ha.length];exact dpa_pick _ ha
theorem rgV_dp (K:PySem.W.Frag) (f:Hp) (n:Int):DpAll K f (rgV 0 n) (rngD 0 n.toNat):=by
 unfold rgV rngD;have e:(n-0).toNat=n.toNat:=by omega
 rw [e];generalize n.toNat=k;generalize hr:List.range k=l;clear hr e
 induction l with
 | nil=>exact .nil
 | cons i r ih=>exact .cons (.int _) ih
theorem imp_lrng {a:E} {σ H Q} (h:dV L K W (.lrng a) σ H Q):tLstRg (tRg1 (dV L K W a)) σ H Q:=by
 obtain ⟨f0,H0,f,en,m,ot⟩:=h;have o1:=Out.bind (show Out L.cls W σ f H ((L.ev a en).bind fun x=>(intR x.1).bind fun j=>if small j=true∧j≤line then R.ok (PyData.list (rngD 0 j.toNat),true) else .no) (Ac K f H Q) from ot);refine ⟨f0,H0,f,en,m,o1.imp (Po.refl m.po.sub) fun dx _ h1 v f1 H1 q1 hv=>?_⟩;obtain ⟨j,ej,h2⟩:=h1.bind.okk (intR_noex _);have hv':=hv.read;rw [intR_cases ej] at hv';refine ⟨j,hv'.int,?_⟩;by_cases hz:small j=true∧j≤line
 ·rw [if_pos hz] at h2;obtain ⟨b1,b2⟩:=small_ok hz.1;have hl:(line:Int)=16777216:=rfl;have e24:(2:Nat)^24=16777216:=by decide
  refine ⟨⟨by decide,by decide,b1,b2,by have:=hz.2;omega⟩,fun q hq=>?_⟩;exact (show Ac K f H Q (.list (rngD 0 j.toNat),true) from h2).mono q1 |>.newL q1.sub (rgV_dp K f1 j) hq
 ·rw [if_neg hz] at h2;exact h2.elim
theorem lrng_of (xc:XC L N sc W X) {a:E} {f g:Str} {b:Expr} {p1 p2 p3 p4:Pos} (hf:(f==("list" : Str))=true) (hg:(g==("range" : Str))=true) (gf:glOk sc f=true) (gg:glOk sc g=true) (hb:ckE L.T L.cons L.clsN N sc a b=true) (ib:PE X b (dV L X.K W a)) :
  PE X (.Call (.Name f p1) [.Call (.Name g p2) [b] [] p3] [] p4) (dV L X.K W (.lrng a)):=by
 have e:=str_beq hf;subst e;have e:=str_beq hg;subst e;exact PE.imp (pe_listRg xc.calm (gl_of xc gf).1 (blt_of xc (by decide +kernel)) (prg_1 (gl_of xc gg).1 (blt_of xc (by decide +kernel)) ib (star_of hb [])) rfl) fun σ H Q q=>imp_lrng q
def rJmax:List V→Hp→VK→Prop:=fun xs H Q=>∃(p:Addr) (kvs:List (Key×V)) (ks:List Int) (n:Int),xs=[.ref p]∧H p=some (.dK kvs)∧kvs.map (·.1)=ks.map Sum.inl∧maxL ks=some n∧Q (.int n) H
theorem argBest_max (g:Nat→Int):∀k:Nat,g (argBest (fun i j=>decide (g i>g j)) k)=((List.range k).map fun i=>g (i+1)).foldl (fun a b=>if b>a then b else a) (g 0)
 | 0=>rfl
 | k+1=>by
  have ih:=argBest_max g k;rw [List.range_succ,List.map_append,List.foldl_append,←ih];show g (if decide (g (k+1)>g (argBest (fun i j=>decide (g i>g j)) k))=true then k+1 else argBest (fun i j=>decide (g i>g j)) k)=if g (k+1)>g (argBest (fun i j=>decide (g i>g j)) k) then g (k+1) else g (argBest (fun i j=>decide (g i>g j)) k)
  by_cases h:g (k+1)>g (argBest (fun i j=>decide (g i>g j)) k)
  ·rw [if_pos (by simpa using h),if_pos h]
  ·rw [if_neg (by simpa using h),if_neg h]
theorem cr_jmax (hc:X.calm=true):CallR X (.builtin "max") rJmax:=by
 intro pins s σ H xs us Q I r h;obtain ⟨p,kvs,ks,n,rfl,hk,hks,hn,q⟩:=h;obtain ⟨u,rfl,rx⟩:=r.one;obtain rfl:u=Value.ref p:=rx;obtain ⟨z,lo,vs,rk,hd⟩:=(show ObjOk X.prog X.w H s.heap p (.dK kvs) from I.hok p _ hk);obtain ⟨es,ep,raw,hsz,hat⟩:=hd.raw;have hl:kvs.length=vs.length:=Paired.length rk;have hlk:ks.length=kvs.length:=by
  have:=congrArg List.length hks;rw [List.length_map,List.length_map] at this;omega
 have hkeys:vs.map (·.1)=ks.map Sum.inl:=by rw [←hks];exact (KV.keys rk).symm
 have hpos:0<es.size:=by
  cases ks with
  | nil=>cases hn
  | cons a r=>rw [List.length_cons] at hlk;omega
 have key:∀i (hi:i<es.size),∃t,es[i].key = .int (ks.getD i 0) t:=fun i hi=>by
  have h1:i<vs.length:=by omega
  obtain ⟨e1,_⟩:=hat i hi vs[i].1 vs[i].2 (List.getElem?_eq_getElem h1);have h2:(vs.map (·.1))[i]?=some vs[i].1:=by rw [List.getElem?_map,List.getElem?_eq_getElem h1];rfl
  rw [hkeys,List.getElem?_map] at h2;cases h3:ks[i]? with
  | none=>rw [h3] at h2;cases h2
  | some a =>
   rw [h3] at h2;have h4:Sum.inl a=vs[i].1:=Option.some.inj h2;rw [←h4] at e1;have e1:keyIs (.inl a) es[i].key=true:=e1;have:=keyIs_rel e1;rw [List.getD_eq_getElem?_getD,h3];exact this
 refine call_max_walk (wpAny_pyIter_dict_raw lo raw ?_);have hlt:p<s.heap.objs.size:=by obtain ⟨o,ho,_⟩:=raw;exact Heap.lt_size ho
 have hne:p≠s.heap.objs.size:=Nat.ne_of_lt hlt;have hh1:X.A.in1.handled=none:=I.ok.hd hc;have hsz1:(s.heap.push { cls := .type "dict_keyiterator", data := .fields #[.ref p,.int 0 0,.int es.size 0,.int ep 0] }).objs.size=s.heap.objs.size+1:=Heap.size_push ..;have hval:∀(i:Nat) (v:Value),(∃hi:i<es.size,v=es[i].key)→∃t,v = .int (ks.getD i 0) t:=fun i v ⟨hi,e⟩=>by
  obtain ⟨t,ht⟩:=key i hi;exact ⟨t,e.trans ht⟩
 refine ⟨_,_,_,_,_,_,_,rfl,Walks.rawKeys (A:=X.A.in1) hh1 s.heap.objs.size p hne es ep,⟨⟨_,Heap.get?_push_size _ rfl,rfl,rfl⟩,raw.at fun o e=>Heap.get?_push_of_some _ e⟩,fun b hb=>?_,hpos,CmpOf.ints_gt (fun i=>ks.getD i 0) hval,fun v h' tk hP kp=>?_⟩
 ·rcases List.mem_cons.mp hb with rfl | hb
  ·show _<(Heap.push _ _).objs.size;rw [hsz1];exact Nat.lt_succ_self _
  ·rcases List.mem_cons.mp hb with rfl | hb
   ·show _<(Heap.push _ _).objs.size;rw [hsz1];exact Nat.lt_succ_of_lt hlt
   ·cases hb
 ·obtain ⟨t,ht⟩:=hval _ v hP;refine ⟨.int n,H,I.kept (t':=tk) (h':=h') fun b o e=>?_,⟨t,?_⟩,q⟩
  ·refine kp b o (fun hm=>?_) (Heap.get?_push_of_some _ e);rcases List.mem_cons.mp hm with rfl | hm
   ·exact absurd (Heap.lt_size e) (Nat.lt_irrefl _)
   ·cases hm
  ·rw [ht];congr 1
   have hb:=argBest_max (fun i=>ks.getD i 0) (es.size-1);rw [hb];cases ks with
   | nil=>cases hn
   | cons a r =>
    have hr:es.size-1=r.length:=by rw [List.length_cons] at hlk;omega
    have hn':r.foldl (fun a b=>if b>a then b else a) a=n:=Option.some.inj hn;rw [hr,←hn'];congr 1
    apply List.ext_getElem (by simp);intro j h1 h2;simp at h1 h2 ⊢;simp [h2]
theorem imp_jmax {i:Nat} {σ H Q} (h:dV L K W (.jmax i) σ H Q):tCB rJmax (tCons (tVar i) tNil) σ H Q:=by
 obtain ⟨f0,H0,f,en,m,ot⟩:=h;have ot':Out L.cls W σ f H ((jdict en i).bind fun kvs=>(match jints kvs with
  | some ks=>(match maxL ks with
   | some n=>v1 (.int n)
   | none => .no)
  | none => .no)) (Ac K f H Q):=ot
 obtain ⟨kvs,e,o1⟩:=ot'.bind.okk (jdict_noex en i);obtain ⟨p,xs,e1,hH,ha⟩:=m.jd e;cases ek:jints kvs with
 | none=>rw [ek] at o1;exact o1.elim
 | some ks =>
  rw [ek] at o1;have o1:Out L.cls W σ f H (match maxL ks with | some n=>v1 (.int n) | none => .no) (Ac K f H Q):=o1;cases en':maxL ks with
  | none=>rw [en'] at o1;exact o1.elim
  | some n =>
   rw [en'] at o1;exact ⟨.ref p,e1,p,xs,ks,n,rfl,hH,jints_at ha ek,en',(show Ac K f H Q (.int n,false) from o1).here m.po.sub (.int _)⟩
theorem jmax_of (xc:XC L N sc W X) {i:Nat} {f y:Str} {fp py pos:Pos} (hf:(f==("max" : Str))=true) (hg:glOk sc f=true) (hy:nmOk N sc i y=true) :
  PE X (.Call (.Name f fp) [.Name y py] [] pos) (dV L X.K W (.jmax i)):=by
 have e:=str_beq hf;subst e;obtain ⟨g1,g2,g3⟩:=gl_of xc hg;obtain ⟨h1,h2,h3,h4⟩:=vis_of xc hy;exact PE.imp (pe_callB (cr_jmax xc.calm) g1 (blt_of xc (by decide +kernel)) (by decide +kernel) (pa_cons (pe_var h1 h2 h3 h4) pa_nil rfl) g3 g2 rfl rfl) fun σ H Q q=>imp_jmax q
theorem jpairs_at {f:Hp}:∀{vs:List V} {ds:List D} {kvs:List (D×D)},DpAll K f vs ds→jpairs ds=some kvs→∃(ps:List Addr) (xs:List (Key×V)),vs=ps.map V.ref∧Paired (fun p kv=>SqT K f p [kV kv.1,kv.2]) ps xs∧DjAll K f xs kvs
 | _,_,_,.nil,e=>by cases e;exact ⟨[],[],rfl,.nil,.nil⟩
 | _,_,_,.cons (v:=v) (d:=d) (ds:=ds) h t,e=>by
  unfold jpairs at e;split at e
  ·rename_i e0;cases e0
  ·rename_i k d' r e0;cases e0;by_cases ko:jkB k=true
   ·rw [if_pos ko] at e;cases e2:jpairs ds with
    | none=>rw [e2] at e;cases e
    | some r =>
     rw [e2] at e;cases e;obtain ⟨ps,xs,rfl,hp,hd⟩:=jpairs_at t e2;cases h with
     | tup hs ha =>
      rename_i a us;cases ha with
      | cons h1 h2 =>
       cases h2 with
       | cons h2 h3 =>
        cases h3;obtain ⟨q,hq⟩:=jkB_key ko;have ev:=jkey_kV (H':=f) hq (.inl h1);subst ev;exact ⟨a::ps,(q,_)::xs,rfl,.cons hs hp,.cons hq h2 hd⟩
   ·rw [if_neg ko] at e;cases e
  ·cases e
theorem jmerge_at {f:Hp}:∀{xs0 xs:List (Key×V)} {kvs0 kvs:List (D×D)},DjAll K f xs0 kvs0→DjAll K f xs kvs→DjAll K f (mergeK xs0 xs) (jmerge kvs0 kvs)
 | _,_,_,_,h0,.nil=>h0
 | xs0,_,kvs0,_,h0,.cons (q:=q) (v:=v) (xs:=xs) (k:=k) (d:=d) (kvs:=kvs) hk hd t=>by
  have:=jmerge_at (jput_at hk hd h0) t;exact this
def rDofP (K:PySem.W.Frag):List V→Hp→VK→Prop:=fun xs H Q=>∃(a:Addr) (ps:List Addr) (kvs:List (Key×V)),xs=[.ref a]∧SqL K H a (ps.map V.ref)∧Paired (fun p kv=>SqT K H p [kV kv.1,kv.2]) ps kvs ∧
  ∀p,H p=none→Q (.ref p) (upd H p (.dK (mergeK [] kvs)))
theorem Paired.same {f H:Hp} (s:Same f H):∀{ps:List Addr} {xs:List (Key×V)},Paired (fun p kv=>SqT K f p [kV kv.1,kv.2]) ps xs→Paired (fun p kv=>SqT K H p [kV kv.1,kv.2]) ps xs
 | _,_,.nil => .nil
 | _,_,.cons h t => .cons (sqt_same s h) (Paired.same s t)
theorem imp_dofP {a:E} {σ H Q} (h:dV L K W (.dofP a) σ H Q):tCB (rDofP K) (tCons (dR L K W a) tNil) σ H Q:=by
 obtain ⟨f0,H0,f,en,m,ot⟩:=h;have o1:=Out.bind (show Out L.cls W σ f H ((rd1 a en (L.ev a en)).bind fun x=>(listR x).bind fun xs=>(match jpairs xs with
  | some kvs=>v1 (.dict (jmerge [] kvs))
  | none => .no)) (Ac K f H Q) from ot)
 refine ⟨f0,H0,f,en,m,o1.imp (Po.refl m.po.sub) fun d _ h1 v f1 H1 q1 hv=>?_⟩;obtain ⟨xs,ex,h2⟩:=h1.bind.okk (listR_noex _);have ed:d = .list xs:=by
  cases d <;> first
   | (cases ex;done)
   | (cases ex;rfl)
 subst ed;cases ek:jpairs xs with
 | none=>rw [ek] at h2;exact h2.elim
 | some kvs =>
  rw [ek] at h2;obtain ⟨p,vs,rfl,hs,ha⟩:=hv.list q1.sub;obtain ⟨ps,ys,rfl,hp,hd⟩:=jpairs_at ha ek;refine ⟨p,ps,ys,rfl,hs,Paired.same q1.sub hp,fun r hr=>?_⟩;have k:=(show Ac K f H Q (.dict (jmerge [] kvs),false) from h2).mono q1;refine k _ _ _ ((Po.refl q1.sub).new hr) (show Dp K _ _ _ from .dcj upd_same (dj_same (fun b o e=>?_) (jmerge_at .nil hd)));rw [upd_ne (ne_of_none (q1.sub _ _ e) hr)];exact e
theorem dofP_of (xc:XC L N sc W X) {a:E} {f:Str} {b:Expr} {fp pos:Pos} (hf:(f==("dict" : Str))=true) (hg:glOk sc f=true) (hb:ckE L.T L.cons L.clsN N sc a b=true) (ib:PE X b (dV L X.K W a)) :
  PE X (.Call (.Name f fp) [b] [] pos) (dV L X.K W (.dofP a)):=by
 have e:=str_beq hf;subst e;obtain ⟨g1,g2,g3⟩:=gl_of xc hg;have pl:(backTo pos (starEach ([]:List Expr) X.env)).any (·.1)=false:=rfl;exact PE.imp (pe_callTy (call_dictP xc.calm) g1 (blt_of xc (by decide +kernel)) (by decide +kernel) (pa_cons (sR_of xc hb ib) pa_nil (star_of hb [])) g3 g2 (star_of hb []) pl) fun σ H Q q=>imp_dofP q
theorem wk_txt {f:Hp} (z:Str):Wk K f (Its z) (z.cps.toList.map fun c=>PyData.str ⟨#[c]⟩) where
 go:=fun i H _ hi=>by rw [List.length_map,Array.length_toList] at hi;exact hi
 stop:=fun H _=>by rw [List.length_map,Array.length_toList];exact Nat.le_refl _
 yld:=fun i H x H' hi sm y=>by
  obtain ⟨rfl,c,hc,rfl⟩:=y;refine ⟨.str ⟨#[c]⟩,?_,fun fc s1 s2=>⟨fc,Po.refl s2,.str _⟩⟩;rw [List.getElem?_map,Array.getElem?_toList,hc];rfl
theorem impI_txt {x:E} {σ H Rr} (h:dI L K W (.txt x) σ H Rr):iStr (dV L K W x) σ H Rr:=by
 obtain ⟨f0,H0,f,en,m,ot⟩:=h;have o1:=Out.bind (show Out L.cls W σ f H ((L.ev x en).bind fun p=>(strR p.1).bind fun z=>R.ok (z.cps.toList.map fun c=>PyData.str ⟨#[c]⟩)) _ from ot);refine ⟨f0,H0,f,en,m,o1.imp (Po.refl m.po.sub) fun p _ h1 v f1 H1 q1 hv=>?_⟩;obtain ⟨z,ez,h2⟩:=h1.bind.okk (strR_noex _);have hv':=hv.read;rw [strR_at ez] at hv';exact ⟨z,hv'.str,h2 _ f1 H1 q1 (wk_txt z)⟩
end
end AW
namespace AW
open PySem PySem.Spec PyProof.Rows L2
variable [CdT] [StA]
def putU:Hp→List Addr→List (List V)→Hp
 | H,a::as,r::rs=>putU (upd H a (.tup r)) as rs
 | H,_,_=>H
theorem putU_off {b:Addr}:∀(as:List Addr) (rs:List (List V)) (H:Hp),b ∉ as→putU H as rs b=H b
 | [],_,_,_=>rfl
 | _::_,[],_,_=>rfl
 | a::as,r::rs,H,h=>by
  show putU (upd H a (.tup r)) as rs b=H b;rw [putU_off as rs _ (fun z=>h (List.mem_cons_of_mem _ z)),upd_ne (fun z=>h (by rw [z];exact List.mem_cons_self))]
theorem putU_at:∀(as:List Addr) (rs:List (List V)) (H:Hp),as.length=rs.length→as.Nodup→∀(j:Nat) (a:Addr) (r:List V),as[j]?=some a→rs[j]?=some r→putU H as rs a=some (.tup r)
 | [],_,_,_,_,j,a,r,h,_=>by simp at h
 | _::_,[],_,h,_,_,_,_,_,_=>by cases h
 | a::as,r::rs,H,h,hn,j,b,q,e1,e2=>by
  have hn':=List.nodup_cons.mp hn;cases j with
  | zero =>
   simp only [List.getElem?_cons_zero,Option.some.injEq] at e1 e2;subst e1;subst e2;show putU (upd H a (.tup r)) as rs a=some (.tup r);rw [putU_off as rs _ hn'.1,upd_same]
  | succ j =>
   rw [List.getElem?_cons_succ] at e1 e2;exact putU_at as rs _ (Nat.succ.inj h) hn'.2 j b q e1 e2
theorem po_put {f H:Hp}:∀(as:List Addr) (rs:List (List V)) (f1 H1:Hp),Po f H f1 H1→(∀t∈as,H1 t=none)→as.Nodup→Po f H (putU f1 as rs) (putU H1 as rs)
 | [],_,_,_,q,_,_=>q
 | _::_,[],_,_,q,_,_=>q
 | a::as,r::rs,f1,H1,q,h,hn=>by
  have hn':=List.nodup_cons.mp hn;refine po_put as rs _ _ (q.new (o := .tup r) (h a List.mem_cons_self)) (fun t ht=>?_) hn'.2;rw [upd_ne (fun e=>hn'.1 (by rw [←e];exact ht))];exact h t (List.mem_cons_of_mem _ ht)
theorem same_put:∀(as:List Addr) (rs:List (List V)) (f1:Hp),(∀t∈as,f1 t=none)→as.Nodup→Same f1 (putU f1 as rs)
 | [],_,f1,_,_=>Same.refl f1
 | _::_,[],f1,_,_=>Same.refl f1
 | a::as,r::rs,f1,h,hn=>by
  have hn':=List.nodup_cons.mp hn;have s1:Same f1 (upd f1 a (.tup r)):=fun b o x=>by
   rw [upd_ne (ne_of_none x (h a List.mem_cons_self))];exact x
  refine s1.trans (same_put as rs _ (fun t ht=>?_) hn'.2);rw [upd_ne (fun e=>hn'.1 (by rw [←e];exact ht))];exact h t (List.mem_cons_of_mem _ ht)
theorem refs_vals:∀as:List Addr,Vals (as.map V.ref) (as.map Value.ref)
 | [] => .nil
 | _::as => .cons rfl (refs_vals as)
theorem rows_laid {X:Cx} {pins:List (Addr×Obj)} {σ:L2.St} {H:Hp} {s:Shared} {h':Heap} {tk c:Nat} {acc:Array Value} {as:List Addr} {rs:List (List V)} (I:Inv X pins σ H s) (hz:as.length≤sizeLine) (hr:as.length=rs.length)
  (hk:∀b o,s.heap.get? b=some o→h'.get? b=some o) (hS:h'.get? s.heap.objs.size=some { cls := .type "list", dict:=none,data := .seq acc c,slots := #[] }) (hacc:acc.toList=as.map Value.ref) (ab:∀a∈as,s.heap.objs.size<a) (nd:as.Nodup)
  (hp:∀(j:Nat) (a:Addr) (r:List V),as[j]?=some a→rs[j]?=some r→r.length≤sizeLine∧∃its:List Value,Vals r its∧IsTup h' a its.toArray) :
  (H s.heap.objs.size=none∧(∀t∈as,H t=none)∧s.heap.objs.size ∉ as)∧Inv X pins σ (putU (upd H s.heap.objs.size (.lst (as.map V.ref))) as rs) { s with heap:=h',toks:=tk }:=by
 have hSn:s.heap.objs.size ∉ as:=fun z=>Nat.lt_irrefl _ (ab _ z);have new:∀t∈as,H t=none:=fun t ht=>I.hok.fresh (Nat.le_of_lt (ab t ht));have newS:H s.heap.objs.size=none:=I.hok.fresh (Nat.le_refl _);have atP:=putU_at as rs (upd H s.heap.objs.size (.lst (as.map V.ref))) hr nd;have off:∀b,b ∉ as→b≠s.heap.objs.size→putU (upd H s.heap.objs.size (.lst (as.map V.ref))) as rs b=H b:=fun b h1 h2=>by rw [putU_off as rs _ h1,upd_ne h2]
 have low:∀b o,s.heap.get? b=some o→b ∉ as∧b≠s.heap.objs.size:=fun b o e=>⟨fun z=>absurd (Heap.lt_size e) (Nat.not_lt.mpr (Nat.le_of_lt (ab b z))),Nat.ne_of_lt (Heap.lt_size e)⟩;have kp:∀b u,H b=some u→(putU (upd H s.heap.objs.size (.lst (as.map V.ref))) as rs) b=some u:=fun b u e=>by
  rw [off b (fun z=>by rw [new b z] at e;cases e) (fun z=>by rw [z,newS] at e;cases e)];exact e
 have eS:putU (upd H s.heap.objs.size (.lst (as.map V.ref))) as rs s.heap.objs.size=some (.lst (as.map V.ref)):=by rw [putU_off as rs _ hSn,upd_same]
 refine ⟨⟨newS,new,hSn⟩,?_⟩;refine I.call' (ch:=[]) rfl ⟨fun b o q _ _ _=>hk b o q,fun b o q _ _ _=>⟨o.slots,hk b o q⟩,fun b o q n _=>?_,fun b o q _=>⟨o,hk b o q⟩,fun b xs q=>kp b _ q,fun b o u q=>kp b _ q,fun b ps q=>⟨#[],by rw [kp b _ q];simp⟩⟩ (fun b u q=>?_) I.bare fun b z=>by simp at z
 ·obtain ⟨z1,z2⟩:=low b o q;rw [off b z1 z2];exact n
 ·by_cases hb:b∈as
  ·obtain ⟨j,e1⟩:=List.mem_iff_getElem?.mp hb;have hj:j<rs.length:=by rw [←hr];exact (List.getElem?_eq_some_iff.mp e1).1
   have e2:rs[j]?=some rs[j]:=List.getElem?_eq_getElem hj;rw [atP j b _ e1 e2] at q;cases q;exact hp j b _ e1 e2
  ·by_cases hb2:b=s.heap.objs.size
   ·rw [hb2] at q ⊢;rw [eS] at q;cases q;refine ⟨by rw [List.length_map];omega,acc.toList,c,by rw [hacc];exact refs_vals as,?_⟩;rw [Array.toArray_toList];exact hS
   ·rw [off b hb hb2] at q;exact (I.hok b u q).stay (fun d v _ y=>hk d v y) (fun d y=>kp d _ y) fun d xs y=>kp d _ y
inductive DkW (K:PySem.W.Frag) (f:Hp):List (D×D)→List (NestedKey×Addr×Value)→List (Addr×V)→Prop
 | nil:DkW K f [] [] []
 | cons {k d:D} {n:NestedKey} {a:Addr} {v:V} {u:Value} {r:List (D×D)} {xs:List (NestedKey×Addr×Value)} {ws:List (Addr×V)} (ha:Dp K f (.ref a) k) (hu:RelV v u) (hd:Dp K f v d) (t:DkW K f r xs ws):DkW K f ((k,d)::r) ((n,a,u)::xs) ((a,v)::ws)
theorem dk_ws {K:PySem.W.Frag} {f:Hp}:∀{kvs:List (D×D)} {xs:List (NestedKey×Addr×Value)},DkAll K f kvs xs→∃ws,DkW K f kvs xs ws
 | _,_,.nil=>⟨[],.nil⟩
 | _,_,.cons _ ha hu hd t=>let ⟨ws,h⟩:=dk_ws t;⟨_::ws,.cons ha hu hd h⟩
section
variable {K:PySem.W.Frag} {f:Hp}
theorem DkW.len:∀{kvs xs ws},DkW K f kvs xs ws→ws.length=xs.length∧ws.length=kvs.length
 | _,_,_,.nil=>⟨rfl,rfl⟩
 | _,_,_,.cons _ _ _ t=>by simp [t.len.1,←t.len.2]
theorem DkW.at:∀{kvs xs ws},DkW K f kvs xs ws→∀(j:Nat) (n:NestedKey) (a:Addr) (u:Value),xs[j]?=some (n,a,u)→∃v,ws[j]?=some (a,v)∧RelV v u
 | _,_,_,.nil,j,_,_,_,h=>by simp at h
 | _,_,_,.cons ha hu hd t,0,n,a,u,h=>by
  simp only [List.getElem?_cons_zero,Option.some.injEq,Prod.mk.injEq] at h;obtain ⟨rfl,rfl,rfl⟩:=h;exact ⟨_,rfl,hu⟩
 | _,_,_,.cons ha hu hd t,j+1,n,a,u,h=>by
  rw [List.getElem?_cons_succ] at h ⊢;exact t.at j n a u h
def wRow (w:Addr×V):List V:=[.ref w.1,w.2]
theorem DkW.dpa {f':Hp} (sm:Same f f'):∀{kvs xs ws},DkW K f kvs xs ws→∀{as:List Addr},as.length=ws.length→(∀(j:Nat) (a:Addr) (w:Addr×V),as[j]?=some a→ws[j]?=some w→f' a=some (.tup (wRow w)))→DpAll K f' (as.map V.ref) (kvs.map fun x=>PyData.tuple [x.1,x.2])
 | _,_,_,.nil,[],_,_ => .nil
 | _,_,_,.nil,_::_,h,_=>by cases h
 | _,_,_,.cons ha hu hd t,[],h,_=>by cases h
 | _,_,_,.cons (a:=a0) (v:=v0) ha hu hd t,a::as,h,q=>by
  refine .cons (.tup (.inl (.inl (q 0 a _ rfl rfl))) (.cons (dp_same sm ha) (.cons (dp_same sm hd) .nil))) (t.dpa sm (Nat.succ.inj h) fun j b w e1 e2=>q (j+1) b w ?_ ?_)
  ·rw [List.getElem?_cons_succ];exact e1
  ·rw [List.getElem?_cons_succ];exact e2
end
def rListI (K:PySem.W.Frag):List V→Hp→VK→Prop:=fun xs H Q=>∃(v p:Addr) (es:List (NestedKey×Addr×Value)) (ws:List (Addr×V)) (kvs:List (D×D)) (f:Hp) (ep:Nat),xs=[.ref v]∧H v=some (viewI p v)∧H p=some (dicO es ep p)∧es.length≤sizeLine∧DkW K f kvs es ws ∧
 ∀l as,H l=none→(∀t∈as,H t=none)→l ∉ as→as.Nodup→as.length=ws.length→Q (.ref l) (putU (upd H l (.lst (as.map V.ref))) as (ws.map wRow))
section
variable {X:Cx}
theorem cr_listI (hc:X.calm=true):CallR X (.type "list") (rListI X.K):=by
 intro pins s σ H xs us Q I r h;obtain ⟨v,p,ks,ws,kvs,f,ep,rfl,hv,hH,hl,hw,q⟩:=h;obtain ⟨u,rfl,rx⟩:=r.one;obtain rfl:u=Value.ref v:=rx;obtain ⟨es,raw,he⟩:=raw_at I.hok hH;obtain ⟨view,_,_⟩:=(show ObjOk X.prog X.w H s.heap v (viewI p v) from I.hok v _ hv);have l1:es.size=ks.length:=by rw [←Array.length_toList,he,List.length_map]
 have l2:=hw.len;refine PySem.W.dil_call (I.ok.hd hc) view raw (by rw [l1];exact hl) fun h' tk acc c as kp hS hla hG hacc=>?_;have nd:as.Nodup:=List.Pairwise.imp (fun {a b} (h:a<b)=>Nat.ne_of_lt h) hG.rise;have key:∀(j:Nat) (a:Addr) (r:List V),as[j]?=some a→(ws.map wRow)[j]?=some r→r.length≤sizeLine∧∃its:List Value,Vals r its∧IsTup h' a its.toArray:=fun j a r e1 e2=>by
  obtain ⟨hj,e3⟩:=hG.pairs j a e1;have hj':j<ks.length:=by omega
  obtain ⟨⟨n,b,x⟩,hb⟩:∃z,ks[j]?=some z:=⟨ks[j],List.getElem?_eq_getElem hj'⟩;have h3:es.toList[j]?=some es[j]:=by rw [Array.getElem?_toList];exact Array.getElem?_eq_getElem hj
  rw [he,List.getElem?_map,hb] at h3;have h4:es[j]=⟨kh n,.ref b,x⟩:=(Option.some.inj h3).symm;obtain ⟨y,g1,g2⟩:=hw.at j n b x hb;rw [List.getElem?_map,g1] at e2;cases e2;rw [h4] at e3;exact ⟨by show 2≤sizeLine;decide,[.ref b,x],.cons rfl (.cons g2 .nil),⟨_,e3,rfl,_,rfl⟩⟩
 obtain ⟨⟨n1,n2,n3⟩,J⟩:=rows_laid (tk:=tk) (rs:=ws.map wRow) I (by omega) (by rw [List.length_map];omega) kp hS hacc hG.above nd key;exact ⟨.ref s.heap.objs.size,_,J,rfl,q _ as n1 n2 n3 nd (by omega)⟩
end
section
variable {L:Lk} {N:List Str} {sc:Nms} {W:WX} {X:Cx} {K:PySem.W.Frag}
theorem imp_ditl {i:Nat} {σ H Q} (h:dV L K W (.ditl i) σ H Q):tCB (rListI K) (tCons (tItemsN i) tNil) σ H Q:=by
 obtain ⟨f0,H0,f,en,m,ot⟩:=h;have ot:Out L.cls W σ f H (match en[i]? with
  | some (.dk kvs)=>R.ok (.list (kvs.map fun x=>PyData.tuple [x.1,x.2]),true)
  | _ => .no) (Ac K f H Q):=ot
 cases e:en[i]? with
 | none=>rw [e] at ot;exact ot.elim
 | some s =>
  rw [e] at ot;cases s with
  | dk kvs =>
   have ot:Ac K f H Q (.list (kvs.map fun x=>PyData.tuple [x.1,x.2]),true):=ot;obtain ⟨p,xs,ep,e1,hp,h0,hf,hH,hn,hl,hk⟩:=m.dk e;obtain ⟨ws,hw⟩:=dk_ws hk;refine ⟨p,xs,ep,e1,hp,hH,fun v hv=>?_⟩;refine ⟨v,p,xs,ws,kvs,f,ep,rfl,upd_same,by rw [upd_ne (ne_of_none hH hv)];exact hH,hl,hw,fun l as n1 n2 n3 nd hla=>?_⟩;have q1:Po f H f (upd H v (viewI p v)):=(Po.refl m.po.sub).newH hv;have q2:Po f H f (upd (upd H v (viewI p v)) l (.lst (as.map V.ref))):=q1.newH n1;have off:∀t∈as,upd (upd H v (viewI p v)) l (.lst (as.map V.ref)) t=none:=fun t ht=>by
    rw [upd_ne (fun z=>n3 (by rw [←z];exact ht))];exact n2 t ht
   have q3:=po_put as (ws.map wRow) _ _ q2 off nd;have fl:∀t∈as,f t=none:=fun t ht=>same_none q2.sub (off t ht);have f1:f l=none:=same_none q1.sub n1;refine ot _ _ _ q3 ⟨_,l,as.map V.ref,rfl,rfl,q1.sH.free n1,?_,?_,?_⟩
   ·rw [putU_off as _ _ n3];exact f1
   ·rw [putU_off as _ _ n3];exact upd_same
   ·refine hw.dpa (same_put as _ f fl nd) hla fun j a w g1 g2=>putU_at as _ f (by rw [List.length_map];exact hla) nd j a _ g1 ?_;rw [List.getElem?_map,g2];rfl
  | un=>exact ot.elim
  | va d=>exact ot.elim
  | ow d=>exact ot.elim
  | rd d=>exact ot.elim
  | er d=>exact ot.elim
  | fn d=>exact ot.elim
  | fd d=>exact ot.elim
  | dj d=>exact ot.elim
  | st d=>exact ot.elim
theorem ditl_of (xc:XC L N sc W X) {i:Nat} {f y m:Str} {fp py ap cp pos:Pos} (hf:(f==("list" : Str))=true) (hg:glOk sc f=true) (hy:nmOk N sc i y=true) (hm:(m==("items" : Str))=true) (hl:(ap.endLine==cp.line)=true) :
  PE X (.Call (.Name f fp) [.Call (.Attribute (.Name y py) m ap) [] [] cp] [] pos) (dV L X.K W (.ditl i)):=by
 have e:=str_beq hf;subst e;have e:=str_beq hm;subst e;obtain ⟨g1,g2,g3⟩:=gl_of xc hg;obtain ⟨h1,h2,h3,h4⟩:=vis_of xc hy;exact PE.imp (pe_callTy (cr_listI xc.calm) g1 (blt_of xc (by decide +kernel)) (by decide +kernel) (pa_cons (pe_itemsN h1 h2 h3 h4 hl) pa_nil rfl) g3 g2 rfl rfl) fun σ H Q q=>imp_ditl q
end
section
variable {K:PySem.W.Frag} {f:Hp}
theorem intsD_at:∀{vs:List V} {ds:List D} {ns:List Int},DpAll K f vs ds→intsD ds=some ns→vs=ns.map V.int
 | _,_,_,.nil,e=>by cases e;rfl
 | _,_,_,.cons (v:=v) (d:=d) (ds:=ds) h t,e=>by
  cases h with
  | int i =>
   have e':(intsD ds).map (i :: ·)=some _:=e;cases e2:intsD ds with
   | none=>rw [e2] at e';cases e'
   | some r =>
    rw [e2] at e';cases e';rw [List.map_cons,intsD_at t e2]
  | _=>cases e
theorem tupsI_at:∀{vs:List V} {ds:List D} {ks:List (List Int)},DpAll K f vs ds→tupsI ds=some ks→∃ps:List (Addr×List Int),vs=ps.map (fun p=>V.ref p.1)∧ps.map (·.2)=ks∧∀p∈ps,SqT K f p.1 (p.2.map V.int)
 | _,_,_,.nil,e=>by cases e;exact ⟨[],rfl,rfl,fun p hp=>by cases hp⟩
 | _,_,_,.cons (v:=v) (d:=d) (ds:=ds) h t,e=>by
  cases h with
  | tup hs ha =>
   rename_i a us ys;have e':(match intsD ys with
    | some ns=>(tupsI ds).map (ns :: ·)
    | none=>none)=some _:=e
   cases e1:intsD ys with
   | none=>rw [e1] at e';cases e'
   | some ns =>
    rw [e1] at e';have e':(tupsI ds).map (ns :: ·)=some _:=e';cases e2:tupsI ds with
    | none=>rw [e2] at e';cases e'
    | some r =>
     rw [e2] at e';cases e';obtain ⟨ps,rfl,rfl,hp⟩:=tupsI_at t e2;have ev:=intsD_at ha e1;subst ev;refine ⟨(a,ns)::ps,rfl,rfl,fun p hp'=>?_⟩;rcases List.mem_cons.mp hp' with rfl | hp'
     ·exact hs
     ·exact hp p hp'
  | _=>cases e
end
section
variable {X:Cx}
theorem got_len {ks L:List (Addr×List Int)} (g:Got ks ks.length L) (n1:(L.map (·.2)).Nodup) (n2:(ks.map (·.2)).Nodup):L.length=ks.length:=by
 have h1:(L.map (·.2)).Perm (ks.map (·.2)):=(List.perm_ext_iff_of_nodup n1 n2).mpr fun x=>⟨fun hx=>by
   obtain ⟨p,hp,rfl⟩:=List.mem_map.mp hx;exact List.mem_map.mpr ⟨p,List.mem_of_mem_take (g.sub p hp),rfl⟩,fun hx=>by
   obtain ⟨p,hp,rfl⟩:=List.mem_map.mp hx;exact g.all p (by rw [List.take_length];exact hp)⟩
 have:=h1.length_eq;rw [List.length_map,List.length_map] at this;exact this
def tLenSet (K:PySem.W.Frag) (ta:TE):TE:=fun σ H Q=>ta σ H fun x H1=>∃l:Addr,x=V.ref l∧((∃ns:List Int,SqL K H1 l (ns.map V.int)∧ns.length<64∧ns.Nodup∧Q (.int ns.length) H1) ∨
 ∃ks:List (Addr×List Int),SqL K H1 l (ks.map fun p=>V.ref p.1)∧(∀p∈ks,SqT K H1 p.1 (p.2.map V.int))∧ks.length<64∧(ks.map (·.2)).Nodup∧Q (.int ks.length) H1)
theorem pe_lset {a:Expr} {ta:TE} {p p2 q pos:Pos} (hc:X.calm=true) (hu:X.A.units+65<cLine) (hg:Gl X "len") (hm:X.mg "len" = none) (hg2:Gl X "set") (hm2:X.mg "set" = none) (ha:PE X a ta)
  (na:starEach [a] X.env=(false,eval a X.env)::starEach [] X.env):PE X (.Call (.Name "len" p) [.Call (.Name "set" p2) [a] [] q] [] pos) (tLenSet X.K ta):=by
 refine ⟨fun pins s σ H Q I h=>?_⟩;refine Call_ (ld_blt I hg hm PySem.boot_len ?_);refine PyProof.Rows.callWith_builtin1 (PyProof.Rows.args_cons ?_ rfl) rfl rfl;refine Call_ (ld_blt I hg2 hm2 PyProof.Rows.boot_set ?_);refine PyProof.Rows.callWith_type1 (PyProof.Rows.args_cons (thn (ha.run pins s σ H _ I h) fun v s1 ⟨x,H1,I1,r1,q1⟩=>PyProof.Rows.args_nil ?_) na) na rfl;obtain ⟨l,rfl,q1⟩:=q1;cases r1;rcases q1 with ⟨ns,hq,h1,hnd,q1⟩ | ⟨ks,hq,hk,h1,hnd,q1⟩
 ·obtain ⟨its,r,pl,hz⟩:=I1.list hq;have hl:its.toArray.size=ns.length:=by rw [List.size_toArray,←r.length,List.length_map]
  refine call_set_list (I1.ok.hd hc) pl.isList (ns:=ns) (by simpa using r.ints) (by unfold scanBound;omega) fun h' tk hS hk=>?_;rw [hl,firstMet_nodup ns hnd ns.length (Nat.le_refl _),List.take_length] at hS;refine PyProof.Rows.args_nil ?_;obtain ⟨o,es,ep,t,ho,hex,hd,_,_,_,hf,hn⟩:=hS;have I2:Inv X pins σ H1 { s1 with heap:=h',toks:=tk }:=I1.kept fun b o e=>hk b o (Heap.lt_size e) e;refine call_len_set ho hex hd hf (by rw [hn] <;> omega) ⟨.int ns.length,H1,I2.tok _,⟨_,by rw [hn]⟩,q1⟩
 ·obtain ⟨its,rv,pl,hz⟩:=I1.list hq;refine call_set_tups (P:=X.prog) (w:=X.w) ks (I1.ok.hd hc) pl.isList (by simpa using refs_of_vals rv) (fun p hp=>I1.isT (hk p hp)) h1 (by omega) fun h' tk L es ep t R g k=>?_;refine PyProof.Rows.args_nil ?_;obtain ⟨o,ho,hex,hd⟩:=R.ob;have hn:es.size=ks.length:=by rw [R.size (s:={ s1 with heap:=h' })];exact got_len g R.nd hnd
  have hf:=R.fits (s:={ s1 with heap:=h' });have I2:Inv X pins σ H1 { s1 with heap:=h',toks:=tk }:=I1.kept k;refine call_len_set ho hex hd hf (by rw [hn] <;> omega) ⟨.int ks.length,H1,I2.tok _,⟨_,by rw [hn]⟩,q1⟩
end
section
variable {L:Lk} {N:List Str} {sc:Nms} {W:WX} {X:Cx} {K:PySem.W.Frag}
theorem imp_lset {a:E} {σ H Q} (h:dV L K W (.lset a) σ H Q):tLenSet K (dR L K W a) σ H Q:=by
 obtain ⟨f0,H0,f,en,m,ot⟩:=h;have o1:=Out.bind (show Out L.cls W σ f H ((rd1 a en (L.ev a en)).bind fun x=>(listR x).bind fun xs=>if lsetOk xs=true then v1 (.int xs.length) else .no) (Ac K f H Q) from ot);refine ⟨f0,H0,f,en,m,o1.imp (Po.refl m.po.sub) fun d _ h1 v f1 H1 q1 hv=>?_⟩;obtain ⟨xs,ex,h2⟩:=h1.bind.okk (listR_noex _);have ed:d = .list xs:=by
  cases d <;> first
   | (cases ex;done)
   | (cases ex;rfl)
 subst ed;by_cases hz:lsetOk xs=true
 ·rw [if_pos hz] at h2;obtain ⟨p,vs,rfl,hs,ha⟩:=hv.list q1.sub;have k:=(show Ac K f H Q (.int xs.length,false) from h2).mono q1;have k2:Q (.int xs.length) H1:=k _ f1 H1 (Po.refl q1.sub) (.int _);unfold lsetOk at hz;rw [Bool.and_eq_true,decide_eq_true_eq,Bool.or_eq_true] at hz;obtain ⟨z1,z2⟩:=hz;have hl:=ha.length;refine ⟨p,rfl,?_⟩;rcases z2 with z2 | z2
  ·cases e:intsD xs with
   | none=>rw [e] at z2;cases z2
   | some ns =>
    rw [e] at z2;have ev:=intsD_at ha e;subst ev;rw [List.length_map] at hl;exact .inl ⟨ns,hs,by omega,of_decide_eq_true z2,by rw [hl];exact k2⟩
  ·cases e:tupsI xs with
   | none=>rw [e] at z2;cases z2
   | some ks =>
    rw [e] at z2;obtain ⟨ps,rfl,rfl,hp⟩:=tupsI_at ha e;rw [List.length_map] at hl;exact .inr ⟨ps,hs,fun q hq=>sqt_same q1.sub (hp q hq),by omega,of_decide_eq_true z2,by rw [hl];exact k2⟩
 ·rw [if_neg hz] at h2;exact h2.elim
theorem lset_of (xc:XC L N sc W X) {a:E} {f g:Str} {b:Expr} {p1 p2 p3 p4:Pos} (hf:(f==("len" : Str))=true) (hg:(g==("set" : Str))=true) (gf:glOk sc f=true) (gg:glOk sc g=true) (hb:ckE L.T L.cons L.clsN N sc a b=true) (ib:PE X b (dV L X.K W a)) :
  PE X (.Call (.Name f p1) [.Call (.Name g p2) [b] [] p3] [] p4) (dV L X.K W (.lset a)):=by
 have e:=str_beq hf;subst e;have e:=str_beq hg;subst e;obtain ⟨g1,g2,g3⟩:=gl_of xc gf;obtain ⟨k1,k2,k3⟩:=gl_of xc gg;exact PE.imp (pe_lset xc.calm xc.units g1 (blt_of xc (by decide +kernel)) k1 (blt_of xc (by decide +kernel)) (sR_of xc hb ib) (star_of hb [])) fun σ H Q q=>imp_lset q
end
inductive KpA (K:PySem.W.Frag) (f:Hp):List V→List (D×D)→List (Addr×Addr×V)→Prop
 | nil:KpA K f [] [] []
 | cons {p b:Addr} {v:V} {k d:D} {vs:List V} {kvs:List (D×D)} {ts:List (Addr×Addr×V)} (hs:SqT K f p [.ref b,v]) (ko:keyOk k=true) (hb:Dp K f (.ref b) k) (hd:Dp K f v d) (t:KpA K f vs kvs ts):KpA K f (.ref p::vs) ((k,d)::kvs) ((p,b,v)::ts)
theorem kpairs_at {K:PySem.W.Frag} {f:Hp}:∀{vs:List V} {ds:List D} {kvs:List (D×D)},DpAll K f vs ds→kpairs ds=some kvs→∃ts,KpA K f vs kvs ts
 | _,_,_,.nil,e=>by cases e;exact ⟨[],.nil⟩
 | _,_,_,.cons (v:=v) (d:=d) (ds:=ds) h t,e=>by
  unfold kpairs at e;split at e
  ·rename_i e0;cases e0
  ·rename_i k d' r e0;cases e0;by_cases ko:keyOk k=true
   ·rw [if_pos ko] at e;cases e2:kpairs ds with
    | none=>rw [e2] at e;cases e
    | some r =>
     rw [e2] at e;cases e;obtain ⟨ts,ht⟩:=kpairs_at t e2;cases h with
     | tup hs ha =>
      cases ha with
      | cons h1 h2 =>
       cases h2 with
       | cons h2 h3 =>
        cases h3;obtain ⟨b,rfl⟩:=key_ref ko h1;exact ⟨_,.cons hs ko h1 h2 ht⟩
   ·rw [if_neg ko] at e;cases e
  ·cases e
section
variable {X:Cx} {pins:List (Addr×Obj)} {σ:L2.St} {H f:Hp} {s:Shared}
theorem kp_at (I:Inv X pins σ H s) (sm:Same f H):∀{vs:List V} {kvs:List (D×D)} {ts:List (Addr×Addr×V)},KpA X.K f vs kvs ts→∀{us:List Value},Vals vs us→us=ts.map (fun t=>Value.ref t.1)∧∃zs:List (NestedKey×Addr×Value),zs.length=ts.length ∧
  (∀(j:Nat) (z:NestedKey×Addr×Value),zs[j]?=some z→∃t,ts[j]?=some t∧PairAt s.heap t.1 (.ref z.2.1) z.2.2)∧(∀z∈zs,(nestedKind X.prog X.w).is s.heap z.1 z.2.1) ∧
  ∀kvs0 xs0,DkAll X.K f kvs0 xs0→DkAll X.K f (dmerge kvs0 kvs) (storedAllH xs0 zs)
 | _,_,_,.nil,us,r=>by
  cases r;exact ⟨rfl,[],rfl,(fun j z h=>by simp at h),(fun z h=>nomatch h),fun kvs0 xs0 h=>h⟩
 | _,_,_,.cons (p:=p) (b:=b) (v:=v) (k:=k) (d:=d) hs ko hb hd t,us,r=>by
  cases r with
  | cons r1 r2 =>
   cases r1;obtain ⟨e,zs,l,h1,h2,h3⟩:=kp_at I sm t r2;obtain ⟨its,rv,tp,_⟩:=I.tuple (sqt_same sm hs);cases rv with
   | cons ra rb =>
    cases ra;cases rb with
    | cons rc rd =>
     rename_i u _;cases rd;refine ⟨by rw [List.map_cons,e],(nk k,b,u)::zs,by simp [l],fun j z h=>?_,fun z h=>?_,fun kvs0 xs0 h=>?_⟩
     ·cases j with
      | zero =>
       simp only [List.getElem?_cons_zero,Option.some.injEq] at h;subst h;exact ⟨_,rfl,.inl tp⟩
      | succ j =>
       rw [List.getElem?_cons_succ] at h ⊢;exact h1 j z h
     ·rcases List.mem_cons.mp h with rfl | h
      ·exact key_at I ko (dp_same sm hb)
      ·exact h2 z h
     ·exact h3 _ _ (put_at ko hb rc hd h)
end
def rDofN (K:PySem.W.Frag):List V→Hp→VK→Prop:=fun xs H Q=>∃(a:Addr) (vs:List V) (kvs:List (D×D)) (ts:List (Addr×Addr×V)) (f:Hp),xs=[.ref a]∧SqL K H a vs∧Same f H∧KpA K f vs kvs ts ∧
 ∀p ep ys,(p==sysModules)=false→H p=none→(ys.map (·.1)).Nodup→DkAll K f (dmerge [] kvs) ys→Q (.ref p) (upd H p (dicO ys ep p))
section
variable {X:Cx}
theorem cr_dofN (hc:X.calm=true) (hu:X.A.units+65<cLine):CallR X (.type "dict") (rDofN X.K):=by
 intro pins s σ H xs us Q I r h;obtain ⟨a,vs,kvs,ts,f,rfl,hq,sm,hk,q⟩:=h;obtain ⟨u,rfl,rx⟩:=r.one;obtain rfl:u=Value.ref a:=rx;obtain ⟨its,rv,pl,hz⟩:=I.list hq;obtain ⟨ei,zs,l,h1,h2,h3⟩:=kp_at I sm hk rv;have hn:H s.heap.objs.size=none:=I.hok.fresh (Nat.le_refl _);have li:its.length=ts.length:=by rw [ei,List.length_map]
 have lv:vs.length=ts.length:=by rw [rv.length,li]
 refine PySem.call_dict_pairsH (knd:=nestedKind X.prog X.w) (ps:=zs) (PairArg.list a its.toArray (fun j=>((ts[j]?).map (·.1)).getD 0) (zs.map fun z=>(Value.ref z.2.1,z.2.2))) (I.ok.hd hc) (by show X.A.in1.in1.units+8<cLine;rw [Around.in1_units,Around.in1_units];omega) ⟨?_,?_,fun j k v e=>?_⟩ ⟨?_,fun i key v e=>?_⟩ ?_ ?_ fun h' tk hd' kp=>?_
 ·obtain ⟨o,n,ho,hc,hd,hdat⟩:=pl;exact ⟨o,n,ho,hc,hd,hdat⟩
 ·rw [List.size_toArray,List.length_map,l,li]
 ·rw [List.getElem?_map] at e;cases ez:zs[j]? with
  | none=>rw [ez] at e;cases e
  | some z =>
   rw [ez] at e;cases e;obtain ⟨t,e1,e2⟩:=h1 j z ez;have e5:(fun j=>((ts[j]?).map (·.1)).getD 0) j=t.1:=by
    show ((ts[j]?).map (·.1)).getD 0=t.1;rw [e1];rfl
   rw [e5];refine ⟨?_,e2⟩;rw [List.getElem?_toArray,ei,List.getElem?_map,e1];rfl
 ·rw [List.length_map]
 ·have e:(zs.map fun z=>(Value.ref z.2.1,z.2.2))[i]?=some (key,v):=e;rw [List.getElem?_map] at e;cases ez:zs[i]? with
  | none=>rw [ez] at e;cases e
  | some z =>
   rw [ez] at e;cases e;exact ⟨z.1,z.2.1,rfl,rfl⟩
 ·intro h'' hk'' x hx;exact ⟨NestedIs.at (fun b o vs n e _=>hk'' b o (Nat.ne_of_lt (Heap.lt_size e)) (by simp) e) _ _ (h2 x hx).1,(h2 x hx).2⟩
 ·rw [List.length_map];omega
 ·have dk:=h3 [] [] .nil;have nd:((storedAllH [] zs).map (·.1)).Nodup:=let ⟨_,_,_,_,_,_,_,_,h5⟩:=hd';h5
  obtain ⟨ep,ok⟩:=dicO_new (P:=X.prog) (w:=X.w) (H:=upd H s.heap.objs.size (dicO [] 0 s.heap.objs.size)) dk hd';refine ⟨.ref s.heap.objs.size,_,I.laid (a:=s.heap.objs.size) (o:=dicO (storedAllH [] zs) ep s.heap.objs.size) (t':=tk) (fun b o e=>kp b o (by simp) e) (Nat.le_refl _) ok,rfl,q _ ep _ (beq_eq_false_iff_ne.mpr (Nat.ne_of_gt I.big)) hn nd dk⟩
end
section
variable {L:Lk} {N:List Str} {sc:Nms} {W:WX} {X:Cx} {K:PySem.W.Frag}
theorem imp_dpix {a k:E} {σ H Q} (h:dV L K W (.dpix a k) σ H Q):tOp (rDix K) (tCB (rDofN K) (tCons (dR L K W a) tNil)) (dV L K W k) σ H Q:=by
 obtain ⟨f0,H0,f,en,m,ot⟩:=h;have o1:=Out.bind (show Out L.cls W σ f H ((rd1 a en (L.ev a en)).bind fun x=>(listR x).bind fun xs=>(match kpairs xs with
  | some kvs=>(L.ev k en).bind fun kd=>if keyOk kd.1=true then (match dlook (dmerge [] kvs) kd.1 with
   | some d=>v1 d
   | none => .no) else .no
  | none => .no)) (Ac K f H Q) from ot)
 refine ⟨f0,H0,f,en,m,o1.imp (Po.refl m.po.sub) fun d _ h1 v f1 H1 q1 hv=>?_⟩;obtain ⟨xs,ex,h2⟩:=h1.bind.okk (listR_noex _);have ed:d = .list xs:=by
  cases d <;> first
   | (cases ex;done)
   | (cases ex;rfl)
 subst ed;obtain ⟨p,vs,rfl,hs,ha⟩:=hv.list q1.sub;cases ek:kpairs xs with
 | none=>rw [ek] at h2;exact h2.elim
 | some kvs =>
  rw [ek] at h2;obtain ⟨ts,ht⟩:=kpairs_at ha ek;refine ⟨p,vs,kvs,ts,f1,rfl,hs,q1.sub,ht,fun r ep ys hr hn nd hk=>?_⟩;have q2:Po f H f1 (upd H1 r (dicO ys ep r)):=q1.newH hn;refine ⟨f0,H0,f1,en,m.mono q2,h2.bind.imp q2 fun kd _ h3 w f2 H2 q3 hw=>?_⟩;obtain ⟨f3,q4,hw2⟩:=hw.settle q3;by_cases ko:keyOk kd.1=true
  ·rw [if_pos ko] at h3;obtain ⟨b,rfl⟩:=key_ref ko hw2;cases ed:dlook (dmerge [] kvs) kd.1 with
   | none=>rw [ed] at h3;exact h3.elim
   | some d =>
    rw [ed] at h3;exact ⟨r,b,ys,dmerge [] kvs,kd.1,f3,ep,rfl,rfl,q4.sH.k upd_same,nd,hk.same q4.sf,q4.sub,ko,hw2,d,ed,fun z hz=>(show Ac K f H Q (d,false) from h3) z f3 H2 (q2.trans q4) hz⟩
  ·rw [if_neg ko] at h3;exact h3.elim
theorem dpix_of (xc:XC L N sc W X) {a k:E} {f:Str} {b y:Expr} {p1 p2 p3:Pos} (hf:(f==("dict" : Str))=true) (hg:glOk sc f=true) (hp:plainE y=true) (hb:ckE L.T L.cons L.clsN N sc a b=true) (ib:PE X b (dV L X.K W a)) (ik:PE X y (dV L X.K W k)) :
  PE X (.Subscript (.Call (.Name f p1) [b] [] p2) y p3) (dV L X.K W (.dpix a k)):=by
 have e:=str_beq hf;subst e;obtain ⟨g1,g2,g3⟩:=gl_of xc hg;have pl:(backTo p2 (starEach ([]:List Expr) X.env)).any (·.1)=false:=rfl;exact PE.imp (pe_dix xc.units (pe_callTy (cr_dofN xc.calm xc.units) g1 (blt_of xc (by decide +kernel)) (by decide +kernel) (pa_cons (sR_of xc hb ib) pa_nil (star_of hb [])) g3 g2 (star_of hb []) pl) ik (noSl_of hp)) fun σ H Q q=>imp_dpix q
end
end AW
namespace AW
open PySem PySem.Spec PyProof.Rows L2
variable [CdT] [StA]
theorem not_false {a:Bool} (h:(!a)=true):a=false:=by cases a <;> simp_all
theorem pw_of {X:Cx} {op:BoolOp} {es:List Expr} {p:Pos} {t:TT} (h:PT X (.BoolOp op es p) t):PW X (.BoolOp op es p) t:=⟨fun _ pins s σ H Q I z=>h.run pins s σ H Q I z⟩
section
variable {L:Lk}
mutual
theorem sE:∀(x:E) {N:List Str} {sc:Nms} {W:WX} {X:Cx} (_:XC L N sc W X) (e:Expr),ckE L.T L.cons L.clsN N sc x e=true→PE X e (dV L X.K W x)
 | .var i,N,sc,W,X,xc,e,h=>by
  unfold ckE at h;split at h
  ·obtain ⟨h1,h2,h3,h4⟩:=vis_of xc h;exact PE.imp (pe_var h1 h2 h3 h4) fun σ H Q q=>imp_var q
  ·cases h
 | .peek i,N,sc,W,X,xc,e,h=>by
  unfold ckE at h;split at h
  ·obtain ⟨h1,h2,h3,h4⟩:=vis_of xc h;exact PE.imp (pe_var h1 h2 h3 h4) fun σ H Q ⟨f0,H0,f,en,m,ot⟩=>(show False from ot).elim
  ·cases h
 | .con d,N,sc,W,X,xc,e,h=>by
  unfold ckE at h;split at h
  ·exact con_of h
  ·cases h
 | .emp,N,sc,W,X,xc,e,h=>by
  unfold ckE at h;split at h
  ·exact emp_of
  ·cases h
 | .glb j,N,sc,W,X,xc,e,h=>by
  unfold ckE at h;split at h
  ·obtain ⟨h1,h2⟩:=and2 h;exact glb_of xc h1 h2
  ·cases h
 | .tup es,N,sc,W,X,xc,e,h=>by
  unfold ckE at h;split at h
  ·exact PE.imp (pe_tup (sEs es xc _ h)) fun σ H Q q=>imp_tup q
  ·cases h
 | .lst es,N,sc,W,X,xc,e,h=>by
  unfold ckE at h;split at h
  ·exact PE.imp (pe_lst (sEs es xc _ h)) fun σ H Q q=>imp_lst q
  ·cases h
 | .rep es n,N,sc,W,X,xc,e,h=>by
  unfold ckE at h;split at h
  ·obtain ⟨h1,h2⟩:=and2 h;exact PE.imp (pe_op op_rep (pe_lst (sEs es xc _ h1)) (sE n xc _ h2)) fun σ H Q q=>imp_rep q
  ·cases h
 | .op1 o a,N,sc,W,X,xc,e,h=>by
  unfold ckE at h;split at h
  ·obtain ⟨h1,h2⟩:=and2 h;cases o <;> first
    | (cases h1;done)
    | exact PE.imp (pe_un un_A (sR_of xc h2 (sE a xc _ h2))) fun σ H Q q=>imp_op1 q
  ·obtain ⟨h1,h2⟩:=and2 h;obtain ⟨h3,h4⟩:=and2 h1;exact call1_blt xc h3 h4 h2 (sE a xc _ h2)
  ·cases h
 | .op2 o a b,N,sc,W,X,xc,e,h=>by
  unfold ckE at h;split at h
  ·obtain ⟨h1,h2⟩:=and2 h;obtain ⟨h3,h4⟩:=and2 h1;exact PE.imp (pe_op (op_bin xc.py h3) (sR_of xc h4 (sE a xc _ h4)) (sR_of xc h2 (sE b xc _ h2))) fun σ H Q q=>imp_op2 q
  ·obtain ⟨h1,h2⟩:=and2 h;obtain ⟨h3,h4⟩:=and2 h1;obtain ⟨h5,h6⟩:=and2 h3;exact PE.imp (pe_cmpR (op_cmp xc.units h5) (sR_of xc h4 (sE a xc _ h4)) (sR_of xc h2 (sE b xc _ h2)) (not_false h6)) fun σ H Q q=>imp_op2 q
  ·obtain ⟨h1,h2⟩:=and2 h;obtain ⟨h3,h4⟩:=and2 h1;obtain ⟨h5,h6⟩:=and2 h3;cases o <;> first
    | (cases h5;done)
    | exact PE.imp (pe_ix ix_A (sR_of xc h6 (sE a xc _ h6)) (sR_of xc h4 (sE b xc _ h4)) (plain_ix h2)) fun σ H Q q=>imp_op2 q
  ·obtain ⟨h1,h2⟩:=and2 h;obtain ⟨h3,h4⟩:=and2 h1;obtain ⟨h5,h6⟩:=and2 h3;exact call2_blt xc h5 h6 h4 h2 (sE a xc _ h4) (sE b xc _ h2)
  ·cases h
 | .chn o p a b c,N,sc,W,X,xc,e,h=>by
  unfold ckE at h;split at h
  ·obtain ⟨h,c3⟩:=and2 h;obtain ⟨h,c2⟩:=and2 h;obtain ⟨h,c1⟩:=and2 h;obtain ⟨h,hm⟩:=and2 h;obtain ⟨h1,h2⟩:=and2 h;exact PE.imp (pe_chain (op_cmp xc.units h1) (op_cmp xc.units h2) (sR_of xc c1 (sE a xc _ c1)) (sR_of xc c2 (sE b xc _ c2)) (sR_of xc c3 (sE c xc _ c3)) (not_false hm)) fun σ H Q q=>imp_chn h1 q
  ·cases h
 | .and a b,N,sc,W,X,xc,e,h=>by
  unfold ckE at h;split at h
  ·obtain ⟨h1,h2⟩:=and2 h;exact PE.imp (pe_andT (sE a xc _ h1) (pe_one (sE b xc _ h2))) fun σ H Q q=>imp_and q
  ·obtain ⟨h1,h2⟩:=and2 h;exact PE.imp (pe_andT (sE a xc _ h1) (sE b xc _ h2)) fun σ H Q q=>imp_and q
  ·cases h
 | .or a b,N,sc,W,X,xc,e,h=>by
  unfold ckE at h;split at h
  ·obtain ⟨h1,h2⟩:=and2 h;exact PE.imp (pe_orT (sE a xc _ h1) (pe_one (sE b xc _ h2))) fun σ H Q q=>imp_or q
  ·obtain ⟨h1,h2⟩:=and2 h;exact PE.imp (pe_orT (sE a xc _ h1) (sE b xc _ h2)) fun σ H Q q=>imp_or q
  ·cases h
 | .not a,N,sc,W,X,xc,e,h=>by
  unfold ckE at h;split at h
  ·exact PE.imp (pe_notT (sR_of xc h (sE a xc _ h))) fun σ H Q q=>imp_not q
  ·cases h
 | .ife t a b,N,sc,W,X,xc,e,h=>by
  unfold ckE at h;split at h
  ·obtain ⟨h,h3⟩:=and2 h;obtain ⟨h1,h2⟩:=and2 h;exact PE.imp (pe_ifExp (sT t xc _ h1) (sE a xc _ h2) (sE b xc _ h3)) fun σ H Q q=>imp_ife q
  ·cases h
 | .slc a lo hi,N,sc,W,X,xc,e,h=>by
  unfold ckE at h;split at h
  ·obtain ⟨h,h3⟩:=and2 h;obtain ⟨h1,h2⟩:=and2 h;exact PE.imp (pe_slice sl_A (sR_of xc h1 (sE a xc _ h1)) (sO lo xc _ h2) (sO hi xc _ h3)) fun σ H Q q=>imp_slc q
  ·cases h
 | .revs a,N,sc,W,X,xc,e,h=>by
  unfold ckE at h;split at h
  ·exact PE.imp (pe_revA (sR_of xc h (sE a xc _ h))) fun σ H Q q=>imp_revs q
  ·cases h
 | .trev a,N,sc,W,X,xc,e,h=>by
  unfold ckE at h;split at h
  ·obtain ⟨h,h5⟩:=and2 h;obtain ⟨h,h4⟩:=and2 h;obtain ⟨h,h3⟩:=and2 h;obtain ⟨h1,h2⟩:=and2 h;have en:=str_beq h1;subst en;have en:=str_beq h2;subst en;exact PE.imp (RT.pe_tupRev xc.calm (gl_of xc h3).1 (blt_of xc (by decide +kernel)) (gl_of xc h4).1 (blt_of xc (by decide +kernel)) (sR_of xc h5 (sE a xc _ h5)) (star_of h5 [])) fun σ H Q q=>imp_trev q
  ·cases h
 | .repE a n,N,sc,W,X,xc,e,h=>by
  unfold ckE at h;split at h
  ·obtain ⟨h1,h2⟩:=and2 h;exact PE.imp (pe_op op_rep (sE a xc _ h1) (sE n xc _ h2)) fun σ H Q q=>imp_repE q
  ·cases h
 | .call j es m,N,sc,W,X,xc,e,h=>by
  unfold ckE at h;split at h
  ·obtain ⟨h,h3⟩:=and2 h;obtain ⟨h1,h2⟩:=and2 h;exact call_of xc h1 h2 h3 (sAs es xc _ h3)
  ·cases h
 | .callv j es m,N,sc,W,X,xc,e,h=>by
  unfold ckE at h;split at h
  ·obtain ⟨h,h3⟩:=and2 h;obtain ⟨h1,h2⟩:=and2 h;exact callv_of xc h1 h2 h3 (sAs es xc _ h3)
  ·cases h
 | .dget i k x,N,sc,W,X,xc,e,h=>by
  unfold ckE at h;split at h
  ·obtain ⟨h,h5⟩:=and2 h;obtain ⟨h,h4⟩:=and2 h;obtain ⟨h,h3⟩:=and2 h;obtain ⟨h1,h2⟩:=and2 h;exact dget_of xc h1 h2 h3 h4 h5 (sE k xc _ h3) (sE x xc _ h4)
  ·cases h
 | .dvals i,N,sc,W,X,xc,e,h=>by
  unfold ckE at h;split at h
  ·obtain ⟨h,h5⟩:=and2 h;obtain ⟨h,h4⟩:=and2 h;obtain ⟨h,h3⟩:=and2 h;obtain ⟨h1,h2⟩:=and2 h;exact dvals_of xc h1 h2 h3 h4 h5
  ·cases h
 | .dne i,N,sc,W,X,xc,e,h=>by
  unfold ckE at h;split at h
  ·exact dne_of xc h
  ·cases h
 | .dkeys i,N,sc,W,X,xc,e,h=>by
  unfold ckE at h;split at h
  ·obtain ⟨h,h3⟩:=and2 h;obtain ⟨h1,h2⟩:=and2 h;exact dkeys_of xc h1 h2 h3
  ·cases h
 | .fnv n,N,sc,W,X,xc,e,h=>by
  unfold ckE at h;split at h
  ·obtain ⟨hn,n3⟩:=and2 h;obtain ⟨n1,n2⟩:=and2 hn;have e:=str_beq n1;subst e;obtain ⟨g1,g2,g3⟩:=gl_of xc n2;exact PE.imp (pe_glob g1 (fga_of xc.lk n3) (show RelV (.ref _) (.ref _) from rfl) g2) fun σ H Q ⟨f0,H0,f,en,m,ot⟩=>(show False from ot).elim
  ·cases h
 | .callL i cs es,N,sc,W,X,xc,e,h=>by
  unfold ckE at h;split at h
  ·obtain ⟨h,h3⟩:=and2 h;obtain ⟨h1,h2⟩:=and2 h;exact callL_of xc h1 h2 h3 (sAs es xc _ h3)
  ·cases h
 | .mth o a b,N,sc,W,X,xc,e,h=>by
  unfold ckE at h;split at h
  ·obtain ⟨h,h4⟩:=and2 h;obtain ⟨h,h3⟩:=and2 h;obtain ⟨h1,h2⟩:=and2 h;exact mth_of xc h1 h2 h3 h4 (sE a xc _ h2) (sE b xc _ h3)
  ·cases h
 | .rfd j ks e0,N,sc,W,X,xc,e,h=>by
  unfold ckE at h;split at h
  ·obtain ⟨h,h6⟩:=and2 h;obtain ⟨h,h5⟩:=and2 h;obtain ⟨h,h4⟩:=and2 h;obtain ⟨h,h3⟩:=and2 h;obtain ⟨h1,h2⟩:=and2 h;exact rfd_of xc h1 h2 h3 h4 h5 fun xc'=>sE e0 xc' _ h6
  ·cases h
 | .erv i,N,sc,W,X,xc,e,h=>by
  unfold ckE at h;split at h
  ·obtain ⟨h1,h2,h3,h4⟩:=vis_of xc h;exact PE.imp (pe_var h1 h2 h3 h4) fun σ H Q ⟨f0,H0,f,en,m,ot⟩=>(show False from ot).elim
  ·cases h
 | .isE i ks ts,N,sc,W,X,xc,e,h=>by
  unfold ckE at h;split at h
  ·obtain ⟨h,h6⟩:=and2 h;obtain ⟨h,h5⟩:=and2 h;obtain ⟨h,h4⟩:=and2 h;obtain ⟨h,h3⟩:=and2 h;obtain ⟨h,h2⟩:=and2 h;obtain ⟨h1,hl⟩:=and2 h;exact isET_of xc h1 (of_decide_eq_true hl) h2 h3 h4 h5 h6
  ·obtain ⟨h,h6⟩:=and2 h;obtain ⟨h,h5⟩:=and2 h;obtain ⟨h,h4⟩:=and2 h;obtain ⟨h,h3⟩:=and2 h;obtain ⟨h1,h2⟩:=and2 h;exact isE1_of xc h1 h2 h3 h4 h5 h6
  ·cases h
 | .isN i g,N,sc,W,X,xc,e,h=>by
  unfold ckE at h;split at h
  ·obtain ⟨h1,h2⟩:=and2 h;exact isN_of xc h1 h2
  ·cases h
 | .isi a ts,N,sc,W,X,xc,e,h=>by
  unfold ckE at h;split at h
  ·obtain ⟨h,h4⟩:=and2 h;obtain ⟨h,h3⟩:=and2 h;obtain ⟨h,h2⟩:=and2 h;obtain ⟨h1,hl⟩:=and2 h;exact isi_of xc h1 (of_decide_eq_true hl) h2 h3 h4 (sE a xc _ h3)
  ·obtain ⟨h,h4⟩:=and2 h;obtain ⟨h,h3⟩:=and2 h;obtain ⟨h1,h2⟩:=and2 h;exact isi1_of xc h1 h2 h3 h4 (sE a xc _ h3)
  ·cases h
 | .cmp elt tg it ifs own,N,sc,W,X,xc,e,h=>by
  unfold ckE at h;split at h
  ·obtain ⟨h,h6⟩:=and2 h;obtain ⟨h,h5⟩:=and2 h;obtain ⟨h,h4⟩:=and2 h;obtain ⟨h,h3⟩:=and2 h;obtain ⟨h1,h2⟩:=and2 h;rename_i elt' tg' it' ifs' scope pos;have ht:∀i∈tgSlots tg,i∈own.map (·.2):=fun i hi=>List.contains_iff_mem.mp (List.all_eq_true.mp h4 i hi);exact PE.imp (pe_lc xc.calm xc.nd (sI it xc _ _ h1) (blk_ok xc h2) (fun s H C cl fp=>sTg (xc.blk h2 s H C cl fp) tg _ h3) (fun s H C cl fp=>sIf ifs (xc.blk h2 s H C cl fp) _ h5) (fun s H C cl fp=>sE elt (xc.blk h2 s H C cl fp) _ h6) (sFold it _ _ h1)) fun σ H Q q=>imp_cmp ht q
  ·cases h
 | .srt a,N,sc,W,X,xc,e,h=>by
  unfold ckE at h;split at h
  ·obtain ⟨h,h3⟩:=and2 h;obtain ⟨h1,h2⟩:=and2 h;exact srt_of xc h1 h2 h3 (sE a xc _ h3)
  ·cases h
 | .dsrt i,N,sc,W,X,xc,e,h=>by
  unfold ckE at h;split at h
  ·obtain ⟨h,h3⟩:=and2 h;obtain ⟨h1,h2⟩:=and2 h;exact dsrt_of xc h1 h2 h3
  ·cases h
 | .dix i k,N,sc,W,X,xc,e,h=>by
  unfold ckE at h;split at h
  ·obtain ⟨h,h3⟩:=and2 h;obtain ⟨h1,h2⟩:=and2 h;exact dix_of xc h1 h2 (sE k xc _ h3)
  ·cases h
 | .jget i k x,N,sc,W,X,xc,e,h=>by
  unfold ckE at h;split at h
  ·obtain ⟨h,h5⟩:=and2 h;obtain ⟨h,h4⟩:=and2 h;obtain ⟨h,h3⟩:=and2 h;obtain ⟨h1,h2⟩:=and2 h;exact jget_of xc h1 h2 h3 h4 h5 (sE k xc _ h3) (sE x xc _ h4)
  ·cases h
 | .jix i k,N,sc,W,X,xc,e,h=>by
  unfold ckE at h;split at h
  ·obtain ⟨h,h3⟩:=and2 h;obtain ⟨h1,h2⟩:=and2 h;exact jix_of xc h1 h2 (sE k xc _ h3)
  ·cases h
 | .jin i k g,N,sc,W,X,xc,e,h=>by
  unfold ckE at h;split at h
  ·obtain ⟨h,h3⟩:=and2 h;obtain ⟨h1,h2⟩:=and2 h;exact jin_of xc h1 h2 (sE k xc _ h3)
  ·cases h
 | .jlen i,N,sc,W,X,xc,e,h=>by
  unfold ckE at h;split at h
  ·obtain ⟨h,h3⟩:=and2 h;obtain ⟨h1,h2⟩:=and2 h;exact jlen_of xc h1 h2 h3
  ·cases h
 | .jsrt i,N,sc,W,X,xc,e,h=>by
  unfold ckE at h;split at h
  ·obtain ⟨h,h3⟩:=and2 h;obtain ⟨h1,h2⟩:=and2 h;exact jsrt_of xc h1 h2 h3
  ·cases h
 | .max4 a b c d,N,sc,W,X,xc,e,h=>by
  unfold ckE at h;split at h
  ·obtain ⟨h,h6⟩:=and2 h;obtain ⟨h,h5⟩:=and2 h;obtain ⟨h,h4⟩:=and2 h;obtain ⟨h,h3⟩:=and2 h;obtain ⟨h1,h2⟩:=and2 h;exact max4_of xc h1 h2 h3 h4 h5 h6 (sE a xc _ h3) (sE b xc _ h4) (sE c xc _ h5) (sE d xc _ h6)
  ·cases h
 | .cmpP elt tg i ifs own,N,sc,W,X,xc,e,h=>by
  unfold ckE at h;split at h
  ·obtain ⟨h,h6⟩:=and2 h;obtain ⟨h,h5⟩:=and2 h;obtain ⟨h,h4⟩:=and2 h;obtain ⟨h,h3⟩:=and2 h;obtain ⟨h1,h2⟩:=and2 h;obtain ⟨v1,v2,v3,v4⟩:=vis_of xc h1;have ht:∀i∈tgSlots tg,i∈own.map (·.2):=fun i hi=>List.contains_iff_mem.mp (List.all_eq_true.mp h4 i hi);exact PE.imp (pe_lc xc.calm xc.nd (pi_list (pe_var v1 v2 v3 v4)) (blk_ok xc h2) (fun s H C cl fp=>sTg (xc.blk h2 s H C cl fp) tg _ h3) (fun s H C cl fp=>sIf ifs (xc.blk h2 s H C cl fp) _ h5) (fun s H C cl fp=>sE elt (xc.blk h2 s H C cl fp) _ h6) (fun _=>rfl)) fun σ H Q q=>imp_cmpP ht q
  ·cases h
 | .tx1 o a b,N,sc,W,X,xc,e,h=>by
  unfold ckE at h;split at h
  ·obtain ⟨h,h5⟩:=and2 h;obtain ⟨h,h4⟩:=and2 h;obtain ⟨h,h3⟩:=and2 h;obtain ⟨h1,h2⟩:=and2 h;exact tx1_of xc h1 h2 h3 h4 h5 (sE a xc _ h3) (sE b xc _ h4)
  ·cases h
 | .tx2 o a b c,N,sc,W,X,xc,e,h=>by
  unfold ckE at h;split at h
  ·obtain ⟨h,h6⟩:=and2 h;obtain ⟨h,h5⟩:=and2 h;obtain ⟨h,h4⟩:=and2 h;obtain ⟨h,h3⟩:=and2 h;obtain ⟨h1,h2⟩:=and2 h;exact tx2_of xc h1 h2 h3 h4 h5 h6 (sE a xc _ h3) (sE b xc _ h4) (sE c xc _ h5)
  ·cases h
 | .stp a lo hi st,N,sc,W,X,xc,e,h=>by
  unfold ckE at h;split at h
  ·obtain ⟨h,h4⟩:=and2 h;obtain ⟨h,h3⟩:=and2 h;obtain ⟨h1,h2⟩:=and2 h;exact PE.imp (pe_stp (sR_of xc h1 (sE a xc _ h1)) (sO lo xc _ h2) (sO hi xc _ h3) (sO st xc _ h4)) fun σ H Q q=>imp_stp q
  ·cases h
 | .lrng a,N,sc,W,X,xc,e,h=>by
  unfold ckE at h;split at h
  ·obtain ⟨h,h5⟩:=and2 h;obtain ⟨h,h4⟩:=and2 h;obtain ⟨h,h3⟩:=and2 h;obtain ⟨h1,h2⟩:=and2 h;exact lrng_of xc h1 h2 h3 h4 h5 (sE a xc _ h5)
  ·cases h
 | .rplE _ _ _,N,sc,W,X,xc,e,h=>by cases h
 | .jmax i,N,sc,W,X,xc,e,h=>by
  unfold ckE at h;split at h
  ·obtain ⟨h,h3⟩:=and2 h;obtain ⟨h1,h2⟩:=and2 h;exact jmax_of xc h1 h2 h3
  ·cases h
 | .ditl i,N,sc,W,X,xc,e,h=>by
  unfold ckE at h;split at h
  ·obtain ⟨h,h5⟩:=and2 h;obtain ⟨h,h4⟩:=and2 h;obtain ⟨h,h3⟩:=and2 h;obtain ⟨h1,h2⟩:=and2 h;exact ditl_of xc h1 h2 h3 h4 h5
  ·cases h
 | .lset a,N,sc,W,X,xc,e,h=>by
  unfold ckE at h;split at h
  ·obtain ⟨h,h5⟩:=and2 h;obtain ⟨h,h4⟩:=and2 h;obtain ⟨h,h3⟩:=and2 h;obtain ⟨h1,h2⟩:=and2 h;exact lset_of xc h1 h2 h3 h4 h5 (sE a xc _ h5)
  ·cases h
 | .dpix a k,N,sc,W,X,xc,e,h=>by
  unfold ckE at h;split at h
  ·obtain ⟨h,h5⟩:=and2 h;obtain ⟨h,h4⟩:=and2 h;obtain ⟨h,h3⟩:=and2 h;obtain ⟨h1,h2⟩:=and2 h;exact dpix_of xc h1 h2 h3 h4 (sE a xc _ h4) (sE k xc _ h5)
  ·cases h
 | .dofP a,N,sc,W,X,xc,e,h=>by
  unfold ckE at h;split at h
  ·obtain ⟨h,h3⟩:=and2 h;obtain ⟨h1,h2⟩:=and2 h;exact dofP_of xc h1 h2 h3 (sE a xc _ h3)
  ·cases h
theorem sT:∀(x:E) {N:List Str} {sc:Nms} {W:WX} {X:Cx} (_:XC L N sc W X) (e:Expr),ckE L.T L.cons L.clsN N sc x e=true→PT X e (dT L X.K W x)
 | .var i,N,sc,W,X,xc,e,h=>by
  have ih:=sE (.var i) xc e h;cases e <;> first
   | (cases h;done)
   | exact pt_plain xc h ih fun _=>rfl
 | .peek i,N,sc,W,X,xc,e,h=>by
  have ih:=sE (.peek i) xc e h;cases e <;> first
   | (cases h;done)
   | exact pt_plain xc h ih fun _=>rfl
 | .con d,N,sc,W,X,xc,e,h=>by
  have ih:=sE (.con d) xc e h;cases e <;> first
   | (cases h;done)
   | exact pt_plain xc h ih fun _=>rfl
 | .emp,N,sc,W,X,xc,e,h=>by
  have ih:=sE .emp xc e h;cases e <;> first
   | (cases h;done)
   | exact pt_plain xc h ih fun _=>rfl
 | .glb j,N,sc,W,X,xc,e,h=>by
  have ih:=sE (.glb j) xc e h;cases e <;> first
   | (cases h;done)
   | exact pt_plain xc h ih fun _=>rfl
 | .tup es,N,sc,W,X,xc,e,h=>by
  have ih:=sE (.tup es) xc e h;cases e <;> first
   | (cases h;done)
   | exact pt_plain xc h ih fun _=>rfl
 | .lst es,N,sc,W,X,xc,e,h=>by
  have ih:=sE (.lst es) xc e h;cases e <;> first
   | (cases h;done)
   | exact pt_plain xc h ih fun _=>rfl
 | .rep es n,N,sc,W,X,xc,e,h=>by
  have ih:=sE (.rep es n) xc e h;cases e <;> first
   | (cases h;done)
   | exact pt_plain xc h ih fun _=>rfl
 | .op1 o a,N,sc,W,X,xc,e,h=>by
  have ih:=sE (.op1 o a) xc e h;have h0:=h;unfold ckE at h;split at h
  ·exact pt_plain xc h0 ih fun _=>rfl
  ·exact pt_plain xc h0 ih fun _=>rfl
  ·cases h
 | .op2 o a b,N,sc,W,X,xc,e,h=>by
  have ih:=sE (.op2 o a b) xc e h;have h0:=h;unfold ckE at h;split at h
  ·exact pt_plain xc h0 ih fun _=>rfl
  ·obtain ⟨h1,h2⟩:=and2 h;obtain ⟨h3,h4⟩:=and2 h1;obtain ⟨h5,h6⟩:=and2 h3;refine PT.imp (pt_cmpR (op_cmp xc.units h5) (sR_of xc h4 (sE a xc _ h4)) (sR_of xc h2 (sE b xc _ h2)) (not_false h6)) fun σ H Q q=>imp_op2 (dT_dV (fun _ z=>by cases z) (fun en p ep=>?_) q);have ep':(rd1 a en (L.ev a en)).bind (fun x=>(rd1 b en (L.ev b en)).bind fun y=>sem2 o x y) = .ok p:=ep;obtain ⟨x,_,e2⟩:=R.of_bind ep';obtain ⟨y,_,e3⟩:=R.of_bind e2;exact cmp_bool h5 e3
  ·exact pt_plain xc h0 ih fun _=>rfl
  ·exact pt_plain xc h0 ih fun _=>rfl
  ·cases h
 | .chn o p a b c,N,sc,W,X,xc,e,h=>by
  unfold ckE at h;split at h
  ·obtain ⟨h,c3⟩:=and2 h;obtain ⟨h,c2⟩:=and2 h;obtain ⟨h,c1⟩:=and2 h;obtain ⟨h,hm⟩:=and2 h;obtain ⟨h1,h2⟩:=and2 h;refine PT.imp (pt_chain (op_cmp xc.units h1) (op_cmp xc.units h2) (sR_of xc c1 (sE a xc _ c1)) (sR_of xc c2 (sE b xc _ c2)) (sR_of xc c3 (sE c xc _ c3)) (not_false hm)) fun σ H Q q=>imp_chn h1 (dT_dV (fun _ z=>by cases z) (fun en q eq=>?_) q);have eq':(rd1 a en (L.ev a en)).bind (fun x=>(rd1 b en (L.ev b en)).bind fun y=>(sem2 o x y).bind fun r=>(match r.1 with
    | .bool true=>(rd1 c en (L.ev c en)).bind fun w=>sem2 p y w
    | .bool false=>v1 (.bool false)
    | _ => .no)) = .ok q:=eq
   obtain ⟨x,_,e2⟩:=R.of_bind eq';obtain ⟨y,_,e3⟩:=R.of_bind e2;obtain ⟨r,e4,e5⟩:=R.of_bind e3;obtain ⟨k,rfl⟩:=cmp_bool h1 e4;cases k with
   | true =>
    obtain ⟨w,_,e6⟩:=R.of_bind (show (rd1 c en (L.ev c en)).bind (fun w=>sem2 p y w) = .ok q from e5);exact cmp_bool h2 e6
   | false =>
    cases e5;exact ⟨false,rfl⟩
  ·cases h
 | .and a b,N,sc,W,X,xc,e,h=>by
  unfold ckE at h;split at h
  ·obtain ⟨h1,h2⟩:=and2 h;exact PT.imp (pw_and (sT a xc _ h1) (pw_and1 (sT b xc _ h2))).pt fun σ H Q q=>impT_and q
  ·obtain ⟨h1,h2⟩:=and2 h;exact PT.imp (pw_and (sT a xc _ h1) (pw_of (sT b xc _ h2))).pt fun σ H Q q=>impT_and q
  ·cases h
 | .or a b,N,sc,W,X,xc,e,h=>by
  unfold ckE at h;split at h
  ·obtain ⟨h1,h2⟩:=and2 h;exact PT.imp (pw_or (sT a xc _ h1) (pw_or1 (sT b xc _ h2))).pt fun σ H Q q=>impT_or q
  ·obtain ⟨h1,h2⟩:=and2 h;exact PT.imp (pw_or (sT a xc _ h1) (pw_of (sT b xc _ h2))).pt fun σ H Q q=>impT_or q
  ·cases h
 | .not a,N,sc,W,X,xc,e,h=>by
  unfold ckE at h;split at h
  ·exact PT.imp (pt_not (sT a xc _ h)) fun σ H Q q=>impT_not q
  ·cases h
 | .ife t a b,N,sc,W,X,xc,e,h=>by
  unfold ckE at h;split at h
  ·obtain ⟨h,h3⟩:=and2 h;obtain ⟨h1,h2⟩:=and2 h;have i1:=sT t xc _ h1;have i2:=sT a xc _ h2;have i3:=sT b xc _ h3;refine ⟨fun pins s σ H Q I q=>?_⟩;have z:=impT_ife q;show wpAny _ _ (do if ←PySem.isTrue _ X.env (eval _ X.env) then PySem.isTrue _ X.env (eval _ X.env) else PySem.isTrue _ X.env (eval _ X.env)) _ _ s;refine wpAny_bind (thn (i1.run pins s σ H _ I z) fun c s1 hc=>?_);obtain ⟨H1,I1,q1⟩:=hc;cases c with
   | true=>exact i2.run pins s1 σ H1 Q I1 q1
   | false=>exact i3.run pins s1 σ H1 Q I1 q1
  ·cases h
 | .slc a lo hi,N,sc,W,X,xc,e,h=>by
  have ih:=sE (.slc a lo hi) xc e h;cases e <;> first
   | (cases h;done)
   | exact pt_plain xc h ih fun _=>rfl
 | .revs a,N,sc,W,X,xc,e,h=>by
  have ih:=sE (.revs a) xc e h;cases e <;> first
   | (cases h;done)
   | exact pt_plain xc h ih fun _=>rfl
 | .trev a,N,sc,W,X,xc,e,h=>by
  have ih:=sE (.trev a) xc e h;cases e <;> first
   | (cases h;done)
   | exact pt_plain xc h ih fun _=>rfl
 | .repE a n,N,sc,W,X,xc,e,h=>by
  have ih:=sE (.repE a n) xc e h;cases e <;> first
   | (cases h;done)
   | exact pt_plain xc h ih fun _=>rfl
 | .call j es m,N,sc,W,X,xc,e,h=>by
  have ih:=sE (.call j es m) xc e h;cases e <;> first
   | (cases h;done)
   | exact pt_plain xc h ih fun _=>rfl
 | .callv j es m,N,sc,W,X,xc,e,h=>by
  have ih:=sE (.callv j es m) xc e h;cases e <;> first
   | (cases h;done)
   | exact pt_plain xc h ih fun _=>rfl
 | .dget i k x,N,sc,W,X,xc,e,h=>by
  have ih:=sE (.dget i k x) xc e h;cases e <;> first
   | (cases h;done)
   | exact pt_plain xc h ih fun _=>rfl
 | .dvals i,N,sc,W,X,xc,e,h=>by
  have ih:=sE (.dvals i) xc e h;cases e <;> first
   | (cases h;done)
   | exact pt_plain xc h ih fun _=>rfl
 | .dne i,N,sc,W,X,xc,e,h=>by
  unfold ckE at h;split at h
  ·exact dneT_of xc h
  ·cases h
 | .dkeys i,N,sc,W,X,xc,e,h=>by
  have ih:=sE (.dkeys i) xc e h;cases e <;> first
   | (cases h;done)
   | exact pt_plain xc h ih fun _=>rfl
 | .fnv n,N,sc,W,X,xc,e,h=>by
  have ih:=sE (.fnv n) xc e h;cases e <;> first
   | (cases h;done)
   | exact pt_plain xc h ih fun _=>rfl
 | .callL i cs es,N,sc,W,X,xc,e,h=>by
  have ih:=sE (.callL i cs es) xc e h;cases e <;> first
   | (cases h;done)
   | exact pt_plain xc h ih fun _=>rfl
 | .mth o a b,N,sc,W,X,xc,e,h=>by
  have ih:=sE (.mth o a b) xc e h;cases e <;> first
   | (cases h;done)
   | exact pt_plain xc h ih fun _=>rfl
 | .rfd j ks e0,N,sc,W,X,xc,e,h=>by
  have ih:=sE (.rfd j ks e0) xc e h;cases e <;> first
   | (cases h;done)
   | exact pt_plain xc h ih fun _=>rfl
 | .erv i,N,sc,W,X,xc,e,h=>by
  have ih:=sE (.erv i) xc e h;cases e <;> first
   | (cases h;done)
   | exact pt_plain xc h ih fun _=>rfl
 | .isE i ks ts,N,sc,W,X,xc,e,h=>by
  have ih:=sE (.isE i ks ts) xc e h;cases e <;> first
   | (cases h;done)
   | exact pt_plain xc h ih fun _=>rfl
 | .isN i g,N,sc,W,X,xc,e,h=>by
  unfold ckE at h;split at h
  ·obtain ⟨h1,h2⟩:=and2 h;exact isN_t xc h1 h2
  ·cases h
 | .isi a ts,N,sc,W,X,xc,e,h=>by
  have ih:=sE (.isi a ts) xc e h;cases e <;> first
   | (cases h;done)
   | exact pt_plain xc h ih fun _=>rfl
 | .cmp elt tg it ifs own,N,sc,W,X,xc,e,h=>by
  have ih:=sE (.cmp elt tg it ifs own) xc e h;cases e <;> first
   | (cases h;done)
   | exact pt_plain xc h ih fun _=>rfl
 | .srt a,N,sc,W,X,xc,e,h=>by
  have ih:=sE (.srt a) xc e h;cases e <;> first
   | (cases h;done)
   | exact pt_plain xc h ih fun _=>rfl
 | .dsrt i,N,sc,W,X,xc,e,h=>by
  have ih:=sE (.dsrt i) xc e h;cases e <;> first
   | (cases h;done)
   | exact pt_plain xc h ih fun _=>rfl
 | .dix i k,N,sc,W,X,xc,e,h=>by
  have ih:=sE (.dix i k) xc e h;cases e <;> first
   | (cases h;done)
   | exact pt_plain xc h ih fun _=>rfl
 | .jget i k x,N,sc,W,X,xc,e,h=>by
  have ih:=sE (.jget i k x) xc e h;cases e <;> first
   | (cases h;done)
   | exact pt_plain xc h ih fun _=>rfl
 | .jix i k,N,sc,W,X,xc,e,h=>by
  have ih:=sE (.jix i k) xc e h;cases e <;> first
   | (cases h;done)
   | exact pt_plain xc h ih fun _=>rfl
 | .jlen i,N,sc,W,X,xc,e,h=>by
  have ih:=sE (.jlen i) xc e h;cases e <;> first
   | (cases h;done)
   | exact pt_plain xc h ih fun _=>rfl
 | .jsrt i,N,sc,W,X,xc,e,h=>by
  have ih:=sE (.jsrt i) xc e h;cases e <;> first
   | (cases h;done)
   | exact pt_plain xc h ih fun _=>rfl
 | .max4 a b c d,N,sc,W,X,xc,e,h=>by
  have ih:=sE (.max4 a b c d) xc e h;cases e <;> first
   | (cases h;done)
   | exact pt_plain xc h ih fun _=>rfl
 | .cmpP elt tg i ifs own,N,sc,W,X,xc,e,h=>by
  have ih:=sE (.cmpP elt tg i ifs own) xc e h;cases e <;> first
   | (cases h;done)
   | exact pt_plain xc h ih fun _=>rfl
 | .tx1 o a b,N,sc,W,X,xc,e,h=>by
  have ih:=sE (.tx1 o a b) xc e h;cases e <;> first
   | (cases h;done)
   | exact pt_plain xc h ih fun _=>rfl
 | .tx2 o a b c,N,sc,W,X,xc,e,h=>by
  have ih:=sE (.tx2 o a b c) xc e h;cases e <;> first
   | (cases h;done)
   | exact pt_plain xc h ih fun _=>rfl
 | .stp a lo hi st,N,sc,W,X,xc,e,h=>by
  have ih:=sE (.stp a lo hi st) xc e h;cases e <;> first
   | (cases h;done)
   | exact pt_plain xc h ih fun _=>rfl
 | .lrng a,N,sc,W,X,xc,e,h=>by
  have ih:=sE (.lrng a) xc e h;cases e <;> first
   | (cases h;done)
   | exact pt_plain xc h ih fun _=>rfl
 | .rplE _ _ _,N,sc,W,X,xc,e,h=>by cases h
 | .jmax i,N,sc,W,X,xc,e,h=>by
  have ih:=sE (.jmax i) xc e h;cases e <;> first
   | (cases h;done)
   | exact pt_plain xc h ih fun _=>rfl
 | .ditl i,N,sc,W,X,xc,e,h=>by
  have ih:=sE (.ditl i) xc e h;cases e <;> first
   | (cases h;done)
   | exact pt_plain xc h ih fun _=>rfl
 | .lset a,N,sc,W,X,xc,e,h=>by
  have ih:=sE (.lset a) xc e h;cases e <;> first
   | (cases h;done)
   | exact pt_plain xc h ih fun _=>rfl
 | .dpix a k,N,sc,W,X,xc,e,h=>by
  have ih:=sE (.dpix a k) xc e h;cases e <;> first
   | (cases h;done)
   | exact pt_plain xc h ih fun _=>rfl
 | .dofP a,N,sc,W,X,xc,e,h=>by
  have ih:=sE (.dofP a) xc e h;cases e <;> first
   | (cases h;done)
   | exact pt_plain xc h ih fun _=>rfl
 | .jin i k g,N,sc,W,X,xc,e,h=>by
  unfold ckE at h;split at h
  ·obtain ⟨h,h3⟩:=and2 h;obtain ⟨h1,h2⟩:=and2 h;exact jinT_of xc h1 h2 (sE k xc _ h3)
  ·cases h
theorem sEs:∀(es:Es) {N:List Str} {sc:Nms} {W:WX} {X:Cx} (_:XC L N sc W X) (xs:List Expr),ckEs L.T L.cons L.clsN N sc es xs=true→PA X xs (dVs L X.K W es)
 | .nil,N,sc,W,X,xc,xs,h=>by
  cases xs with
  | nil=>exact PA.imp pa_nil fun σ H Q q=>evs_nil q
  | cons x xs=>cases h
 | .cons e r,N,sc,W,X,xc,xs,h=>by
  cases xs with
  | nil=>cases h
  | cons x xs =>
   obtain ⟨h1,h2⟩:=and2 (show (ckE L.T L.cons L.clsN N sc e x&&ckEs L.T L.cons L.clsN N sc r xs)=true from h);exact PA.imp (pa_cons (sE e xc _ h1) (sEs r xc _ h2) (star_of h1 xs)) fun σ H Q q=>evs_cons q
theorem sAs:∀(es:Es) {N:List Str} {sc:Nms} {W:WX} {X:Cx} (_:XC L N sc W X) (xs:List Expr),ckEs L.T L.cons L.clsN N sc es xs=true→PA X xs (dAs L X.K W es)
 | .nil,N,sc,W,X,xc,xs,h=>by
  cases xs with
  | nil=>exact PA.imp pa_nil fun σ H Q q=>evAs_nil q
  | cons x xs=>cases h
 | .cons e r,N,sc,W,X,xc,xs,h=>by
  cases xs with
  | nil=>cases h
  | cons x xs =>
   obtain ⟨h1,h2⟩:=and2 (show (ckE L.T L.cons L.clsN N sc e x&&ckEs L.T L.cons L.clsN N sc r xs)=true from h);exact PA.imp (pa_cons (sA_of xc h1 (sE e xc _ h1)) (sAs r xc _ h2) (star_of h1 xs)) fun σ H Q q=>evAs_cons q
theorem sO:∀(x:Eo) {N:List Str} {sc:Nms} {W:WX} {X:Cx} (_:XC L N sc W X) (e:Option Expr),ckO L.T L.cons L.clsN N sc x e=true→PO X e (dO L X.K W x)
 | .none,N,sc,W,X,xc,e,h=>by
  cases e with
  | none=>exact PO.imp po_none fun σ H Q q=>impO_none q
  | some e=>cases h
 | .some x,N,sc,W,X,xc,e,h=>by
  cases e with
  | none=>cases h
  | some e=>exact PO.imp (po_some (sE x xc e h)) fun σ H Q q=>impO_some q
theorem sIf:∀(x:Eo) {N:List Str} {sc:Nms} {W:WX} {X:Cx} (_:XC L N sc W X) (es:List Expr),ckIf L.T L.cons L.clsN N sc x es=true→PTs X es (dB L X.K W x)
 | .none,N,sc,W,X,xc,es,h=>by
  cases es with
  | nil=>exact pts_nil
  | cons e es=>cases h
 | .some x,N,sc,W,X,xc,es,h=>by
  unfold ckIf at h;split at h
  ·exact pts_one (sT x xc _ h)
  ·cases h
theorem sI:∀(x:It) {N:List Str} {sc:Nms} {W:WX} {X:Cx} (_:XC L N sc W X) (e tg:Expr),ckI L.T L.cons L.clsN N sc x e (isTup tg)=true→PI X tg e (dI L X.K W x)
 | .seq a,N,sc,W,X,xc,e,tg,h=>PI.imp (PI.or (pi_list (sE a xc e h)) (pi_tup (sE a xc e h))) fun σ H Q q=>impI_seq q
 | .txt a,N,sc,W,X,xc,e,tg,h=>PI.imp (pi_str (sE a xc e h)) fun σ H Q q=>impI_txt q
 | .rng1 a,N,sc,W,X,xc,e,tg,h=>by
  unfold ckI at h;split at h
  ·obtain ⟨h1,h2⟩:=and2 h;obtain ⟨h3,h4⟩:=and2 h1;have en:=str_beq h3;subst en;exact PI.imp (pi_range1 (gl_of xc h4).1 (blt_of xc (by decide +kernel)) (pa_cons (sE a xc _ h2) pa_nil (star_of h2 [])) (star_of h2 [])) fun σ H Q q=>impI_rng1 q
  ·cases h
 | .rng2 a b,N,sc,W,X,xc,e,tg,h=>by
  unfold ckI at h;split at h
  ·obtain ⟨h,h5⟩:=and2 h;obtain ⟨h1,h2⟩:=and2 h;obtain ⟨h3,h4⟩:=and2 h1;have en:=str_beq h3;subst en;exact PI.imp (pi_range2 (gl_of xc h4).1 (blt_of xc (by decide +kernel)) (pa_cons (sE a xc _ h2) (pa_cons (sE b xc _ h5) pa_nil (star_of h5 [])) (star_of h2 _)) (by rw [star_of h2 _,star_of h5 []];rfl) (star_of h5 [])) fun σ H Q q=>impI_rng2 q
  ·cases h
 | .rng3 a b c,N,sc,W,X,xc,e,tg,h=>by
  unfold ckI at h;split at h
  ·obtain ⟨h,h6⟩:=and2 h;obtain ⟨h,h5⟩:=and2 h;obtain ⟨h1,h2⟩:=and2 h;obtain ⟨h3,h4⟩:=and2 h1;have en:=str_beq h3;subst en;exact PI.imp (pi_range3 (gl_of xc h4).1 (blt_of xc (by decide +kernel)) (pa_cons (sE a xc _ h2) (pa_cons (sE b xc _ h5) (pa_cons (sE c xc _ h6) pa_nil (star_of h6 [])) (star_of h5 _)) (star_of h2 _)) (star_of h2 _) (by rw [star_of h5 _,star_of h6 []];rfl)) fun σ H Q q=>impI_rng3 q
  ·cases h
 | .rev a,N,sc,W,X,xc,e,tg,h=>by
  unfold ckI at h;split at h
  ·obtain ⟨h1,h2⟩:=and2 h;obtain ⟨h3,h4⟩:=and2 h1;have en:=str_beq h3;subst en;exact PI.imp (RT.pi_revA (gl_of xc h4).1 (blt_of xc (by decide +kernel)) (sE a xc _ h2) (star_of h2 [])) fun σ H Q q=>impI_rev q
  ·cases h
 | .revr a,N,sc,W,X,xc,e,tg,h=>by
  unfold ckI at h;split at h
  ·obtain ⟨h,h5⟩:=and2 h;obtain ⟨h1,h2⟩:=and2 h;obtain ⟨h3,h4⟩:=and2 h1;obtain ⟨h6,h7⟩:=and2 h3;have en:=str_beq h6;subst en;have en:=str_beq h7;subst en;exact PI.imp (pi_revR (gl_of xc h4).1 (blt_of xc (by decide +kernel)) (prg_1 (gl_of xc h2).1 (blt_of xc (by decide +kernel)) (sE a xc _ h5) (star_of h5 [])) rfl) fun σ H Q q=>impI_revr q
  ·cases h
 | .enum a,N,sc,W,X,xc,e,tg,h=>by
  unfold ckI at h;split at h
  ·obtain ⟨h1,h2⟩:=and2 h;obtain ⟨h3,h4⟩:=and2 h1;obtain ⟨h5,h6⟩:=and2 h3;have en:=str_beq h6;subst en;cases tg with
   | Tuple elts k p =>
    have pa:PA X [_] (tCons (dV L X.K W a) tNil):=pa_cons (sE a xc _ h2) pa_nil (star_of h2 []);exact PI.imp (PI.or (pi_enum (gl_of xc h4).1 (blt_of xc (by decide +kernel)) pa (star_of h2 [])) (pi_enumT (gl_of xc h4).1 (blt_of xc (by decide +kernel)) pa (star_of h2 []))) fun σ H Q q=>impI_enum q
   | _=>cases h5
  ·cases h
 | .zip a b,N,sc,W,X,xc,e,tg,h=>by
  unfold ckI at h;split at h
  ·obtain ⟨h,h7⟩:=and2 h;obtain ⟨h1,h2⟩:=and2 h;obtain ⟨h3,h4⟩:=and2 h1;obtain ⟨h5,h6⟩:=and2 h3;have en:=str_beq h6;subst en;cases tg with
   | Tuple elts k p =>
    have pa:PA X [_,_] (tCons (dV L X.K W a) (tCons (dV L X.K W b) tNil)):=pa_cons (sE a xc _ h2) (pa_cons (sE b xc _ h7) pa_nil (star_of h7 [])) (star_of h2 _);exact PI.imp (PI.or (RZ.pi_zipA (gl_of xc h4).1 (blt_of xc (by decide +kernel)) pa (star_of h2 _) (by rw [star_of h7 []];rfl)) (AwTZ.pi_zipM (gl_of xc h4).1 (blt_of xc (by decide +kernel)) pa (star_of h2 _) (by rw [star_of h7 []];rfl))) fun σ H Q q=>impI_zip q
   | _=>cases h5
  ·cases h
 | .ditems i,N,sc,W,X,xc,e,tg,h=>by
  unfold ckI at h;split at h
  ·obtain ⟨h,h4⟩:=and2 h;obtain ⟨h,h3⟩:=and2 h;obtain ⟨h1,h2⟩:=and2 h;cases tg with
   | Tuple elts k p=>exact items_of xc h2 h3 h4
   | _=>cases h1
  ·cases h
theorem sFold:∀(x:It) {N:List Str} {sc:Nms} {X:Cx} (e:Expr) (b:Bool),ckI L.T L.cons L.clsN N sc x e b=true→∀z,foldedSetIterable e X.env z=pure z
 | .seq a,N,sc,X,e,b,h,z=>by
  have h':ckE L.T L.cons L.clsN N sc a e=true:=h;cases e <;> first
   | rfl
   | (cases a <;> cases h')
 | .txt a,N,sc,X,e,b,h,z=>by
  have h':ckE L.T L.cons L.clsN N sc a e=true:=h;cases e <;> first
   | rfl
   | (cases a <;> cases h')
 | .rng1 a,N,sc,X,e,b,h,z=>by
  cases e <;> first
   | rfl
   | cases h
 | .rng2 a _,N,sc,X,e,b,h,z=>by
  cases e <;> first
   | rfl
   | cases h
 | .rng3 a _ _,N,sc,X,e,b,h,z=>by
  cases e <;> first
   | rfl
   | cases h
 | .rev a,N,sc,X,e,b,h,z=>by
  cases e <;> first
   | rfl
   | cases h
 | .revr a,N,sc,X,e,b,h,z=>by
  cases e <;> first
   | rfl
   | cases h
 | .enum a,N,sc,X,e,b,h,z=>by
  cases e <;> first
   | rfl
   | cases h
 | .zip a _,N,sc,X,e,b,h,z=>by
  cases e <;> first
   | rfl
   | cases h
 | .ditems i,N,sc,X,e,b,h,z=>by
  cases e <;> first
   | rfl
   | cases h
end
end
end AW
namespace AW
open PySem PySem.Spec PyProof.Rows L2
variable [CdT] [StA]
theorem era_ne {p a:Addr} {H:Hp} (h:a≠p):era p H a=H a:=by unfold era;rw [if_neg h]
theorem era_at {p:Addr} {H:Hp}:era p H p=none:=by unfold era;rw [if_pos rfl]
theorem era_some {p a:Addr} {H:Hp} {o:HO} (h:era p H a=some o):a≠p∧H a=some o:=by
 unfold era at h;by_cases e:a=p
 ·rw [if_pos e] at h;cases h
 ·rw [if_neg e] at h;exact ⟨e,h⟩
theorem era_sub {p:Addr} {f H:Hp} (s:Same f H) (h:f p=none):Same f (era p H):=fun a o e=>by
 rw [era_ne (ne_of_none e h)];exact s a o e
theorem tabs_era {T:List (Addr×Str)} {H:Hp} {p:Addr} {us:List V} (t:LamX.Tabs T H) (hp:H p=some (.lst us)):LamX.Tabs T (era p H):=fun z hz=>by
 obtain ⟨ps,h1,h2,h3⟩:=t z hz;have a1:z.1≠p:=fun e=>by rw [e,hp] at h1;cases h1
 refine ⟨ps,by rw [era_ne a1];exact h1,h2,fun pos cv hc=>?_⟩;obtain ⟨c,e1,e2⟩:=h3 pos cv hc;have a2:c≠p:=fun e=>by
  rw [e,hp] at e2;exact HO.noConfusion (Option.some.inj e2)
 exact ⟨c,e1,by rw [era_ne a2];exact e2⟩
theorem Po.era {f H:Hp} {p:Addr} {us:List V} (s:Same f H) (h:f p=none) (hp:H p=some (.lst us)):Po f (era p H) f H :=
 ⟨⟨fun b o e _=>(era_some e).2⟩,Same.refl f,s,fun _ _ e => .inl e,id,fun t=>t.ext fun b x e=>(era_some e).2⟩
theorem nw_era {p:Addr} {H:Hp}:Nw (era p H) p:=nw era_at
section
variable {K:PySem.W.Frag} {f0 H0 f H f1 H1 f' H':Hp} {σ:L2.St} {en en1 en':En}
theorem SlOk.era {p:Addr} {o:Option V} {s:Sl} (hp:Nw H0 p) (np:∀p2,s.own=true→o=some (.ref p2)→p2≠p) (h:SlOk K H0 f H o s):SlOk K H0 f (era p H) o s:=by
 cases h with
 | un=>exact .un _
 | va h=>exact .va h
 | rd hH h=>exact .rd hH h
 | fn=>exact .fn
 | fd gp gf gn gl g=>exact .fd gp gf gn gl g
 | er gH=>exact .er (by rw [era_ne (np _ rfl rfl)];exact gH)
 | ow g0 gf gH g=>exact .ow g0 gf (by rw [era_ne (np _ rfl rfl)];exact gH) g
 | dk gp g0 gf gH gn gl g=>exact .dk gp g0 gf (by rw [era_ne (np _ rfl rfl)];exact gH) gn gl g
 | dj g0 gf gH g=>exact .dj g0 gf (by rw [era_ne (np _ rfl rfl)];exact gH) g
 | st gs g0 gf gH g=>exact .st gs g0 gf (by rw [era_ne (np _ rfl rfl)];exact gH) g
theorem Mt.callS {i:Nat} {p:Addr} {us:List V} {s0 s':Sl} (m:Mt K f0 H0 f H σ en) (e:en[i]?=some s0) (hm:s0.mu=true) (es:σ[i]?=some (some (.ref p))) (h0:Nw H0 p) (hf:f p=none) (hH:H p=some (.lst us))
  (q:Po f (era p H) f' H') (hf':f' p=none) (hn:SlOk K H0 f' H' (some (.ref p)) s'):Mt K f0 H0 f' H' σ (en.set i s'):=by
 refine ⟨⟨⟨fun b o eb n=>?_⟩,m.po.sf.trans q.sf,q.sub,fun a o ea=>?_,fun n=>q.nt (m.po.nt n),fun t=>q.tab (tabs_era (m.po.tab t) hH)⟩,m.tb,by rw [List.length_set];exact m.len,fun j s ej=>?_,m.disUp e hm⟩
 ·have nb:b≠p:=fun z=>by subst z;exact h0.no eb n
  exact q.sH.keep b o (by rw [era_ne nb];exact m.po.sH.keep b o eb n) n
 ·have na:a≠p:=fun z=>by subst z;rw [hf'] at ea;cases ea
  rcases q.gro a o ea with h | h
  ·exact m.po.gro a o h
  ·refine .inr (m.po.sH.freeN fun x ex=>h x ?_);rw [era_ne na];exact ex
 ·rcases set_at ej with ⟨rfl,hl,rfl⟩ | ⟨hj,ej⟩
  ·exact ⟨_,es,hn⟩
  ·obtain ⟨o1,g1,g2⟩:=m.sl j s ej;refine ⟨o1,g1,(g2.era h0 fun p2 hs eo z=>?_).mono q⟩;subst z;subst eo;exact hj (m.dis i j _ _ _ e ej hm hs es g1)
theorem Mt.updN {D:Addr} {o o':HO} (m:Mt K f0 H0 f H σ en) (h0:Nw H0 D) (hf:f D=none) (hp:H D=some o') (n1:∀ps,o' ≠ .tbl ps) (n2:∀q,o'≠LamX.CodeO D q) (fr:∀(k:Nat) (t:Sl),en[k]?=some t→t.own=true→σ[k]?≠some (some (.ref D))) :
  Mt K f0 H0 f (upd H D o) σ en:=by
 refine ⟨m.poUp h0 hf hp n1 n2,m.tb,m.len,fun j s ej=>?_,m.dis⟩;obtain ⟨o1,g1,g2⟩:=m.sl j s ej;have np:∀{p2:Addr},s.own=true→o1=some (.ref p2)→p2≠D:=fun {p2} hs eo z=>by
  subst z;subst eo;exact fr j s ej hs g1
 refine ⟨o1,g1,?_⟩;cases g2 with
 | un=>exact .un _
 | va h=>exact .va h
 | rd hH h=>exact .rd hH h
 | fn=>exact .fn
 | fd gp gf gn gl g=>exact .fd gp gf gn gl g
 | er gH=>exact .er (by rw [upd_ne (np rfl rfl)];exact gH)
 | ow g0 gf gH g=>exact .ow g0 gf (by rw [upd_ne (np rfl rfl)];exact gH) g
 | dk gp g0 gf gH gn gl g=>exact .dk gp g0 gf (by rw [upd_ne (np rfl rfl)];exact gH) gn gl g
 | dj g0 gf gH g=>exact .dj g0 gf (by rw [upd_ne (np rfl rfl)];exact gH) g
 | st gs g0 gf gH g=>exact .st gs g0 gf (by rw [upd_ne (np rfl rfl)];exact gH) g
theorem Mt.settle {D:Addr} {vs:List V} (m:Mt K f0 H0 f H σ en) (h0:Nw H0 D) (hf:f D=none) (hp:H D=some (.lst vs)) (fr:∀(k:Nat) (t:Sl),en[k]?=some t→t.own=true→σ[k]?≠some (some (.ref D))) :
  Mt K f0 H0 (upd f D (.lst vs)) H σ en:=by
 have sm:Same f (upd f D (.lst vs)):=fun a o x=>by
  rw [upd_ne (ne_of_none x hf)];exact x
 refine ⟨⟨m.po.sH,m.po.sf.trans sm,fun a o x=>?_,fun a o x=>?_,fun n=>nt_upd (m.po.nt n) (by (intro _ z;first | (cases z;done) | exact HO.noConfusion z)),m.po.tab⟩,m.tb,m.len,fun j s ej=>?_,m.dis⟩
 ·by_cases ha:a=D
  ·subst ha;rw [upd_same] at x;rw [hp];exact x
  ·rw [upd_ne ha] at x;exact m.po.sub _ _ x
 ·by_cases ha:a=D
  ·subst ha;exact .inr h0
  ·rw [upd_ne ha] at x;exact m.po.gro _ _ x
 ·obtain ⟨o1,g1,g2⟩:=m.sl j s ej;have np:∀{p2:Addr},s.own=true→o1=some (.ref p2)→p2≠D:=fun {p2} hs eo z=>by
   subst z;subst eo;exact fr j s ej hs g1
  refine ⟨o1,g1,?_⟩;cases g2 with
  | un=>exact .un _
  | va h=>exact .va (dp_same sm h)
  | rd hH h=>exact .rd hH (dpa_same sm h)
  | er hH=>exact .er hH
  | fn=>exact .fn
  | fd gp gf gn gl g=>exact .fd gp (sm _ _ gf) gn gl (g.same sm)
  | ow g0 gf gH g=>exact .ow g0 (by rw [upd_ne (np rfl rfl)];exact gf) gH (dpa_same sm g)
  | dk gp g0 gf gH gn gl g=>exact .dk gp g0 (by rw [upd_ne (np rfl rfl)];exact gf) gH gn gl (g.same sm)
  | dj g0 gf gH g=>exact .dj g0 (by rw [upd_ne (np rfl rfl)];exact gf) gH (dj_same sm g)
  | st gs g0 gf gH g=>exact .st gs g0 (by rw [upd_ne (np rfl rfl)];exact gf) gH (dpa_same sm g)
structure Kp (σ:L2.St) (en:En) (f H:Hp) (en':En) (f' H':Hp):Prop where
 sf:Same f f'
 kp:∀p o,H p=some o→(∀ps,o ≠ .tbl ps)→(∀(i:Nat) (s:Sl),en[i]?=some s→s.mu=true→σ[i]?≠some (some (.ref p)))→H' p=some o∧(f p=none→f' p=none)
 mu:∀(i:Nat) (s:Sl),en'[i]?=some s→s.own=true→∃s',en[i]?=some s'∧s'.own=true∧(s.mu=true→s'.mu=true)
theorem Kp.of_po (q:Po f H f' H'):Kp σ en f H en f' H':=⟨q.sf,fun p o hp n _=>⟨q.sH.keep p o hp n,fun h=>q.loose h hp n⟩,fun i s e h=>⟨s,e,h,id⟩⟩
theorem Kp.trans (a:Kp σ en f H en1 f1 H1) (b:Kp σ en1 f1 H1 en' f' H'):Kp σ en f H en' f' H':=by
 refine ⟨a.sf.trans b.sf,fun p o hp n h=>?_,fun i s e h=>?_⟩
 ·obtain ⟨h1,h2⟩:=a.kp p o hp n h;obtain ⟨h3,h4⟩:=b.kp p o h1 n fun i s e hs=>by
   obtain ⟨s',e',_,h'⟩:=a.mu i s e (mu_own hs);exact h i s' e' (h' hs)
  exact ⟨h3,fun z=>h4 (h2 z)⟩
 ·obtain ⟨s',e',h1,h2⟩:=b.mu i s e h;obtain ⟨s'',e'',h3,h4⟩:=a.mu i s' e' h1;exact ⟨s'',e'',h3,fun z=>h4 (h2 z)⟩
theorem Kp.callS {i:Nat} {p:Addr} {s0 s':Sl} (e:en[i]?=some s0) (hm:s0.mu=true) (es:σ[i]?=some (some (.ref p))) (q:Po f (era p H) f' H'):Kp σ en f H (en.set i s') f' H':=by
 refine ⟨q.sf,fun a o ha n h=>?_,fun j s ej hs=>?_⟩
 ·have na:a≠p:=fun z=>by subst z;exact h i s0 e hm es
  have he:era p H a=some o:=by rw [era_ne na];exact ha
  exact ⟨q.sH.keep a o he n,fun z=>q.loose z he n⟩
 ·rcases set_at ej with ⟨rfl,hl,rfl⟩ | ⟨hj,ej⟩
  ·exact ⟨_,e,mu_own hm,fun _=>hm⟩
  ·exact ⟨_,ej,hs,id⟩
end
def OutX (cls:Nat→Value) (W:WX) (σ:L2.St) (K:PySem.W.Frag) (f0 H0 f:Hp) {α:Type} (r:XR α) (P:α→En→Prop):Prop:=match r with
 | .ok a en1=>P a en1
 | .ex c en1=>∀f' H',Mt K f0 H0 f' H' σ en1→Same f f'→W (cls c) none σ H'
 | .no=>False
section
variable {cls:Nat→Value} {W:WX} {σ:L2.St} {K:PySem.W.Frag} {f0 H0 f H f1 H1:Hp} {α β:Type} {en:En}
theorem OutX.bind {r:XR α} {g:α→En→XR β} {P:β→En→Prop} (h:OutX cls W σ K f0 H0 f (r.bind g) P):OutX cls W σ K f0 H0 f r fun a en1=>OutX cls W σ K f0 H0 f (g a en1) P:=by
 cases r <;> exact h
theorem OutX.imp {r:XR α} {P P':α→En→Prop} (h:OutX cls W σ K f0 H0 f r P) (q:Same f f1) (hp:∀a en1,r = .ok a en1→P a en1→P' a en1):OutX cls W σ K f0 H0 f1 r P':=by
 cases r with
 | ok a en1=>exact hp a en1 rfl h
 | ex k en1=>exact fun f' H' m s=>h f' H' m (q.trans s)
 | no=>exact h
theorem OutX.of {r:R α} {P:α→En→Prop} (m:Mt K f0 H0 f H σ en) (h:OutX cls W σ K f0 H0 f (XR.of en r) P):Out cls W σ f H r fun a=>P a en:=by
 cases r with
 | ok a=>exact h
 | ex k=>exact fun f' H' q=>h f' H' (m.mono q) q.sf
 | no=>exact h
theorem OutX.okk {r:R α} {P:α→En→Prop} (h:OutX cls W σ K f0 H0 f (XR.of en r) P) (hn:∀k,r ≠ .ex k):∃a,r = .ok a∧P a en:=by
 cases r with
 | ok a=>exact ⟨a,rfl,h⟩
 | ex k=>exact absurd rfl (hn k)
 | no=>exact h.elim
end
inductive XaOk (K:PySem.W.Frag) (f:Hp) (σ:L2.St):V→XA→Prop where
 | va {v:V} {d:D} (h:Dp K f v d):XaOk K f σ v (.va d)
 | ln {v:V} {i:Nat} (h:σ[i]?=some (some v)):XaOk K f σ v (.ln i)
inductive XasOk (K:PySem.W.Frag) (f:Hp) (σ:L2.St):List V→List XA→Prop where
 | nil:XasOk K f σ [] []
 | cons {v:V} {a:XA} {vs:List V} {as:List XA} (h:XaOk K f σ v a) (t:XasOk K f σ vs as):XasOk K f σ (v::vs) (a::as)
theorem xas_vs {K:PySem.W.Frag} {f:Hp} {σ:L2.St}:∀{vs:List V} {rs:List XA} {ds:List D},XasOk K f σ vs rs→xVs rs=some ds→DpAll K f vs ds
 | _,_,_,.nil,e=>by cases e;exact .nil
 | _,_,_,.cons h t,e=>by
  cases h with
  | ln h=>cases e
  | va h =>
   unfold xVs at e;rename_i as d;cases q:xVs as with
   | none=>rw [q] at e;cases e
   | some ds=>rw [q] at e;cases e;exact .cons h (xas_vs t q)
theorem args_va {K:PySem.W.Frag} {f H:Hp}:∀{vs:List V} {ds:List D},DpAll K f vs ds→ArgsOk K f H vs (ds.map .va)
 | _,_,.nil => .nil
 | _,_,.cons a t => .cons (.va a) (args_va t)
theorem xas_sls {K:PySem.W.Frag} {f0 H0 f H:Hp} {σ:L2.St} {en:En} {i:Nat} {p:Addr} {s0:Sl} (m:Mt K f0 H0 f H σ en) (e:en[i]?=some s0) (hm:s0.mu=true) (es:σ[i]?=some (some (.ref p))) :
  ∀{vs:List V} {rs:List XA} {ss:List Sl},XasOk K f σ vs rs→xSls en i rs=some ss→ArgsOk K f (era p H) vs ss
 | _,_,_,.nil,q=>by cases q;exact .nil
 | _,_,_,.cons (a:=a) (as:=as) h t,q=>by
  unfold xSls at q;cases q1:xSl en i a with
  | none=>rw [q1] at q;cases q
  | some s =>
   rw [q1] at q;cases q2:xSls en i as with
   | none=>rw [q2] at q;cases q
   | some ss =>
    rw [q2] at q;cases q;refine .cons ?_ (xas_sls m e hm es t q2);cases h with
    | va h=>cases q1;exact .va h
    | ln h =>
     rename_i k;unfold xSl at q1;have q1:(if k=i then none else (match en[k]? with
      | some (.ow ds)=>some (Sl.rd ds)
      | _=>none))=some s:=q1
     by_cases hk:k=i
     ·rw [if_pos hk] at q1;cases q1
     ·rw [if_neg hk] at q1;cases q3:en[k]? with
      | none=>rw [q3] at q1;cases q1
      | some s3 =>
       rw [q3] at q1;cases s3 with
       | ow ds =>
        cases q1;obtain ⟨p',vs',e1,_,_,hH,ha⟩:=m.ow q3;rw [h] at e1;cases e1;refine .rd (.inl (.inl ?_)) ha;rw [era_ne (fun z=>by
         subst z;exact hk (m.dis i k _ _ _ e q3 hm rfl es h).symm)]
        exact hH
       | _=>cases q1
theorem lentless_va:∀{ss:List Sl},lentless ss=true→asV ss=ss
 | [],_=>rfl
 | .va d::r,h=>by
  show Sl.va d::asV r=_;rw [lentless_va (show lentless r=true from h)]
 | .un::_,h=>by cases h
 | .ow _::_,h=>by cases h
 | .rd _::_,h=>by cases h
 | .er _::_,h=>by cases h
 | .fn _::_,h=>by cases h
 | .dk _::_,h=>by cases h
 | .fd _::_,h=>by cases h
 | .dj _::_,h=>by cases h
 | .st _::_,h=>by cases h
theorem dpa_un {K:PySem.W.Frag} {f' f'':Hp} (un:∀{d:D} {v:V},noL d=true→Dp K f' v d→Dp K f'' v d):∀{ds:List D} {vs:List V},noLs ds=true→DpAll K f' vs ds→DpAll K f'' vs ds
 | _,_,_,.nil => .nil
 | d::ds,_,hn,.cons a t=>by
  have hn:(noL d&&noLs ds)=true:=hn;rw [Bool.and_eq_true] at hn;exact .cons (un hn.1 a) (dpa_un un hn.2 t)
theorem isL_st {K:PySem.W.Frag} {f0 H0 f H:Hp} {σ:L2.St} {en:En} {i:Nat} (m:Mt K f0 H0 f H σ en) (h:isL en i=true):∃s p,en[i]?=some s∧s.mu=true∧σ[i]?=some (some (.ref p)):=by
 unfold isL at h;cases e:en[i]? with
 | none=>rw [e] at h;cases h
 | some s =>
  rw [e] at h;cases s with
  | ow ds =>
   obtain ⟨p,vs,e1,_⟩:=m.ow e;exact ⟨_,p,rfl,rfl,e1⟩
  | st ds =>
   obtain ⟨p,vs,e1,_⟩:=m.st e;exact ⟨_,p,rfl,rfl,e1⟩
  | _=>cases h
section
variable (L:Lk) (K:PySem.W.Frag) (W:WX)
abbrev Lk.ex (x:XE) (en:En):XR D:=evX L.G L.c (dflT L.T) x en
def dX (x:XE):TE:=fun σ H Q=>∃f0 H0 f en,Mt K f0 H0 f H σ en∧OutX L.cls W σ K f0 H0 f (evX L.G L.c (dflT L.T) x en) fun d en1=>∀v f' H',Mt K f0 H0 f' H' σ en1→Kp σ en f H en1 f' H'→Dp K f' v d→Q v H'
def dXs (xs:Xs):TA:=fun σ H Q=>∃f0 H0 f en,Mt K f0 H0 f H σ en∧OutX L.cls W σ K f0 H0 f (evXs L.G L.c (dflT L.T) xs en) fun rs en1=>∀vs f' H',Mt K f0 H0 f' H' σ en1→Kp σ en f H en1 f' H'→XasOk K f' σ vs rs→Q vs H'
end
section
variable {L:Lk} {N:List Str} {sc:Nms} {W:WX} {X:Cx} {K:PySem.W.Frag}
theorem imp_pu {e:E} {σ H Q} (h:dX L K W (.pu e) σ H Q):dV L K W e σ H Q:=by
 obtain ⟨f0,H0,f,en,m,o⟩:=h;refine ⟨f0,H0,f,en,m,(Out.bind (OutX.of m o)).imp (Po.refl m.po.sub) fun p _ k v f' H' q hv=>?_⟩;obtain ⟨f2,q2,hv2⟩:=hv.settle q;exact k v f2 H' (m.mono q2) (.of_po q2) hv2
theorem xs_cons {x:XE} {r:Xs} {σ H Q} (h:dXs L K W (.cons x r) σ H Q):tCons (dX L K W x) (dXs L K W r) σ H Q:=by
 obtain ⟨f0,H0,f,en,m,o⟩:=h;refine ⟨f0,H0,f,en,m,(OutX.bind o).imp (Same.refl f) fun d en1 _ h1 v f1 H1 m1 k1 hv=>⟨f0,H0,f1,en1,m1,(OutX.bind h1).imp k1.sf fun rs en2 _ h2 vs f2 H2 m2 k2 hvs=>?_⟩⟩;exact h2 (v::vs) f2 H2 m2 (k1.trans k2) (.cons (.va (dp_same k2.sf hv)) hvs)
theorem xs_ln {i:Nat} {r:Xs} {σ H Q} (h:dXs L K W (.ln i r) σ H Q):tCons (tVar i) (dXs L K W r) σ H Q:=by
 obtain ⟨f0,H0,f,en,m,o⟩:=h;have o:OutX L.cls W σ K f0 H0 f (if isL en i=true then (evXs L.G L.c (dflT L.T) r en).bind fun rs en1 => .ok (.ln i::rs) en1 else .no) _:=o;by_cases hi:isL en i=true
 ·rw [if_pos hi] at o;obtain ⟨s,p,_,_,es⟩:=isL_st m hi;exact ⟨_,es,f0,H0,f,en,m,(OutX.bind o).imp (Same.refl f) fun rs en1 _ h1 vs f1 H1 m1 k1 hvs=>h1 _ f1 H1 m1 k1 (.cons (.ln es) hvs)⟩
 ·rw [if_neg hi] at o;exact o.elim
theorem xs_nil {σ:L2.St} {H:Hp} {Q:List V→Hp→Prop} (h:dXs L K W .nil σ H Q):tNil σ H Q:=by
 obtain ⟨f0,H0,f,en,m,o⟩:=h;exact (show ∀vs f' H',Mt K f0 H0 f' H' σ en→Kp σ en f H en f' H'→XasOk K f' σ vs []→Q vs H' from o) [] f H m (.of_po (Po.refl m.po.sub)) .nil
theorem imp_xop2 {o:O2} {a b:XE} {σ H Q} (h:dX L K W (.op2 o a b) σ H Q):tOp (rO2 K o) (dX L K W a) (dX L K W b) σ H Q:=by
 obtain ⟨f0,H0,f,en,m,ot⟩:=h;refine ⟨f0,H0,f,en,m,(OutX.bind ot).imp (Same.refl f) fun x en1 _ h1 v f1 H1 m1 k1 hv=>⟨f0,H0,f1,en1,m1,(OutX.bind h1).imp k1.sf fun y en2 _ h2 u f2 H2 m2 k2 hu=>?_⟩⟩;obtain ⟨d,e,k⟩:=OutX.okk h2 (bind_noex (sem2_noex _ _ _) fun _=>ok_noex);obtain ⟨p,e1,e2⟩:=R.of_bind e;cases e2;refine ⟨f2,x,y,p,m2.po.sub,.inl (dp_same k2.sf hv),.inl hu,e1,fun w f' H' q hw=>?_⟩;obtain ⟨f3,q3,hw2⟩:=hw.settle q;exact k w f3 H' (m2.mono q3) ((k1.trans k2).trans (.of_po q3)) hw2
theorem imp_xnot {a:XE} {σ H Q} (h:dX L K W (.not a) σ H Q):tNotT K (dX L K W a) σ H Q:=by
 obtain ⟨f0,H0,f,en,m,ot⟩:=h;refine ⟨f0,H0,f,en,m,(OutX.bind ot).imp (Same.refl f) fun x en1 _ h1 v f1 H1 m1 k1 hv=>?_⟩;obtain ⟨t,e,k⟩:=OutX.okk (OutX.bind h1) (truR_noex _);exact ⟨t,truV_of m1.po.sub (.inl hv) e,(show ∀v f' H',Mt K f0 H0 f' H' σ en1→Kp σ en f H en1 f' H'→Dp K f' v (.bool (!t))→Q v H' from k) _ f1 H1 m1 k1 (.bl _)⟩
theorem imp_xand {a b:XE} {σ H Q} (h:dX L K W (.and a b) σ H Q):tAndT K (dX L K W a) (dX L K W b) σ H Q:=by
 obtain ⟨f0,H0,f,en,m,ot⟩:=h;refine ⟨f0,H0,f,en,m,(OutX.bind ot).imp (Same.refl f) fun x en1 _ h1 v f1 H1 m1 k1 hv=>?_⟩;obtain ⟨t,e,k⟩:=OutX.okk (OutX.bind h1) (truR_noex _);refine ⟨t,truV_of m1.po.sub (.inl hv) e,?_⟩;cases t with
 | true =>
  rw [if_pos rfl] at k ⊢;exact ⟨f0,H0,f1,en1,m1,k.imp k1.sf fun d en2 _ h2 w f2 H2 m2 k2 hw=>h2 w f2 H2 m2 (k1.trans k2) hw⟩
 | false =>
  rw [if_neg Bool.false_ne_true] at k ⊢;exact (show ∀v f' H',Mt K f0 H0 f' H' σ en1→Kp σ en f H en1 f' H'→Dp K f' v x→Q v H' from k) v f1 H1 m1 k1 hv
theorem imp_xor {a b:XE} {σ H Q} (h:dX L K W (.or a b) σ H Q):tOrT K (dX L K W a) (dX L K W b) σ H Q:=by
 obtain ⟨f0,H0,f,en,m,ot⟩:=h;refine ⟨f0,H0,f,en,m,(OutX.bind ot).imp (Same.refl f) fun x en1 _ h1 v f1 H1 m1 k1 hv=>?_⟩;obtain ⟨t,e,k⟩:=OutX.okk (OutX.bind h1) (truR_noex _);refine ⟨t,truV_of m1.po.sub (.inl hv) e,?_⟩;cases t with
 | true =>
  rw [if_pos rfl] at k ⊢;exact (show ∀v f' H',Mt K f0 H0 f' H' σ en1→Kp σ en f H en1 f' H'→Dp K f' v x→Q v H' from k) v f1 H1 m1 k1 hv
 | false =>
  rw [if_neg Bool.false_ne_true] at k ⊢;exact ⟨f0,H0,f1,en1,m1,k.imp k1.sf fun d en2 _ h2 w f2 H2 m2 k2 hw=>h2 w f2 H2 m2 (k1.trans k2) hw⟩
theorem imp_xtup {xs:Xs} {σ H Q} (h:dX L K W (.tup xs) σ H Q):tTup (dXs L K W xs) σ H Q:=by
 obtain ⟨f0,H0,f,en,m,ot⟩:=h;refine ⟨f0,H0,f,en,m,(OutX.bind ot).imp (Same.refl f) fun rs en1 _ h1 vs f1 H1 m1 k1 hvs=>?_⟩;cases e:xVs rs with
 | none=>rw [e] at h1;exact h1.elim
 | some ds =>
  rw [e] at h1;have ha:=xas_vs hvs e;have h1:OutX L.cls W σ K f0 H0 f (if ds.length≤line then XR.ok (PyData.tuple ds) en1 else .no) _:=h1;by_cases hz:ds.length≤line
  ·rw [if_pos hz] at h1;refine ⟨by rw [ha.length,←line_eq];exact hz,fun p hp=>?_⟩;have q:=(Po.refl m1.po.sub).new (o := .tup vs) hp;exact (show ∀v f' H',Mt K f0 H0 f' H' σ en1→Kp σ en f H en1 f' H'→Dp K f' v (.tuple ds)→Q v H' from h1) _ _ _ (m1.mono q) (k1.trans (.of_po q)) (.tup (.inl (.inl upd_same)) (dpa_same q.sf ha))
  ·rw [if_neg hz] at h1;exact h1.elim
theorem imp_xlst {xs:Xs} {σ H Q} (h:dX L K W (.lst xs) σ H Q):tLst (dXs L K W xs) σ H Q:=by
 obtain ⟨f0,H0,f,en,m,ot⟩:=h;refine ⟨f0,H0,f,en,m,(OutX.bind ot).imp (Same.refl f) fun rs en1 _ h1 vs f1 H1 m1 k1 hvs=>?_⟩;cases e:xVs rs with
 | none=>rw [e] at h1;exact h1.elim
 | some ds =>
  rw [e] at h1;have ha:=xas_vs hvs e;have h1:OutX L.cls W σ K f0 H0 f (if ds.length≤line then XR.ok (PyData.list ds) en1 else .no) _:=h1;by_cases hz:ds.length≤line
  ·rw [if_pos hz] at h1;refine ⟨by rw [ha.length,←line_eq];exact hz,fun p hp=>?_⟩;have q:=(Po.refl m1.po.sub).new (o := .lst vs) hp;exact (show ∀v f' H',Mt K f0 H0 f' H' σ en1→Kp σ en f H en1 f' H'→Dp K f' v (.list ds)→Q v H' from h1) _ _ _ (m1.mono q) (k1.trans (.of_po q)) (.lst (.inl (.inl upd_same)) (dpa_same q.sf ha))
  ·rw [if_neg hz] at h1;exact h1.elim
theorem imp_xcall {j k:Nat} {xs:Xs} {dvs:List V} {σ H Q} (hd:∀H,DpAll K H dvs (dflT L.T j k)) (h:dX L K W (.call j xs k) σ H Q):tCallSD (L.sp K j) dvs (WE W) (dXs L K W xs) σ H Q:=by
 obtain ⟨f0,H0,f,en,m,ot⟩:=h;refine ⟨f0,H0,f,en,m,(OutX.bind ot).imp (Same.refl f) fun rs en1 _ h1 vs f1 H1 m1 k1 hvs=>?_⟩;cases e:xVs rs with
 | none=>rw [e] at h1;exact h1.elim
 | some ds =>
  rw [e] at h1;have ha:=xas_vs hvs e;have h2:=Out.bind (OutX.of m1 (OutX.imp (f1:=f1) h1 k1.sf fun _ _ _ z=>z));refine ⟨f1,ds.map .va++(dflT L.T j k).map .va,m1.po.sub,m1.ct,(args_va ha).append (hd f1),.inl ?_⟩;cases ec:L.c j (ds.map .va++(dflT L.T j k).map .va) with
  | ok p =>
   rw [ec] at h2;intro v f' H' q hv;obtain ⟨f2,q2,hv2⟩:=hv.settle q;exact h2 v f2 H' (m1.mono q2) (k1.trans (.of_po q2)) hv2
  | ex k=>rw [ec] at h2;exact h2
  | no=>rw [ec] at h2;exact h2
theorem imp_xst {j i:Nat} {xs:Xs} {σ H Q} (h:dX L K W (.st j i xs) σ H Q):tCallSD (L.sp K j) [] (WE W) (tCons (tVar i) (dXs L K W xs)) σ H Q:=by
 obtain ⟨f0,H0,f,en,m,ot⟩:=h;have ot:OutX L.cls W σ K f0 H0 f (if isL en i=true then (evXs L.G L.c (dflT L.T) xs en).bind fun rs en1=>(match xSls en1 i rs with
  | some ss=>(match en1[i]? with
   | some (.ow ds)=>stR ss (L.c j (.ow ds::asV ss)) (fun ds' d=>XR.ok d (en1.set i (.ow ds'))) fun n => .ex n en1
   | some (.st ds)=>stR ss (L.c j (.ow ds::asV ss)) (fun ds' d=>XR.ok d (en1.set i (.st ds'))) fun n => .ex n en1
   | _ => .no)
  | none => .no) else .no) _:=ot
 by_cases hi:isL en i=true
 ·rw [if_pos hi] at ot;obtain ⟨s0,p0,e0,hm0,es⟩:=isL_st m hi;refine ⟨_,es,f0,H0,f,en,m,(OutX.bind ot).imp (Same.refl f) fun rs en1 _ h1 vs f1 H1 m1 k1 hvs=>?_⟩;cases q1:xSls en1 i rs with
  | none=>rw [q1] at h1;exact h1.elim
  | some ss =>
   rw [q1] at h1;have core:∀(ds:List D) (us:List V) (s1:Sl) (mk:List D→Sl),en1[i]?=some s1→s1=mk ds→s1.mu=true→Nw H0 p0→f1 p0=none→H1 p0=some (.lst us)→DpAll K f1 us ds →
     (∀ds' us' f' H',f' p0=none→Nw H0 p0→H' p0=some (.lst us')→DpAll K f' us' ds'→SlOk K H0 f' H' (some (.ref p0)) (mk ds')) →
     OutX L.cls W σ K f0 H0 f (stR ss (L.c j (.ow ds::asV ss)) (fun ds' d=>XR.ok d (en1.set i (mk ds'))) fun n => .ex n en1) (fun d en1=>∀v f' H',Mt K f0 H0 f' H' σ en1→Kp σ en f H en1 f' H'→Dp K f' v d→Q v H') →
     L.sp K j ((.ref p0::vs)++[]) H1 Q (WE W σ):=by
    intro ds us s1 mk e1 emk hm1 h0 hf hH hu hsl ho;have ha:=xas_sls m1 e1 hm1 es hvs q1;have fin:∀f2,Same f1 f2→Same f2 H1→(∀b ps,f2 b≠some (.tbl ps))→f2 p0=none→ArgsOk K f2 (era p0 H1) vs (asV ss) →
      (∀f' H',Po f2 (era p0 H1) f' H'→f' p0=none→∃f'',Po f1 (era p0 H1) f'' H'∧f'' p0=none∧(∀ds' us',(lentless ss||noLs ds')=true→DpAll K f' us' ds'→DpAll K f'' us' ds')∧(∀d v,(lentless ss||noL d)=true→Dp K f' v d→Dp K f'' v d)) →
      L.sp K j ((.ref p0::vs)++[]) H1 Q (WE W σ):=by
     intro f2 s12 s2H nt2 hf2 ha2 hun;rw [List.append_nil];refine ⟨f2,.rd ds::asV ss,s2H,⟨m1.ct.1,nt2⟩,.cons (.rd (.inl (.inl hH)) (dpa_same s12 hu)) ?_,.inr (.inr ⟨p0,us,ds,vs,asV ss,rfl,rfl,hf2,hH,dpa_same s12 hu,ha2,?_⟩)⟩
     ·exact ha2.mono (Po.era s2H hf2 hH)
     ·cases ec:L.c j (.ow ds::asV ss) with
      | no=>rw [ec] at ho;exact ho.elim
      | ex k =>
       rw [ec] at ho;have ho:OutX L.cls W σ K f0 H0 f (if lentless ss=true then XR.ex k en1 else XR.no) (fun d en1=>∀v f' H',Mt K f0 H0 f' H' σ en1→Kp σ en f H en1 f' H'→Dp K f' v d→Q v H'):=ho;by_cases hl:lentless ss=true
       ·rw [if_pos hl] at ho;intro f' H' us' q hf' hH' hu';obtain ⟨f3,q3,hf3,hds,_⟩:=hun f' H' q hf';have hd3:=hds ds us' (by rw [hl];rfl) hu';have m3:=m1.callS e1 hm1 es h0 hf hH q3 hf3 (hsl ds us' f3 H' hf3 h0 hH' hd3);rw [←emk] at m3;have e3:en1.set i s1=en1:=by
         refine List.ext_getElem? fun k=>?_;by_cases hk:i=k
         ·subst hk;have hl:i<en1.length:=by
           rcases Nat.lt_or_ge i en1.length with h | h
           ·exact h
           ·rw [List.getElem?_eq_none h] at e1;cases e1
          rw [List.getElem?_set_self hl,e1]
         ·rw [List.getElem?_set_ne hk]
        rw [e3] at m3;exact ho f3 H' m3 (k1.sf.trans q3.sf)
       ·rw [if_neg hl] at ho;exact ho.elim
      | ok r =>
       rw [ec] at ho;obtain ⟨d0,b0⟩:=r;unfold stR at ho;split at ho
       ·rename_i ds' d b' eq;cases eq;by_cases hz:(lentless ss||(noL d&&noLs ds'))=true
        ·rw [if_pos hz] at ho;intro v f' H' us' q hf' hH' hu' hv;obtain ⟨f3,q3,hf3,hds,hdv⟩:=hun f' H' q hf';have z1:(lentless ss||noLs ds')=true:=by
          revert hz
          cases lentless ss <;> cases noL d <;> cases noLs ds' <;> decide
         have z2:(lentless ss||noL d)=true:=by
          revert hz
          cases lentless ss <;> cases noL d <;> cases noLs ds' <;> decide
         exact ho v f3 H' (m1.callS e1 hm1 es h0 hf hH q3 hf3 (hsl ds' us' f3 H' hf3 h0 hH' (hds ds' us' z1 hu'))) (k1.trans (.callS e1 hm1 es q3)) (hdv d v z2 hv)
        ·rw [if_neg hz] at ho;exact ho.elim
       ·rename_i eq;cases eq
       ·exact ho.elim
    by_cases hl:lentless ss=true
    ·exact fin f1 (Same.refl f1) m1.po.sub m1.ct.2 hf (by rw [lentless_va hl];exact ha) fun f' H' q hf'=>⟨f',q,hf',fun _ _ _ h=>h,fun _ _ _ h=>h⟩
    ·have sE:Same f1 (era p0 H1):=era_sub m1.po.sub hf;obtain ⟨B,hB,ha2⟩:=args_asV sE ha;have nB:¬B p0:=fun z=>by
      obtain ⟨ys,hy⟩:=hB p0 z;rcases hy with hy | ⟨o,hy⟩ <;> rw [era_at] at hy <;> cases hy
     refine fin (lent f1 (era p0 H1) B) (lent_same sE) (fun a o e=>(era_some (lent_sub sE a o e)).2) (lent_nt hB m1.ct.2) (by unfold lent;rw [if_neg nB];exact hf) ha2 fun f' H' q hf'=>?_;obtain ⟨f'',q'',nz,un⟩:=unlent (K:=K) sE hB q;refine ⟨f'',q'',?_,fun ds' us' hz hu'=>?_,fun d v hz hv=>?_⟩
     ·exact nz p0 hf'
     ·have hn:noLs ds'=true:=by simpa [hl] using hz
      exact dpa_un un hn hu'
     ·exact un (by simpa [hl] using hz) hv
   cases q3:en1[i]? with
   | none=>rw [q3] at h1;exact h1.elim
   | some s1 =>
    rw [q3] at h1;cases s1 with
    | ow ds =>
     obtain ⟨p,us,e1,h0,hf,hH,hu⟩:=m1.ow q3;rw [es] at e1;cases e1;exact core ds us _ .ow q3 rfl rfl h0 hf hH hu (fun ds' us' f' H' h1 h2 h3 h4 => .ow h2 h1 h3 h4) h1
    | st ds =>
     obtain ⟨p,us,e1,hs,h0,hf,hH,hu⟩:=m1.st q3;rw [es] at e1;cases e1;exact core ds us _ .st q3 rfl rfl h0 hf hH hu (fun ds' us' f' H' h1 h2 h3 h4 => .st hs h2 h1 h3 h4) h1
    | _=>exact h1.elim
 ·rw [if_neg hi] at ot;exact ot.elim
end
end AW
namespace AW
open PySem PySem.Spec PyProof.Rows L2
variable [CdT] [StA]
mutual
def ckX (T:List Fn) (cs:List (Str×D)) (cl:List Str) (N:List Str) (sc:Nms):XE→Expr→Bool
 | .pu x,e=>ckE T cs cl N sc x e
 | .st j i xs,e=>(match e with
  | .Call (.Name f _) (.Name y _::as) [] _=>(match T[j]? with
   | some g=>g.name==f
   | none=>false)&&glOk sc f&&nmOk N sc i y&&ckXs T cs cl N sc xs as
  | _=>false)
 | .not a,e=>(match e with
  | .UnaryOp .Not b _=>ckX T cs cl N sc a b
  | _=>false)
 | .op2 o a b,e=>(match e with
  | .BinOp l op r _=>binOf o op&&ckX T cs cl N sc a l&&ckX T cs cl N sc b r
  | .Compare l [op] [r] _=>cmpOf o op && !behindInMarks op r&&ckX T cs cl N sc a l&&ckX T cs cl N sc b r
  | .Subscript l r _=>(match o with | .idx=>true | _=>false)&&ckX T cs cl N sc a l&&ckX T cs cl N sc b r&&plainE r
  | _=>false)
 | .tup xs,e=>(match e with
  | .Tuple es _ _=>ckXs T cs cl N sc xs es
  | _=>false)
 | .lst xs,e=>(match e with
  | .List es _=>ckXs T cs cl N sc xs es
  | _=>false)
 | .call j xs m,e=>(match e with
  | .Call (.Name f _) (x::as) [] _=>(match T[j]? with
   | some g=>g.name==f&&decide (m≤g.dfl.length)
   | none=>false)&&glOk sc f&&ckXs T cs cl N sc xs (x::as)
  | _=>false)
 | .and a b,e=>(match e with
  | .BoolOp .And (l::r::[]) _=>ckX T cs cl N sc a l&&ckX T cs cl N sc b r
  | .BoolOp .And (l::r::q::rest) p=>ckX T cs cl N sc a l&&ckX T cs cl N sc b (.BoolOp .And (r::q::rest) p)
  | _=>false)
 | .or a b,e=>(match e with
  | .BoolOp .Or (l::r::[]) _=>ckX T cs cl N sc a l&&ckX T cs cl N sc b r
  | .BoolOp .Or (l::r::q::rest) p=>ckX T cs cl N sc a l&&ckX T cs cl N sc b (.BoolOp .Or (r::q::rest) p)
  | _=>false)
 | .cmp elt i n own,e=>(match e with
  | .ListComp elt' [⟨tg',.Call (.Name f _) [b] [] _,[],0⟩] scope _=>f == "range" && glOk sc f&&ckX T cs cl N sc n b&&blkOkB N sc scope own&&ckT N scope.names (.nm i) tg'&&(own.map (·.2)).contains i&&ckX T cs cl N scope.names elt elt'
  | _=>false)
def ckXs (T:List Fn) (cs:List (Str×D)) (cl:List Str) (N:List Str) (sc:Nms):Xs→List Expr→Bool
 | .nil,xs=>xs.isEmpty
 | .cons e r,xs=>(match xs with
  | x::xs=>ckX T cs cl N sc e x&&ckXs T cs cl N sc r xs
  | []=>false)
 | .ln i r,xs=>(match xs with
  | .Name y _::xs=>nmOk N sc i y&&ckXs T cs cl N sc r xs
  | _=>false)
end
section
variable {L:Lk} {N:List Str} {sc:Nms} {W:WX} {X:Cx} {K:PySem.W.Frag}
theorem starX_of {T:List Fn} {cs:List (Str×D)} {cl:List Str} {x:XE} {e:Expr} (h:ckX T cs cl N sc x e=true) (es:List Expr):starEach (e::es) X.env=(false,eval e X.env)::starEach es X.env:=by
 cases e with
 | Starred v p =>
  cases x with
  | pu y=>exact star_of (x:=y) h es
  | _=>cases h
 | _=>rfl
theorem starsX_of {T:List Fn} {cs:List (Str×D)} {cl:List Str} {pos:Pos}:∀{xs:Xs} {es:List Expr},ckXs T cs cl N sc xs es=true→(backTo pos (starEach es X.env)).any (·.1)=false
 | .nil,[],_=>rfl
 | .nil,_::_,h=>by cases h
 | .cons x r,[],h=>by cases h
 | .ln i r,[],h=>by cases h
 | .ln i r,e::es,h=>by
  cases e with
  | Name y p =>
   have h':(nmOk N sc i y&&ckXs T cs cl N sc r es)=true:=h;rw [Bool.and_eq_true] at h';show ((backTo pos (starEach es X.env)).any (·.1))=false;exact starsX_of h'.2
  | _=>cases h
 | .cons x r,e::es,h=>by
  have h':(ckX T cs cl N sc x e&&ckXs T cs cl N sc r es)=true:=h;rw [Bool.and_eq_true] at h';rw [starX_of h'.1];show ((backTo pos (starEach es X.env)).any (·.1))=false;exact starsX_of h'.2
def dXI (L:Lk) (K:PySem.W.Frag) (W:WX) (x:XE):TI:=fun σ H Rr=>∃f0 H0 f en,Mt K f0 H0 f H σ en∧OutX L.cls W σ K f0 H0 f ((evX L.G L.c (dflT L.T) x en).bind fun x en1=>XR.of en1 ((intR x).bind fun j=>rngR 0 j)) fun ds en1=>∀J f' H',Mt K f0 H0 f' H' σ en1→Kp σ en f H en1 f' H'→Wk K f' J ds→Rr J H'
theorem impXI {x:XE} {σ H Rr} (h:dXI L K W x σ H Rr):iRng1 (tCons (dX L K W x) tNil) σ H Rr:=by
 obtain ⟨f0,H0,f,en,m,ot⟩:=h;refine ⟨f0,H0,f,en,m,(OutX.bind ot).imp (Same.refl f) fun p en1 _ h1 v f1 H1 m1 k1 hv=>?_⟩;obtain ⟨ds,e,k⟩:=OutX.okk h1 (bind_noex (intR_noex _) fun _=>rngR_noex _ _);obtain ⟨j,e1,e2⟩:=R.of_bind e;obtain ⟨s1,s2,rfl⟩:=rngR_ok e2;have hr:Vr K f1 H1 v p := .inl hv;rw [intR_cases e1] at hr;have hs:=small_ok s2;have ew:=wk_rng (K:=K) (f:=f1) 0 (j-0).toNat;rw [show j-0=j by omega] at k ew;exact ⟨j,by rw [hr.int],hs.1,hs.2,k _ f1 H1 m1 k1 ew⟩
theorem wipe_en_at (en:En):∀(vs:List Nat) (i:Nat),(AW.wipe en vs)[i]?=if i∈vs then (en[i]?).map (fun _=>Sl.un) else en[i]?
 | [],i=>by rw [if_neg (by simp)];rfl
 | v::vs,i=>by
  show ((AW.wipe en vs).set v .un)[i]?=_;by_cases h:v=i
  ·subst h;rw [if_pos (by simp)];have hl':(AW.wipe en vs).length=en.length:=by
    induction vs with
    | nil=>rfl
    | cons w ws ih=>show ((AW.wipe en ws).set w .un).length=_;rw [List.length_set];exact ih
   by_cases hl:v<en.length
   ·rw [List.getElem?_set_self (by rw [hl'];exact hl),List.getElem?_eq_getElem hl];rfl
   ·rw [List.getElem?_eq_none (by rw [List.length_set,hl'];omega),List.getElem?_eq_none (by omega)];rfl
  ·rw [List.getElem?_set_ne h,wipe_en_at en vs i];by_cases hi:i∈vs
   ·rw [if_pos hi,if_pos (List.mem_cons_of_mem _ hi)]
   ·rw [if_neg hi,if_neg (by simp only [List.mem_cons,not_or];exact ⟨Ne.symm h,hi⟩)]
theorem wipe_own {en:En} {vs:List Nat} {i:Nat} {s:Sl} (e:(AW.wipe en vs)[i]?=some s) (h:s.own=true):i ∉ vs∧en[i]?=some s:=by
 rw [wipe_en_at] at e;by_cases hi:i∈vs
 ·rw [if_pos hi] at e;cases q:en[i]? with
  | none=>rw [q] at e;cases e
  | some t=>rw [q] at e;cases e;cases h
 ·rw [if_neg hi] at e;exact ⟨hi,e⟩
theorem Mt.unwipe {f0 H0 f H:Hp} {σ σ':L2.St} {en:En} {vs:List Nat} (m:Mt K f0 H0 f H σ' (AW.wipe en vs)) (hw:L2.wipe σ' vs=L2.wipe σ vs):Mt K f0 H0 f H σ (AW.wipe en vs):=by
 have hl:σ'.length=σ.length:=by rw [←L2.wipe_length σ' vs,hw,L2.wipe_length]
 have hat:∀i,i ∉ vs→σ'[i]?=σ[i]?:=fun i hi=>by
  have:=congrArg (·[i]?) hw;simp only [wipe_at,if_neg hi] at this;exact this
 refine ⟨m.po,m.tb,by rw [←hl];exact m.len,fun i s e=>?_,fun i j p s t e1 e2 h1 h2 a b=>?_⟩
 ·obtain ⟨o,h1,h2⟩:=m.sl i s e;by_cases hi:i∈vs
  ·have:s = .un:=by
    rw [wipe_en_at,if_pos hi] at e;cases q:en[i]? with
    | none=>rw [q] at e;cases e
    | some t=>rw [q] at e;cases e;rfl
   subst this;have hlt:i<σ.length:=by
    rw [←hl];rcases Nat.lt_or_ge i σ'.length with h | h
    ·exact h
    ·rw [List.getElem?_eq_none h] at h1;cases h1
   exact ⟨σ[i],List.getElem?_eq_getElem hlt,.un _⟩
  ·exact ⟨o,by rw [←hat i hi];exact h1,h2⟩
 ·have n1:=(wipe_own e1 (mu_own h1)).1;have n2:=(wipe_own e2 h2).1;exact m.dis i j p s t e1 e2 h1 h2 (by rw [hat i n1];exact a) (by rw [hat j n2];exact b)
theorem imp_xcmp {elt n:XE} {i0:Nat} {own:List (Str×Nat)} (ht:i0∈own.map (·.2)) {σ H Q} (h:dX L K W (.cmp elt i0 n own) σ H Q) :
  tLc (dXI L K W n) (gD K (.nm i0)) (dB L K W0 .none) (dX L K W0 elt) (own.map (·.2)) σ H Q:=by
 obtain ⟨f0,H0,f,en,m,ot⟩:=h;generalize hvs:own.map (·.2)=vs at ht ⊢;have ot':OutX L.cls W σ K f0 H0 f ((evX L.G L.c (dflT L.T) n en).bind fun x en1=>(XR.of en1 ((intR x).bind fun j=>rngR 0 j)).bind fun ds en1 =>
   if ds.length≤line then (match compX (fun d en=>evX L.G L.c (dflT L.T) elt ((AW.wipe en (own.map (·.2))).set i0 (.va d))) ds en1 with
    | .ok vs en2=>XR.ok (PyData.list vs) (AW.wipe en2 (own.map (·.2)))
    | _ => .no) else .no) _:=ot
 rw [hvs] at ot';have as:∀(r:XR D) (g:D→En→XR (List D)) (k:List D→En→XR D),(r.bind fun x e=>(g x e).bind k)=(r.bind g).bind k:=fun r g k=>by cases r <;> rfl
 rw [as] at ot';generalize hF:(fun d en=>evX L.G L.c (dflT L.T) elt ((AW.wipe en vs).set i0 (.va d)))=F at ot';refine ⟨f0,H0,f,en,m,(OutX.bind ot').imp (Same.refl f) fun ds en1 _ h2 J f1 H1 m1 k1 wk D hD=>?_⟩;have hz:ds.length≤line:=by
  refine Classical.byContradiction fun hz=>?_;rw [if_neg hz] at h2;exact h2
 rw [if_pos hz] at h2;have hlen:∀n,n<ds.length→n<sizeLine:=fun n hn=>by rw [←line_eq];omega
 obtain ⟨ys,en2,ec⟩:∃ys en2,compX F ds en1 = .ok ys en2:=by
  cases q:compX F ds en1 with
  | ok ys e=>exact ⟨ys,e,rfl⟩
  | ex c e=>rw [q] at h2;exact h2.elim
  | no=>rw [q] at h2;exact h2.elim
 rw [ec] at h2;have h2:∀v f' H',Mt K f0 H0 f' H' σ (AW.wipe en2 vs)→Kp σ en f H (AW.wipe en2 vs) f' H'→Dp K f' v (.list ys)→Q v H':=h2;have frD:∀(k:Nat) (t:Sl),en1[k]?=some t→t.own=true→σ[k]?≠some (some (.ref D)):=fun k t e ho=>m1.fresh hD k t e ho;have nwD:Nw H0 D:=m1.po.sH.free hD;let St:Nat→Hp→Prop:=fun i H'=>i≤ds.length∧∃fi ei acc done rest,Mt K f0 H0 fi H' (L2.wipe σ vs) (AW.wipe ei vs)∧Kp σ en1 f1 H1 (AW.wipe ei vs) fi H'∧fi D=none∧H' D=some (.lst acc)∧DpAll K fi acc done∧compX F (ds.drop i) ei = .ok rest en2∧done++rest=ys∧done.length≤i
 have kw:∀{ei:En} {fi H':Hp},Kp σ en1 f1 H1 ei fi H'→Kp σ en1 f1 H1 (AW.wipe ei vs) fi H':=fun {ei fi H'} k=>⟨k.sf,k.kp,fun i s e hs=>k.mu i s (wipe_own e hs).2 hs⟩;have q0:Po f1 H1 f1 (upd H1 D (.lst [])):=(Po.refl m1.po.sub).newH hD;refine ⟨fun i mm H'=>mm=ds.length-i∧St i H',⟨ds.length,rfl,Nat.zero_le _,f1,en1,[],[],ys,(m1.mono q0).wipes vs,kw (.of_po q0),m1.po.sub.free hD,upd_same,.nil,ec,rfl,Nat.le_refl _⟩,?_⟩;rintro i mm H' ⟨rfl,hi,fi,ei,acc,done,rest,mi,ki,fD,HD,hacc,hcomp,hys,hdl⟩;have sm1:Same f1 H':=ki.sf.trans mi.po.sub;have frW:∀(k:Nat) (t:Sl),(AW.wipe ei vs)[k]?=some t→t.own=true→(L2.wipe σ vs)[k]?≠some (some (.ref D)):=fun k t e ho=>by
  have hk:=(wipe_own e ho).1;obtain ⟨s',e',ho',_⟩:=ki.mu k t e ho;rw [wipe_at,if_neg hk];exact frD k s' e' ho'
 by_cases hlt:i<ds.length
 ·refine .inr ⟨wk.go i H' sm1 hlt,St (i+1),fun H'' hst=>⟨_,by omega,rfl,hst⟩,fun x H2 hy=>?_⟩;obtain ⟨d,hd,hw⟩:=wk.yld i H' x H2 hlt sm1 hy;obtain ⟨f2,q3,hx⟩:=hw fi ki.sf mi.po.sub;have hdrop:ds.drop i=d::ds.drop (i+1):=by
   rw [List.drop_eq_getElem_cons hlt];have:ds[i]=d:=by
    rw [List.getElem?_eq_getElem hlt] at hd;exact Option.some.inj hd
   rw [this]
  rw [hdrop] at hcomp;have hcomp':(match F d ei with
   | .ok v en1=>(match compX F (ds.drop (i+1)) en1 with
    | .ok vs en2=>XR.ok (v::vs) en2
    | _ => .no)
   | _ => .no) = .ok rest en2:=hcomp
  obtain ⟨v0,e3,rest',eF,er,erest⟩:∃v0 e3 rest',F d ei = .ok v0 e3∧compX F (ds.drop (i+1)) e3 = .ok rest' en2∧rest=v0::rest':=by
   cases q:F d ei with
   | ex c e=>rw [q] at hcomp';cases hcomp'
   | no=>rw [q] at hcomp';cases hcomp'
   | ok v0 e3 =>
    rw [q] at hcomp';have hcomp':(match compX F (ds.drop (i+1)) e3 with
     | .ok vs en2=>XR.ok (v0::vs) en2
     | _ => .no) = .ok rest en2:=hcomp'
    cases q2:compX F (ds.drop (i+1)) e3 with
    | ex c e=>rw [q2] at hcomp';cases hcomp'
    | no=>rw [q2] at hcomp';cases hcomp'
    | ok r e =>
     rw [q2] at hcomp';cases hcomp';exact ⟨_,_,_,rfl,q2,rfl⟩
  have m2:=mi.mono q3;have HD2:H2 D=some (.lst acc):=q3.sH.k HD;have fD2:f2 D=none:=q3.loose fD HD;refine ⟨f0,H0,f2,AW.wipe ei vs,d,(AW.wipe ei vs).set i0 (.va d),m2,hx,rfl,fun σ' m' hwp=>⟨(hwp vs fun k hk=>by cases List.mem_singleton.mp hk;exact ht).trans (wipe_wipe σ vs),?_⟩⟩;have hw':L2.wipe σ' vs=L2.wipe σ vs:=(hwp vs fun k hk=>by cases List.mem_singleton.mp hk;exact ht).trans (wipe_wipe σ vs);have hat:∀k,k ∉ vs→σ'[k]?=σ[k]?:=fun k hk=>by
   have:=congrArg (·[k]?) hw';simp only [wipe_at,if_neg hk] at this;exact this
  have tun:∀(k:Nat) (t:Sl),((AW.wipe ei vs).set i0 (.va d))[k]?=some t→t.own=true→k ∉ vs∧(AW.wipe ei vs)[k]?=some t:=fun k t e ho=>by
   rcases set_at e with ⟨rfl,_,rfl⟩ | ⟨_,e⟩
   ·cases ho
   ·exact ⟨(wipe_own e ho).1,e⟩
  have core:dX L K W0 elt σ' H2 fun y H4=>∃acc,H4 D=some (.lst acc)∧acc.length<sizeLine∧St (i+1) (L2.upd H4 D (.lst (acc++[y]))):=?_
  ·exact core
  refine ⟨f0,H0,f2,_,m',?_⟩;have eF':evX L.G L.c (dflT L.T) elt ((AW.wipe ei vs).set i0 (.va d)) = .ok v0 e3:=by rw [←eF,←hF]
  rw [eF'];intro v f4 H4 m4 k4 hv;obtain ⟨HD4,fD4⟩:=k4.kp D _ HD2 (by intro _ z;cases z) fun k t e hm z=>by
   obtain ⟨hk,e'⟩:=tun k t e (mu_own hm);rw [hat k hk] at z;have:=frW k t e' (mu_own hm);rw [wipe_at,if_neg hk] at this;exact this z
  have fD4:=fD4 fD2;have m5:Mt K f0 H0 f4 H4 (L2.wipe σ vs) (AW.wipe e3 vs):=by
   rw [←hw'];exact m4.wipes vs
  have k5:Kp σ en1 f1 H1 (AW.wipe e3 vs) f4 H4:=by
   refine ⟨(ki.sf.trans q3.sf).trans k4.sf,fun p o hp np hn=>?_,fun k s e hs=>?_⟩
   ·obtain ⟨a1,a2⟩:=ki.kp p o hp np hn;have b1:=q3.sH.keep p o a1 np;obtain ⟨c1,c2⟩:=k4.kp p o b1 np fun k t e hm z=>by
     obtain ⟨hk,e'⟩:=tun k t e (mu_own hm);obtain ⟨s',e'',_,hm'⟩:=ki.mu k t e' (mu_own hm);rw [hat k hk] at z;exact hn k s' e'' (hm' hm) z
    exact ⟨c1,fun z=>c2 (q3.loose (a2 z) a1 np)⟩
   ·obtain ⟨hk,e'⟩:=wipe_own e hs;obtain ⟨s',e1',ho',hm'⟩:=k4.mu k s e' hs;obtain ⟨_,e2'⟩:=tun k s' e1' ho';obtain ⟨s'',e3',ho'',hm''⟩:=ki.mu k s' e2' ho';exact ⟨s'',e3',ho'',fun z=>hm'' (hm' z)⟩
  have hal:=hacc.length;have frW5:∀(k:Nat) (t:Sl),(AW.wipe e3 vs)[k]?=some t→t.own=true→(L2.wipe σ vs)[k]?≠some (some (.ref D)):=fun k t e ho=>by
   have hk:=(wipe_own e ho).1;obtain ⟨s',e',ho',_⟩:=k5.mu k t e ho;rw [wipe_at,if_neg hk];exact frD k s' e' ho'
  have m6:=m5.updN (o := .lst (acc++[v])) nwD fD4 HD4 (by intro _ z;cases z) (by intro _ z;exact HO.noConfusion z) frW5;refine ⟨acc,HD4,hlen _ (by omega),hlt,f4,e3,acc++[v],done++[v0],rest',m6,⟨k5.sf,fun p o hp np hn=>?_,k5.mu⟩,fD4,upd_same,(dpa_same (q3.sf.trans k4.sf) hacc).append (.cons hv .nil),er,?_,by rw [List.length_append,List.length_singleton];omega⟩
  ·obtain ⟨a1,a2⟩:=k5.kp p o hp np hn;have:p≠D:=fun z=>by subst z;rw [hD] at hp;cases hp
   exact ⟨by rw [upd_ne this];exact a1,a2⟩
  ·rw [List.append_assoc];rw [erest] at hys;exact hys
 ·have ei':i=ds.length:=by omega
  subst ei';refine .inl ⟨wk.stop H' sm1,?_⟩;rw [List.drop_length] at hcomp;have:rest=[]∧ei=en2:=by cases hcomp;exact ⟨rfl,rfl⟩
  obtain ⟨rfl,rfl⟩:=this;rw [List.append_nil] at hys;subst hys;have sD:Same fi (upd fi D (.lst acc)):=fun a o x=>by
   rw [upd_ne (ne_of_none x fD)];exact x
  have mw:Mt K f0 H0 fi H' σ (AW.wipe ei vs):=by
   refine Mt.unwipe (σ':=L2.wipe σ vs) mi (wipe_wipe σ vs)
  have frS:∀(k:Nat) (t:Sl),(AW.wipe ei vs)[k]?=some t→t.own=true→σ[k]?≠some (some (.ref D)):=fun k t e ho=>by
   have:=frW k t e ho;rw [wipe_at,if_neg (wipe_own e ho).1] at this;exact this
  refine h2 _ (upd fi D (.lst acc)) H' (mw.settle nwD fD HD frS) (k1.trans ⟨ki.sf.trans sD,fun p o hp np hn=>?_,ki.mu⟩) (.lst (.inl (.inl upd_same)) (dpa_same sD hacc));obtain ⟨a1,a2⟩:=ki.kp p o hp np hn;have:p≠D:=fun z=>by subst z;rw [hD] at hp;cases hp
  exact ⟨a1,fun z=>by rw [upd_ne this];exact a2 z⟩
end
section
variable {L:Lk}
mutual
theorem sX:∀(x:XE) {N:List Str} {sc:Nms} {W:WX} {X:Cx} (_:XC L N sc W X) (e:Expr),ckX L.T L.cons L.clsN N sc x e=true→PE X e (dX L X.K W x)
 | .pu y,N,sc,W,X,xc,e,h=>PE.imp (sE y xc e h) fun σ H Q q=>imp_pu q
 | .st j i xs,N,sc,W,X,xc,e,h=>by
  unfold ckX at h;split at h
  ·rename_i f pf y py as pos;obtain ⟨h,h4⟩:=and2 h;obtain ⟨h,h3⟩:=and2 h;obtain ⟨h1,h2⟩:=and2 h;obtain ⟨g1,g2,g3⟩:=gl_of xc h2;obtain ⟨v1,v2,v3,v4⟩:=vis_of xc h3;cases e:L.T[j]? with
   | none=>rw [e] at h1;cases h1
   | some g =>
    rw [e] at h1;have en:=str_beq h1;subst en;obtain ⟨fa,fd,dvs,ds,hm,hk,F,hv,hd,hb⟩:=xc.lk.fn j g e 0 (Nat.zero_le _);have hdv:dvs=[]:=by
     have h0:=hd (fun _=>none);have:g.dv 0=[]:=by unfold Fn.dv;exact List.drop_length
     rw [this] at h0;cases h0;rfl
    subst hdv;have ih:=pa_cons (pe_var (pos:=py) v1 v2 v3 v4) (sXs xs xc as h4) rfl;exact PE.imp (pe_callSD F xc.room g1 hm hk hb hv (fun σ=>passAt xc.tk σ) ih g2 rfl (starsX_of h4)) fun σ H Q q=>imp_xst q
  ·cases h
 | .not a,N,sc,W,X,xc,e,h=>by
  unfold ckX at h;split at h
  ·exact PE.imp (pe_notT (sX a xc _ h)) fun σ H Q q=>imp_xnot q
  ·cases h
 | .op2 o a b,N,sc,W,X,xc,e,h=>by
  unfold ckX at h;split at h
  ·obtain ⟨h1,h2⟩:=and2 h;obtain ⟨h3,h4⟩:=and2 h1;exact PE.imp (pe_op (op_bin xc.py h3) (sX a xc _ h4) (sX b xc _ h2)) fun σ H Q q=>imp_xop2 q
  ·obtain ⟨h1,h2⟩:=and2 h;obtain ⟨h3,h4⟩:=and2 h1;obtain ⟨h5,h6⟩:=and2 h3;exact PE.imp (pe_cmpR (op_cmp xc.units h5) (sX a xc _ h4) (sX b xc _ h2) (not_false h6)) fun σ H Q q=>imp_xop2 q
  ·obtain ⟨h1,h2⟩:=and2 h;obtain ⟨h3,h4⟩:=and2 h1;obtain ⟨h5,h6⟩:=and2 h3;cases o <;> first
    | (cases h5;done)
    | exact PE.imp (pe_ix ix_A (sX a xc _ h6) (sX b xc _ h4) (plain_ix h2)) fun σ H Q q=>imp_xop2 q
  ·cases h
 | .tup xs,N,sc,W,X,xc,e,h=>by
  unfold ckX at h;split at h
  ·exact PE.imp (pe_tup (sXs xs xc _ h)) fun σ H Q q=>imp_xtup q
  ·cases h
 | .lst xs,N,sc,W,X,xc,e,h=>by
  unfold ckX at h;split at h
  ·exact PE.imp (pe_lst (sXs xs xc _ h)) fun σ H Q q=>imp_xlst q
  ·cases h
 | .call j xs m,N,sc,W,X,xc,e,h=>by
  unfold ckX at h;split at h
  ·rename_i f pf x as pos;obtain ⟨h,h3⟩:=and2 h;obtain ⟨h1,h2⟩:=and2 h;obtain ⟨g1,g2,g3⟩:=gl_of xc h2;cases e:L.T[j]? with
   | none=>rw [e] at h1;cases h1
   | some g =>
    rw [e] at h1;obtain ⟨h1,h4⟩:=and2 h1;have en:=str_beq h1;subst en;obtain ⟨fa,fd,dvs,ds,hm,hk,F,hv,hd,hb⟩:=xc.lk.fn j g e m (of_decide_eq_true h4);have st:starEach (x::as) X.env=(false,eval x X.env)::starEach as X.env∧(backTo pos (starEach as X.env)).any (·.1)=false:=by
     cases xs with
     | nil=>cases h3
     | cons e1 r =>
      have hc':(ckX L.T L.cons L.clsN N sc e1 x&&ckXs L.T L.cons L.clsN N sc r as)=true:=h3;exact ⟨starX_of (and2 hc').1 as,starsX_of (and2 hc').2⟩
     | ln i r =>
      cases x with
      | Name y p =>
       have hc':(nmOk N sc i y&&ckXs L.T L.cons L.clsN N sc r as)=true:=h3;exact ⟨rfl,starsX_of (and2 hc').2⟩
      | _=>cases h3
    refine PE.imp (pe_callSD F xc.room g1 hm hk hb hv (fun σ=>passAt xc.tk σ) (sXs xs xc _ h3) g2 st.1 st.2) fun σ H Q q=>imp_xcall (fun H=>?_) q;have ed:dflT L.T j m=g.dv m:=by unfold dflT;rw [e];rfl
    rw [ed];exact hd H
  ·cases h
 | .and a b,N,sc,W,X,xc,e,h=>by
  unfold ckX at h;split at h
  ·obtain ⟨h1,h2⟩:=and2 h;exact PE.imp (pe_andT (sX a xc _ h1) (pe_one (sX b xc _ h2))) fun σ H Q q=>imp_xand q
  ·obtain ⟨h1,h2⟩:=and2 h;exact PE.imp (pe_andT (sX a xc _ h1) (sX b xc _ h2)) fun σ H Q q=>imp_xand q
  ·cases h
 | .or a b,N,sc,W,X,xc,e,h=>by
  unfold ckX at h;split at h
  ·obtain ⟨h1,h2⟩:=and2 h;exact PE.imp (pe_orT (sX a xc _ h1) (pe_one (sX b xc _ h2))) fun σ H Q q=>imp_xor q
  ·obtain ⟨h1,h2⟩:=and2 h;exact PE.imp (pe_orT (sX a xc _ h1) (sX b xc _ h2)) fun σ H Q q=>imp_xor q
  ·cases h
 | .cmp elt i n own,N,sc,W,X,xc,e,h=>by
  unfold ckX at h;split at h
  ·rename_i elt' tg' f pf b pos scope pos';obtain ⟨h,h7⟩:=and2 h;obtain ⟨h,h6⟩:=and2 h;obtain ⟨h,h5⟩:=and2 h;obtain ⟨h,h4⟩:=and2 h;obtain ⟨h,h3⟩:=and2 h;obtain ⟨h1,h2⟩:=and2 h;have en:=str_beq h1;subst en;have hi:i∈own.map (·.2):=List.contains_iff_mem.mp h6;have pi:PI X tg' (.Call (.Name ("range" : Str) pf) [b] [] pos) (dXI L X.K W n):=PI.imp (pi_range1 (gl_of xc h2).1 (blt_of xc (by decide +kernel)) (pa_cons (sX n xc _ h3) pa_nil (starX_of h3 [])) (starX_of h3 [])) fun σ H Q q=>impXI (L:=L) (K:=X.K) (W:=W) q;exact PE.imp (pe_lc xc.calm xc.nd pi (blk_ok xc h4) (fun s H C cl fp=>sTg (xc.blk h4 s H C cl fp) (.nm i) _ h5) (fun s H C cl fp=>sIf .none (xc.blk h4 s H C cl fp) [] rfl) (fun s H C cl fp=>sX elt (xc.blk h4 s H C cl fp) _ h7) (fun _=>rfl)) fun σ H Q q=>imp_xcmp hi q
  ·cases h
theorem sXs:∀(xs:Xs) {N:List Str} {sc:Nms} {W:WX} {X:Cx} (_:XC L N sc W X) (es:List Expr),ckXs L.T L.cons L.clsN N sc xs es=true→PA X es (dXs L X.K W xs)
 | .nil,N,sc,W,X,xc,es,h=>by
  cases es with
  | nil=>exact PA.imp pa_nil fun σ H Q q=>xs_nil q
  | cons e es=>cases h
 | .cons x r,N,sc,W,X,xc,es,h=>by
  unfold ckXs at h;split at h
  ·obtain ⟨h1,h2⟩:=and2 h;exact PA.imp (pa_cons (sX x xc _ h1) (sXs r xc _ h2) (starX_of h1 _)) fun σ H Q q=>xs_cons q
  ·cases h
 | .ln i r,N,sc,W,X,xc,es,h=>by
  unfold ckXs at h;split at h
  ·obtain ⟨h1,h2⟩:=and2 h;obtain ⟨v1,v2,v3,v4⟩:=vis_of xc h1;exact PA.imp (pa_cons (pe_var v1 v2 v3 v4) (sXs r xc _ h2) rfl) fun σ H Q q=>xs_ln q
  ·cases h
end
def xT (L:Lk) (x:XE) (en:En):XR Bool:=(evX L.G L.c (dflT L.T) x en).bind fun d en1=>XR.of en1 (truR d)
def dXT (L:Lk) (K:PySem.W.Frag) (W:WX) (x:XE):TT:=fun σ H Q=>∃f0 H0 f en,Mt K f0 H0 f H σ en∧OutX L.cls W σ K f0 H0 f (xT L x en) fun b en1=>∀f' H',Mt K f0 H0 f' H' σ en1→Kp σ en f H en1 f' H'→Q b H'
variable {K:PySem.W.Frag} {W:WX}
theorem xT_pu {e:E} {σ H Q} (h:dXT L K W (.pu e) σ H Q):dT L K W e σ H Q:=by
 obtain ⟨f0,H0,f,en,m,ot⟩:=h;have e1:xT L (.pu e) en=XR.of en (((L.ev e en).bind fun p => .ok p.1).bind truR):=by
  show ((XR.of en ((L.ev e en).bind fun p=>R.ok p.1)).bind fun d en1=>XR.of en1 (truR d))=_;cases L.ev e en <;> rfl
 rw [e1] at ot;have o2:=OutX.of m ot;refine ⟨f0,H0,f,en,m,?_⟩;have e2:evT L.G L.c (dflT L.T) e en=((L.ev e en).bind fun p=>R.ok p.1).bind truR:=by
  cases ee:L.ev e en with
  | ok p=>rw [evT_ev ee];rfl
  | ex k=>rw [evT_ex ee];rfl
  | no=>rw [ee] at o2;exact o2.elim
 rw [e2];exact o2.imp (Po.refl m.po.sub) fun b _ k f' H' q=>k f' H' (m.mono q) (.of_po q)
theorem xT_plain {x:XE} {σ H Q} (h:dXT L K W x σ H Q):dX L K W x σ H fun v H'=>∃k,TruV K v H' k∧Q k H':=by
 obtain ⟨f0,H0,f,en,m,ot⟩:=h;refine ⟨f0,H0,f,en,m,(OutX.bind ot).imp (Same.refl f) fun d en1 _ h1 v f1 H1 m1 k1 hv=>?_⟩;obtain ⟨t,e,k⟩:=OutX.okk h1 (truR_noex _);exact ⟨t,truV_of m1.po.sub (.inl hv) e,k f1 H1 m1 k1⟩
theorem xT_and {a b:XE} {σ H Q} (h:dXT L K W (.and a b) σ H Q):tAnd (dXT L K W a) (dXT L K W b) σ H Q:=by
 obtain ⟨f0,H0,f,en,m,ot⟩:=h;have e:xT L (.and a b) en=(xT L a en).bind fun t en1=>if t then xT L b en1 else .ok false en1:=by
  show (((evX L.G L.c (dflT L.T) a en).bind fun x en1=>(XR.of en1 (truR x)).bind fun t en1=>if t then evX L.G L.c (dflT L.T) b en1 else .ok x en1).bind fun d en1=>XR.of en1 (truR d))=((evX L.G L.c (dflT L.T) a en).bind fun d en1=>XR.of en1 (truR d)).bind _;cases evX L.G L.c (dflT L.T) a en with
  | ex c e=>rfl
  | no=>rfl
  | ok x en1 =>
   show ((XR.of en1 (truR x)).bind fun t en1=>if t then evX L.G L.c (dflT L.T) b en1 else .ok x en1).bind _=(XR.of en1 (truR x)).bind _;cases e:truR x with
   | ex c=>rfl
   | no=>rfl
   | ok t =>
    cases t with
    | true=>rfl
    | false=>show XR.of en1 (truR x)=_;rw [e];rfl
 rw [e] at ot;refine ⟨f0,H0,f,en,m,(OutX.bind ot).imp (Same.refl f) fun t en1 _ h1 f1 H1 m1 k1=>?_⟩;cases t with
 | true =>
  rw [if_pos rfl] at h1 ⊢;exact ⟨f0,H0,f1,en1,m1,h1.imp k1.sf fun b en2 _ k f2 H2 m2 k2=>k f2 H2 m2 (k1.trans k2)⟩
 | false =>
  rw [if_neg Bool.false_ne_true] at h1 ⊢;exact (show ∀f' H',Mt K f0 H0 f' H' σ en1→Kp σ en f H en1 f' H'→Q false H' from h1) f1 H1 m1 k1
theorem xT_or {a b:XE} {σ H Q} (h:dXT L K W (.or a b) σ H Q):tOr (dXT L K W a) (dXT L K W b) σ H Q:=by
 obtain ⟨f0,H0,f,en,m,ot⟩:=h;have e:xT L (.or a b) en=(xT L a en).bind fun t en1=>if t then .ok true en1 else xT L b en1:=by
  show (((evX L.G L.c (dflT L.T) a en).bind fun x en1=>(XR.of en1 (truR x)).bind fun t en1=>if t then .ok x en1 else evX L.G L.c (dflT L.T) b en1).bind fun d en1=>XR.of en1 (truR d))=((evX L.G L.c (dflT L.T) a en).bind fun d en1=>XR.of en1 (truR d)).bind _;cases evX L.G L.c (dflT L.T) a en with
  | ex c e=>rfl
  | no=>rfl
  | ok x en1 =>
   show ((XR.of en1 (truR x)).bind fun t en1=>if t then .ok x en1 else evX L.G L.c (dflT L.T) b en1).bind _=(XR.of en1 (truR x)).bind _;cases e:truR x with
   | ex c=>rfl
   | no=>rfl
   | ok t =>
    cases t with
    | false=>rfl
    | true=>show XR.of en1 (truR x)=_;rw [e];rfl
 rw [e] at ot;refine ⟨f0,H0,f,en,m,(OutX.bind ot).imp (Same.refl f) fun t en1 _ h1 f1 H1 m1 k1=>?_⟩;cases t with
 | true =>
  rw [if_pos rfl] at h1 ⊢;exact (show ∀f' H',Mt K f0 H0 f' H' σ en1→Kp σ en f H en1 f' H'→Q true H' from h1) f1 H1 m1 k1
 | false =>
  rw [if_neg Bool.false_ne_true] at h1 ⊢;exact ⟨f0,H0,f1,en1,m1,h1.imp k1.sf fun b en2 _ k f2 H2 m2 k2=>k f2 H2 m2 (k1.trans k2)⟩
theorem xT_not {a:XE} {σ H Q} (h:dXT L K W (.not a) σ H Q):tNot (dXT L K W a) σ H Q:=by
 obtain ⟨f0,H0,f,en,m,ot⟩:=h;have e:xT L (.not a) en=(xT L a en).bind fun t en1 => .ok (!t) en1:=by
  show (((evX L.G L.c (dflT L.T) a en).bind fun x en1=>(XR.of en1 (truR x)).bind fun t en1 => .ok (.bool (!t)) en1).bind fun d en1=>XR.of en1 (truR d))=((evX L.G L.c (dflT L.T) a en).bind fun d en1=>XR.of en1 (truR d)).bind _;cases evX L.G L.c (dflT L.T) a en with
  | ex c e=>rfl
  | no=>rfl
  | ok x en1 =>
   show ((XR.of en1 (truR x)).bind fun t en1=>XR.ok (PyData.bool (!t)) en1).bind _=(XR.of en1 (truR x)).bind _;cases e:truR x <;> rfl
 rw [e] at ot;exact ⟨f0,H0,f,en,m,(OutX.bind ot).imp (Same.refl f) fun t en1 _ h1 f1 H1 m1 k1=>h1 f1 H1 m1 k1⟩
theorem xT_cmp {o:O2} {op:CmpOp} (hc:cmpOf o op=true) {a b:XE} {σ H Q} (h:dXT L K W (.op2 o a b) σ H Q):dX L K W (.op2 o a b) σ H fun v H'=>∃k,v = .bl k∧Q k H':=by
 obtain ⟨f0,H0,f,en,m,ot⟩:=h;refine ⟨f0,H0,f,en,m,(OutX.bind ot).imp (Same.refl f) fun d en1 ed h1 v f1 H1 m1 k1 hv=>?_⟩;have ed':((evX L.G L.c (dflT L.T) a en).bind fun x en1=>(evX L.G L.c (dflT L.T) b en1).bind fun y en2=>XR.of en2 ((sem2 o x y).bind fun p => .ok p.1)) = .ok d en1:=ed;have:∃k,d = .bool k:=by
  cases ea:evX L.G L.c (dflT L.T) a en with
  | ex c e=>rw [ea] at ed';cases ed'
  | no=>rw [ea] at ed';cases ed'
  | ok x e1 =>
   rw [ea] at ed';have ed':((evX L.G L.c (dflT L.T) b e1).bind fun y en2=>XR.of en2 ((sem2 o x y).bind fun p=>R.ok p.1)) = .ok d en1:=ed';cases eb:evX L.G L.c (dflT L.T) b e1 with
   | ex c e=>rw [eb] at ed';cases ed'
   | no=>rw [eb] at ed';cases ed'
   | ok y e2 =>
    rw [eb] at ed';have ed':XR.of e2 ((sem2 o x y).bind fun p=>R.ok p.1) = .ok d en1:=ed';cases es:sem2 o x y with
    | ex k=>rw [es] at ed';cases ed'
    | no=>rw [es] at ed';cases ed'
    | ok p =>
     rw [es] at ed';obtain ⟨k,rfl⟩:=cmp_bool hc es;cases ed';exact ⟨k,rfl⟩
 obtain ⟨k,rfl⟩:=this;cases hv;exact ⟨k,rfl,(show ∀f' H',Mt K f0 H0 f' H' σ en1→Kp σ en f H en1 f' H'→Q k H' from h1) f1 H1 m1 k1⟩
theorem sXT:∀(x:XE) {N:List Str} {sc:Nms} {W:WX} {X:Cx} (_:XC L N sc W X) (e:Expr),ckX L.T L.cons L.clsN N sc x e=true→PT X e (dXT L X.K W x)
 | .pu y,N,sc,W,X,xc,e,h=>PT.imp (sT y xc e h) fun σ H Q q=>xT_pu q
 | .st j i xs,N,sc,W,X,xc,e,h=>by
  have ih:=sX (.st j i xs) xc e h;cases e <;> first
   | (cases h;done)
   | exact PT.imp (pt_truth ih fun _=>rfl) fun σ H Q q=>xT_plain q
 | .not a,N,sc,W,X,xc,e,h=>by
  unfold ckX at h;split at h
  ·exact PT.imp (pt_not (sXT a xc _ h)) fun σ H Q q=>xT_not q
  ·cases h
 | .op2 o a b,N,sc,W,X,xc,e,h=>by
  have ih:=sX (.op2 o a b) xc e h;unfold ckX at h;split at h
  ·exact PT.imp (pt_truth ih fun _=>rfl) fun σ H Q q=>xT_plain q
  ·obtain ⟨h1,h2⟩:=and2 h;obtain ⟨h3,h4⟩:=and2 h1;obtain ⟨h5,h6⟩:=and2 h3;exact PT.imp (pt_cmpR (op_cmp xc.units h5) (sX a xc _ h4) (sX b xc _ h2) (not_false h6)) fun σ H Q q=>imp_xop2 (xT_cmp h5 q)
  ·exact PT.imp (pt_truth ih fun _=>rfl) fun σ H Q q=>xT_plain q
  ·cases h
 | .tup xs,N,sc,W,X,xc,e,h=>by
  have ih:=sX (.tup xs) xc e h;cases e <;> first
   | (cases h;done)
   | exact PT.imp (pt_truth ih fun _=>rfl) fun σ H Q q=>xT_plain q
 | .lst xs,N,sc,W,X,xc,e,h=>by
  have ih:=sX (.lst xs) xc e h;cases e <;> first
   | (cases h;done)
   | exact PT.imp (pt_truth ih fun _=>rfl) fun σ H Q q=>xT_plain q
 | .call j xs k,N,sc,W,X,xc,e,h=>by
  have ih:=sX (.call j xs k) xc e h;cases e <;> first
   | (cases h;done)
   | exact PT.imp (pt_truth ih fun _=>rfl) fun σ H Q q=>xT_plain q
 | .and a b,N,sc,W,X,xc,e,h=>by
  unfold ckX at h;split at h
  ·obtain ⟨h1,h2⟩:=and2 h;exact PT.imp (pw_and (sXT a xc _ h1) (pw_and1 (sXT b xc _ h2))).pt fun σ H Q q=>xT_and q
  ·obtain ⟨h1,h2⟩:=and2 h;exact PT.imp (pw_and (sXT a xc _ h1) (pw_of (sXT b xc _ h2))).pt fun σ H Q q=>xT_and q
  ·cases h
 | .or a b,N,sc,W,X,xc,e,h=>by
  unfold ckX at h;split at h
  ·obtain ⟨h1,h2⟩:=and2 h;exact PT.imp (pw_or (sXT a xc _ h1) (pw_or1 (sXT b xc _ h2))).pt fun σ H Q q=>xT_or q
  ·obtain ⟨h1,h2⟩:=and2 h;exact PT.imp (pw_or (sXT a xc _ h1) (pw_of (sXT b xc _ h2))).pt fun σ H Q q=>xT_or q
  ·cases h
 | .cmp elt i n own,N,sc,W,X,xc,e,h=>by
  have ih:=sX (.cmp elt i n own) xc e h;cases e <;> first
   | (cases h;done)
   | exact PT.imp (pt_truth ih fun _=>rfl) fun σ H Q q=>xT_plain q
end
end AW
namespace AW
open PySem PySem.Spec PyProof.Rows L2
variable [CdT] [StA]
section
variable (L:Lk) (K:PySem.W.Frag) (W:WX)
def EndOk (f0 H0 f:Hp):Fl→Ends→Prop
 | .nx en',Dn=>∀σ' f' H',Same f f'→Mt K f0 H0 f' H' σ' en'→Dn.nx σ' H'
 | .bk en',Dn=>∀σ' f' H',Same f f'→Mt K f0 H0 f' H' σ' en'→Dn.bk σ' H'
 | .ct en',Dn=>∀σ' f' H',Same f f'→Mt K f0 H0 f' H' σ' en'→Dn.ct σ' H'
 | .rt d fr,Dn=>∀v f' H',Po f0 H0 f' H'→Vf K H0 f' H' v d fr→Dn.rt v H'
 | .ex k en',Dn=>∀σ' f' H',Same f f'→Mt K f0 H0 f' H' σ' en'→W (L.cls k) none σ' H'
 | .rtT ds r,Dn=>∀v f' H',Po f0 H0 f' H'→VfT K H0 f' H' v ds r→Dn.rt v H'
 | .rtS d ds,Dn=>∀v f' H' p us,StA.p=some p→Po f0 H0 f' H'→f' p=none→H' p=some (.lst us)→DpAll K f' us ds→Dp K f' v d→Dn.rt v H'
def OutS (f0 H0 f:Hp) (r:R Fl) (Dn:Ends):Prop:=match r with
 | .ok fl=>EndOk L K W f0 H0 f fl Dn
 | _=>False
noncomputable abbrev Lk.es (s:S) (en:En):R Fl:=evS L.G L.c (dflT L.T) s en
noncomputable abbrev Lk.ess (s:Ss) (en:En):R Fl:=evSs L.G L.c (dflT L.T) s en
def dS (s:S):TS:=fun Dn σ H=>∃f0 H0 f en,Mt K f0 H0 f H σ en∧OutS L K W f0 H0 f (L.es s en) Dn
def dSs (s:Ss):TS:=fun Dn σ H=>∃f0 H0 f en,Mt K f0 H0 f H σ en∧OutS L K W f0 H0 f (L.ess s en) Dn
end
section
variable {L:Lk} {K:PySem.W.Frag} {W:WX} {f0 H0 f H f1 H1:Hp} {σ:L2.St} {en:En} {Dn:Ends} {α:Type}
theorem EndOk.mono {fl:Fl} (s:Same f f1) (h:EndOk L K W f0 H0 f fl Dn):EndOk L K W f0 H0 f1 fl Dn:=by
 cases fl with
 | nx e=>exact fun σ' f' H' s' m=>h σ' f' H' (s.trans s') m
 | bk e=>exact fun σ' f' H' s' m=>h σ' f' H' (s.trans s') m
 | ct e=>exact fun σ' f' H' s' m=>h σ' f' H' (s.trans s') m
 | rt d fr=>exact h
 | rtT d r=>exact h
 | rtS d r=>exact h
 | ex k e=>exact fun σ' f' H' s' m=>h σ' f' H' (s.trans s') m
theorem OutS.mono {r:R Fl} (s:Same f f1) (h:OutS L K W f0 H0 f r Dn):OutS L K W f0 H0 f1 r Dn:=by
 cases r with
 | ok fl=>exact EndOk.mono s h
 | ex k=>exact h
 | no=>exact h
theorem OutS.lf {r:R α} {g:α→R Fl} (m:Mt K f0 H0 f H σ en) (h:OutS L K W f0 H0 f (lf en r g) Dn):Out L.cls W σ f H r fun a=>OutS L K W f0 H0 f (g a) Dn:=by
 cases r with
 | ok a=>exact h
 | ex k=>exact fun f' H' q=>(show EndOk L K W f0 H0 f (.ex k en) Dn from h) σ f' H' q.sf (m.mono q)
 | no=>exact h
theorem OutS.bind {r:R α} {g:α→R Fl} (h:OutS L K W f0 H0 f (r.bind g) Dn):∃a,r = .ok a∧OutS L K W f0 H0 f (g a) Dn:=by
 cases r with
 | ok a=>exact ⟨a,rfl,h⟩
 | ex k=>exact h.elim
 | no=>exact h.elim
end
def plainV:Expr→Bool
 | .ListComp .. => false
 | .SetComp .. => false
 | .DictComp .. => false
 | .Tuple .. => false
 | _=>true
def plainS:Expr→Bool
 | .ListComp .. => false
 | .SetComp .. => false
 | .DictComp .. => false
 | _=>true
def cellName (sc:Nms):Expr→Bool
 | .Name id _=>sc.lookup id==some .cell
 | _=>true
def noSwap (sc:Nms) (ts:List Expr) (vs:List Expr):Bool := !(ts.length==2||ts.length==3)||ts.any (cellName sc)
def stOk (sc:Nms):Expr→Expr→Bool
 | .Name x p,.ListComp _ _ scope q=>sc.lookup x==some .cell||p.line != q.line||scope.names.any fun (n,k)=>n==x&&(k == .local||k == .cell)
 | .Tuple _ _ _,.ListComp .. => true
 | .Name _ _,.Tuple .. => true
 | .Tuple ts _ _,.Tuple vs _ _=>noSwap sc ts vs
 | _,e=>plainV e
def compNow (sc:Nms) (x:Str) (p:Pos):Expr→Bool
 | .ListComp _ [_] scope q=>sc.lookup x==some .local&&p.line==q.line && !(scope.names.any fun (n,k)=>n==x&&(k == .local||k == .cell))
 | _=>false
def isCmp:E→Bool
 | .cmp .. => true
 | _=>false
def parOk (N:List Str) (sc:Nms):List Nat→List Expr→Bool
 | [],[]=>true
 | i::is,.Name x _::es=>N[i]?==some x&&sc.lookup x==some .local&&parOk N sc is es
 | _,_=>false
def sameLine:List Expr→Bool
 | []=>true
 | e::es=>es.all fun e'=>e'.pos.line==e.pos.line
def augOf:O2→Operator→Bool
 | .add,.Add=>true
 | .sub,.Sub=>true
 | .mul,.Mult=>true
 | .fdiv,.FloorDiv=>true
 | .mod,.Mod=>true
 | _,_=>false
def wkApp (T:List Fn) (cs:List (Str×D)) (cl:List Str) (N:List Str) (sc:Nms) (i:Nat):Es→List Stmt→Option (List Stmt)
 | .nil,sts=>some sts
 | .cons e es,sts=>(match sts with
  | .Expr (.Call (.Attribute (.Name x _) m ap) [.Lambda ⟨[],[],none,[],[],none,[]⟩ b scope _] [] cp) _::rest =>
    if nmOk N sc i x&&m == "append" && ap.endLine==cp.line&&lamOk sc scope&&ckE T cs cl N scope.names e b then wkApp T cs cl N sc i es rest else none
  | _=>none)
def wkIf (T:List Fn) (N:List Str) (sc:Nms) (i w j:Nat) (st:Stmt):Bool:=match st with
 | .If (.Compare (.Constant (.bool false) k1 p1) [.In] [.ListComp (.Call (.Name f _) [.Name y _] [] _) [⟨.Name y2 _,.Name x _,[],0⟩] scope p2] _) [.Return (some (.Constant (.bool false) _ _)) _] [] _ =>
   nmOk N sc i x&&glOk scope.names f&&(match T[j]? with | some g=>g.name==f&&(match g.body with | .rf _ _ _=>true | _=>false) | none=>false)&&blkOkB N sc scope [(y,w)]&&nmOk N scope.names w y&&locOk N scope.names w y2
 | _=>false
def wkAll (T:List Fn) (cs:List (Str×D)) (cl:List Str) (N:List Str) (sc:Nms) (i w j:Nat) (ks:List Nat) (es:Es) (sts:List Stmt):Option (List Stmt):=match es,sts with
 | .cons e es,.Assign [.Name x _] (.List [.Lambda ⟨[],[],none,[],[],none,[]⟩ b scope _] _) _::rest =>
   if locOk N sc i x&&isMk sc&&ksOk cl ks&&lamOk sc scope&&ckE T cs cl N scope.names e b then (match wkApp T cs cl N sc i es rest with
    | some (st::rest)=>if wkIf T N sc i w j st then some rest else none
    | _=>none) else none
 | _,_=>none
def andEq:Expr→Bool
 | .BoolOp .And [_,.Compare (.Name _ _) [.Eq] [.Constant (.str _) _ _] _] _=>true
 | _=>false
def andE:E→Bool
 | .and _ (.op2 .eq (.var _) (.con (.str _)))=>true
 | _=>false
def tokOk (T:List Fn) (cs:List (Str×D)) (cl:List Str) (N:List Str) (sc:Nms):S→Stmt→Bool
 | .asgO i (.op2 .add (.peek i') (.lst (.cons (.op2 .add (.var w) (.con (.str k))) es))),.Assign [.Name x _] (.BinOp a .Add (.List (.BinOp b .Add (.Constant (.str k') _ _) _::es') _) _) _ =>
  locOk N sc i x&&ckE T cs cl N sc (.peek i') a&&ckE T cs cl N sc (.var w) b&&k'==k&&ckEs T cs cl N sc es es'
 | _,_=>false
def rplOk (T:List Fn) (cs:List (Str×D)) (cl:List Str) (N:List Str) (sc:Nms):S→Stmt→Bool
 | .asgO i (.op2 .add (.peek i') (.lst (.cons (.rplE v c d) (.cons (.rplE v2 c2 d2) es)))),.Assign [.Name x _] (.BinOp a .Add (.List (.Call (.Attribute (.Name z _) m1 mp1) [.Constant (.str c') _ _,.Constant (.str d') _ _] [] cp1 :: .Call (.Attribute (.Name z2 _) m2 mp2) [.Constant (.str c2') _ _,.Constant (.str d2') _ _] [] cp2::es') _) _) _ =>
  locOk N sc i x&&ckE T cs cl N sc (.peek i') a&&nmOk N sc v z&&m1 == "replace" && c'==c&&d'==d&&mp1.endLine==cp1.line&&nmOk N sc v2 z2&&m2 == "replace" && c2'==c2&&d2'==d2&&mp2.endLine==cp2.line&&ckEs T cs cl N sc es es'
 | _,_=>false
mutual
def ckS (T:List Fn) (cs:List (Str×D)) (cl:List Str) (N:List Str) (sc:Nms):S→Stmt→Bool
 | .pass,s=>(match s with
  | .Pass _=>true
  | _=>false)
 | .asg tg e,s=>(match s with
  | .Assign [tg'] e' _=>ckT N sc tg tg'&&ckE T cs cl N sc e e'&&stOk sc tg' e'
  | _=>false)
 | .asgO i e,s=>(match s with
  | .Assign [.Name x p] e' _=>locOk N sc i x&&ckE T cs cl N sc e e'&&stOk sc (.Name x p) e'
  | _=>false)
 | .dnew i,s=>(match s with
  | .Assign [.Name x p] (.Dict [] [] _) _=>locOk N sc i x
  | _=>false)
 | .asgC i o e,s=>(match s with
  | .Assign [.Name x p] e' _=>N[i]?==some x&&ckE T cs cl N sc e e'&&compNow sc x p e'&&isCmp e
  | _=>false)
 | .jnew i,s=>(match s with
  | .Assign [.Name x p] (.Dict [] [] _) _=>locOk N sc i x
  | _=>false)
 | .ins i k e,s=>(match s with
  | .Expr (.Call (.Attribute (.Name x _) m ap) [k',e'] [] cp) _=>nmOk N sc i x&&m == "insert" && ckE T cs cl N sc k k'&&ckE T cs cl N sc e e'&&ap.endLine==cp.line
  | _=>false)
 | .par is es,s=>(match s with
  | .Assign [.Tuple ts _ _] (.Tuple vs _ _) _=>parOk N sc is ts&&ckEs T cs cl N sc es vs&&decide (is.length=2∨is.length=3)&&decide is.Nodup&&vs.length==is.length&&sameLine ts && !(vs.all (foldedForSure 8)) && !(vs.all (constantsAlone 8))
  | _=>false)
 | .parL i j k a b e,s=>(match s with
  | .Assign [.Tuple ts _ _] (.Tuple [va,vb,ve] _ _) _=>parOk N sc [i,j,k] ts&&ckE T cs cl N sc a va&&ckE T cs cl N sc b vb&&ckE T cs cl N sc e ve&&decide [i,j,k].Nodup&&sameLine ts && !([va,vb,ve].all (foldedForSure 8)) && !([va,vb,ve].all (constantsAlone 8))
  | _=>false)
 | .parM i j k a b e,s=>(match s with
  | .Assign [.Tuple ts _ _] (.Tuple [va,vb,ve] _ _) _=>parOk N sc [i,j,k] ts&&ckE T cs cl N sc a va&&ckE T cs cl N sc b vb&&ckE T cs cl N sc e ve&&decide [i,j,k].Nodup&&sameLine ts && !([va,vb,ve].all (foldedForSure 8)) && !([va,vb,ve].all (constantsAlone 8))
  | _=>false)
 | .xpar i j a b,s=>(match s with
  | .Assign [.Tuple ts _ _] (.Tuple [va,vb] _ _) _=>parOk N sc [i,j] ts&&ckX T cs cl N sc a va&&ckX T cs cl N sc b vb&&decide [i,j].Nodup&&sameLine ts && !([va,vb].all (foldedForSure 8)) && !([va,vb].all (constantsAlone 8))
  | _=>false)
 | .setI i k e,s=>(match s with
  | .Assign [.Subscript (.Name x _) k' _] e' _=>nmOk N sc i x&&ckE T cs cl N sc k k'&&ckE T cs cl N sc e e'&&plainS e'&&plainE k'
  | _=>false)
 | .aug i o e,s=>(match s with
  | .AugAssign (.Name x _) op e' _=>locOk N sc i x&&augOf o op&&ckE T cs cl N sc e e'
  | _=>false)
 | .app i e,s=>(match s with
  | .Expr (.Call (.Attribute (.Name x _) m ap) [e'] [] cp) _=>nmOk N sc i x&&m == "append" && ckE T cs cl N sc e e'&&ap.endLine==cp.line
  | _=>false)
 | .extT i e,s=>(match s with
  | .Expr (.Call (.Attribute (.Name x _) m ap) [e'] [] cp) _=>nmOk N sc i x&&m == "extend" && ckE T cs cl N sc e e'&&ap.endLine==cp.line
  | _=>false)
 | .pop i,s=>(match s with
  | .Expr (.Call (.Attribute (.Name x _) m ap) [] [] cp) _=>nmOk N sc i x&&m == "pop" && ap.endLine==cp.line
  | _=>false)
 | .popA tg i,s=>(match s with
  | .Assign [tg'] (.Call (.Attribute (.Name x _) m ap) [] [] cp) _=>ckT N sc tg tg'&&nmOk N sc i x&&m == "pop" && ap.endLine==cp.line
  | _=>false)
 | .minK i k lo t,s=>(match s with
  | .For (.Name x _) (.Name y _) [.If t' [.Assign [.Name z _] (.Name x' _) _] [] _] [] _=>locOk N sc k x&&nmOk N sc i y&&ckE T cs cl N sc t t'&&locOk N sc lo z&&nmOk N sc k x'
  | _=>false)
 | .popT f i lo,s=>(match s with
  | .Expr (.Call (.Attribute (.Name x _) m ap) [.Tuple [.Name z _,.Call (.Name g _) [.Call (.Attribute (.Name y _) m2 ap2) [.Name z' _] [] cp2] [] _] _ _] [] cp) _ =>
    nmOk N sc f x&&m == "append" && ap.endLine==cp.line&&nmOk N sc lo z&&g == "tuple" && glOk sc g&&nmOk N sc i y&&m2 == "pop" && ap2.endLine==cp2.line&&nmOk N sc lo z'
  | _=>false)
 | .rvs i,s=>(match s with
  | .Expr (.Call (.Attribute (.Name x _) m ap) [] [] cp) _=>nmOk N sc i x&&m == "reverse" && ap.endLine==cp.line
  | _=>false)
 | .frz i,s=>false
 | .ite t a b,s=>(match s with
  | .If t' a' b' _=>ckE T cs cl N sc t t'&&ckSs T cs cl N sc a a'&&ckSs T cs cl N sc b b'
  | _=>false)
 | .whl t b,s=>(match s with
  | .While t' b' [] _=>ckE T cs cl N sc t t'&&ckSs T cs cl N sc b b'
  | _=>false)
 | .for_ tg it b,s=>(match s with
  | .For tg' it' b' [] _=>ckT N sc tg tg'&&ckI T cs cl N sc it it' (isTup tg')&&ckSs T cs cl N sc b b'
  | _=>false)
 | .ret e,s=>(match s with
  | .Return (some e') _=>ckE T cs cl N sc e e'
  | _=>false)
 | .retO i,s=>(match s with
  | .Return (some (.Name x _)) _=>nmOk N sc i x
  | _=>false)
 | .retN,s=>(match s with
  | .Return none _=>true
  | _=>false)
 | .retT i e,s=>(match s with
  | .Return (some (.Tuple [.Name x _,e'] _ _)) _=>nmOk N sc i x&&ckE T cs cl N sc e e'
  | _=>false)
 | .retL a e,s=>(match s with
  | .Return (some (.Tuple [a',e'] _ _)) _=>ckE T cs cl N sc a a'&&ckE T cs cl N sc e e'
  | _=>false)
 | .brk,s=>(match s with
  | .Break _=>true
  | _=>false)
 | .cnt,s=>(match s with
  | .Continue _=>true
  | _=>false)
 | .rai k,s=>(match s with
  | .Raise (some (.Call (.Name x _) [.Constant (.str _) _ _] [] _)) none _=>cl[k]?==some x&&x != "" && glOk sc x
  | _=>false)
 | .exp e,s=>(match s with
  | .Expr e' _=>ckE T cs cl N sc e e'&&plainV e'
  | _=>false)
 | .tryA h i ks b,s=>(match s with
  | .Try b' [.ExceptHandler (some (.Name x _)) (some n) [.Assign [.Name m p] (.Name n' _) pa] _] [] [] _=>x == "AreaError" && cl[9]?==some x&&glOk sc x&&ksOk cl ks &&
    nmOk N sc h n&&N[i]?==some m&&sc.lookup n==some .local&&sc.lookup m==some .local&&n'==n&&n != m&&ckSs T cs cl N sc b b'
  | _=>false)
 | .tryN k i b,s=>(match s with
  | .Try b' [.ExceptHandler (some (.Name x _)) none [.Assign [.Name m _] (.Constant .none _ _) _] _] [] [] _=>cl[k]?==some x&&x != "" && glOk sc x&&cl.contains "AreaError" &&
    N[i]?==some m&&sc.lookup m==some .local&&ckSs T cs cl N sc b b'
  | _=>false)
 | .iteR t f i c d e b,s=>(match s with
  | .If t' [.Assign [.Name w _] (.BinOp (.Call (.Attribute (.Name y _) m ap) [.Constant (.str c') _ _,.Constant (.str d') _ _] [] cp) .Add e' _) _] b' _ =>
    ckE T cs cl N sc t t'&&andEq t'&&andE t&&locOk N sc f w&&nmOk N sc i y&&m == "replace" && c'==c&&d'==d&&ap.endLine==cp.line&&ckE T cs cl N sc e e'&&ckSs T cs cl N sc b b'
  | _=>false)
 | .dead,s=>true
 | .xasg tg x,s=>(match s with
  | .Assign [tg'] e' _=>ckT N sc tg tg'&&ckX T cs cl N sc x e'&&stOk sc tg' e'
  | _=>false)
 | .xret x,s=>(match s with
  | .Return (some e') _=>ckX T cs cl N sc x e'
  | _=>false)
 | .xite x a b,s=>(match s with
  | .If t' a' b' _=>ckX T cs cl N sc x t'&&ckSs T cs cl N sc a a'&&ckSs T cs cl N sc b b'
  | _=>false)
 | .xapp i x,s=>(match s with
  | .Expr (.Call (.Attribute (.Name y _) m ap) [e'] [] cp) _=>nmOk N sc i y&&m == "append" && ckX T cs cl N sc x e'&&ap.endLine==cp.line
  | _=>false)
 | .xfor i x b,s=>(match s with
  | .For tg' (.Call (.Name f _) [e'] [] _) b' [] _=>ckT N sc (.nm i) tg'&&f == "range" && glOk sc f&&ckX T cs cl N sc x e'&&ckSs T cs cl N sc b b'
  | _=>false)
 | .augI i o k e,s=>(match s with
  | .AugAssign (.Subscript (.Name y _) k' _) op e' _=>nmOk N sc i y&&augOf o op&&ckE T cs cl N sc k k'&&ckE T cs cl N sc e e'&&plainE k'
  | _=>false)
def ckSs (T:List Fn) (cs:List (Str×D)) (cl:List Str) (N:List Str) (sc:Nms):Ss→List Stmt→Bool
 | .nil,sts=>sts.isEmpty
 | .cons s r,sts=>(match s with
  | .frz _=>ckSs T cs cl N sc r sts
  | _=>(match sts with
   | st::rest=>ckS T cs cl N sc s st&&ckSs T cs cl N sc r rest
   | []=>false))
 | .wks i w j ks es r,sts=>(match wkAll T cs cl N sc i w j ks es sts with
  | some rest=>ckSs T cs cl N sc r rest
  | none=>false)
 | .tok s0 s1 r,sts=>(match sts with
  | st0::st1::rest=>tokOk T cs cl N sc s0 st0&&rplOk T cs cl N sc s1 st1&&ckSs T cs cl N sc r rest
  | _=>false)
 | .rf h i r,sts=>(match sts with
  | s1::s2::rest=>rfOk cl N sc h i s1 s2&&ckSs T cs cl N sc r rest
  | _=>false)
 | .spl i j n es t r,sts=>(match sts with
  | .Assign [.Name x _] (.Call (.Name fn _) (a1::as) [] _) _ :: .If t' [.Return (some b') _] [] _ :: .Expr (.Call (.Attribute (.Subscript (.Name x' _) k' _) m ap) [e'] [] cp) _::rest =>
    locOk N sc i x&&(match T[j]? with | some g=>g.name==fn&&g.ps.length==n | none=>false)&&glOk sc fn&&ckEs T cs cl N sc es (a1::as)&&ckE T cs cl N sc t t'&&ckE T cs cl N sc (.con (.bool false)) b' &&
    nmOk N sc i x'&&ckE T cs cl N sc (.con (.int 0)) k'&&plainE k'&&m == "append" && ckE T cs cl N sc (.con .none) e'&&ap.endLine==cp.line&&ckSs T cs cl N sc r rest
  | _=>false)
end
end AW
namespace AW
open PySem PySem.Spec PyProof.Rows L2
variable [CdT] [StA]
section
variable {L:Lk} {N:List Str} {sc:Nms} {W:WX} {X:Cx}
theorem block_fn (xc:XC L N sc W X):X.env.blockKind = .function:=by
 unfold Env.blockKind;rw [xc.kind];rfl
theorem kind_cell (xc:XC L N sc W X) {x:Str} (h:(sc.lookup x==some .cell)=true):X.env.kindOf x=some .cell:=(xc.nm x _ (eq_of_beq h)).1
theorem filterMap_all {α β:Type} {f:α→Option β}:∀{l:List α},(l.filterMap f).length=l.length→∀a∈l,(f a).isSome=true
 | [],_,a,h=>by cases h
 | b::l,h,a,ha=>by
  have hle:=List.length_filterMap_le f l;rw [List.filterMap_cons] at h;cases hb:f b with
  | none =>
   rw [hb] at h;simp only [List.length_cons] at h;omega
  | some c =>
   rw [hb] at h;simp only [List.length_cons] at h;rcases List.mem_cons.mp ha with rfl | ha
   ·rw [hb];rfl
   ·exact filterMap_all (by omega) a ha
theorem noSwap_ok (xc:XC L N sc W X) {ts vs:List Expr} {k k2:Nat} {p p2:Pos} (h:noSwap sc ts vs=true):swappedStores [.Tuple ts k p] (.Tuple vs k2 p2) X.env=pure none:=by
 unfold swappedStores;dsimp only
 split
 ·rfl
 ·rename_i h1;split
  ·rfl
  ·split
   ·rfl
   ·rename_i h2;exfalso
    have hl:(ts.length==2||ts.length==3)=true:=by
     cases q:(ts.length==2||ts.length==3) with
     | true=>rfl
     | false=>rw [q] at h1;simp at h1
    have h3:ts.any (cellName sc)=true:=by
     unfold noSwap at h;rw [hl] at h;simpa using h
    obtain ⟨e,he,hb⟩:=List.any_eq_true.mp h3;simp only [Bool.or_eq_true,not_or] at h2;have z:=h2.1;rw [bne_iff_ne,Classical.not_not] at z;have q:=filterMap_all z e he;cases e with
    | Name id pos =>
     have kc:=kind_cell xc hb;have kc':(X.env.kindOf id==some NameKind.local)=false:=by rw [kc];rfl
     simp only [kc',Bool.false_and] at q;cases q
    | _=>cases q
theorem stOk_ok (xc:XC L N sc W X) {tg e:Expr} {l:Nat} (h:stOk sc tg e=true) (ht:∃t,ckT N sc t tg=true):swapsWithSole [tg] e l X.env=pure false∧swappedStores [tg] e X.env=pure none∧(assignEach [tg] X.env).map (·.2)=[assign tg X.env]:=by
 obtain ⟨t,ht⟩:=ht;have h3:(assignEach [tg] X.env).map (·.2)=[assign tg X.env]:=ck_assign1 ht [];refine ⟨?_,?_,h3⟩
 ·cases e <;> first
   | rfl
   | (cases tg <;> first
     | (cases h;done)
     | rfl
     | skip)
  case ListComp.Name elt gs scope q x p =>
   show swapsWith (.ListComp elt gs scope q) (some (.Name x p)) l X.env=pure false;unfold swapsWith;simp only [stOk,Bool.or_eq_true] at h;have e1:(X.env.blockKind == .function&&X.env.kindOf x==some .local&&p.line==(Expr.ListComp elt gs scope q).pos.line && !(scope.names.any fun (n,k)=>n==x&&(k == .local||k == .cell)))=false:=by
    rcases h with (h | h) | h
    ·rw [kind_cell xc h];simp
    ·have:(p.line==q.line)=false:=by simpa [bne] using h
     show (_&&_&&(p.line==q.line)&&_)=false;rw [this];simp
    ·rw [h];simp
   show (pure (X.env.blockKind == .function&&X.env.kindOf x==some .local&&p.line==(Expr.ListComp elt gs scope q).pos.line && !(scope.names.any fun (n,k)=>n==x&&(k == .local||k == .cell))):Sem Bool)=pure false;rw [e1]
 ·cases tg <;> first
   | rfl
   | (cases e <;> first
     | rfl
     | exact noSwap_ok xc h
     | (cases t <;> cases ht))
theorem compNow_ok (xc:XC L N sc W X) {x:Str} {p:Pos} {e:Expr} {l:Nat} (h:compNow sc x p e=true):∃elt g scope q,e = .ListComp elt [g] scope q∧X.env.scope.names.lookup x=some .local∧swapsWith e (some (.Name x p)) l X.env=pure true:=by
 unfold compNow at h;split at h
 ·rename_i elt g scope q;simp only [Bool.and_eq_true] at h;have hl:X.env.scope.names.lookup x=some .local:=xc.nm x _ (eq_of_beq h.1.1);exact ⟨elt,g,scope,q,rfl,hl,sw_true xc.kind hl h.1.2 (not_false h.2)⟩
 ·cases h
theorem stars_none {T:List Fn} {cs:List (Str×D)} {cl:List Str}:∀{es:Es} {vs:List Expr},ckEs T cs cl N sc es vs=true→∀e∈vs,∀v p,e ≠ .Starred v p
 | .nil,[],_,e,he,_,_=>by cases he
 | .nil,_::_,h,_,_,_,_=>by cases h
 | .cons x r,[],h,_,_,_,_=>by cases h
 | .cons x r,e::es,h,e',he,v,p=>fun z=>by
  obtain ⟨h1,h2⟩:=and2 (show (ckE T cs cl N sc x e&&ckEs T cs cl N sc r es)=true from h);rcases List.mem_cons.mp he with q | he
  ·rw [←q,z] at h1;cases x <;> cases h1
  ·exact stars_none h2 e' he v p z
theorem swap2 (xc:XC L N sc W X) {x y:Str} {px py pt p2:Pos} {a b:Expr} {kt k2:Nat} (hx:X.env.scope.names.lookup x=some .local) (hy:X.env.scope.names.lookup y=some .local) (hxy:x≠y) (hl:(py.line==px.line)=true)
  (hs:∀e∈[a,b],∀v p,e ≠ .Starred v p) (h1:([a,b].all (foldedForSure 8))=false) (h2:([a,b].all (constantsAlone 8))=false) :
  swappedStores [.Tuple [.Name x px,.Name y py] kt pt] (.Tuple [a,b] k2 p2) X.env=pure (some [x,y]):=by
 have kx:(X.env.kindOf x==some .local)=true:=by rw [show X.env.kindOf x=some .local from hx];rfl
 have ky:(X.env.kindOf y==some .local)=true:=by rw [show X.env.kindOf y=some .local from hy];rfl
 have hb:=block_fn xc;have hxx:(px.line==px.line)=true:=beq_self_eq_true _;have ed:[x,y].eraseDups.length=2:=by
  simp [List.eraseDups_cons,List.filter_cons,hxy,Ne.symm hxy]
 unfold swappedStores;dsimp only
 refine (if_neg ?_).trans ((if_neg ?_).trans ((if_neg ?_).trans ((if_neg ?_).trans ((if_neg ?_).trans ?_))))
 ·rw [hb];simp
 ·intro z;obtain ⟨e,he,q⟩:=List.any_eq_true.mp z;cases e with
  | Starred v p=>exact hs _ he v p rfl
  | _=>cases q
 ·simp only [List.filterMap_cons,List.filterMap_nil,List.head?_cons,Option.map_some,Option.getD_some,Expr.pos,kx,ky,hl,hxx,Bool.and_self,if_true,ed];simp
 ·rw [h1];exact Bool.false_ne_true
 ·rw [h2];exact Bool.false_ne_true
 ·simp only [List.filterMap_cons,List.filterMap_nil,List.head?_cons,Option.map_some,Option.getD_some,Expr.pos,kx,ky,hl,hxx,Bool.and_self,if_true]
theorem swap3 (xc:XC L N sc W X) {x y z:Str} {px py pz pt p2:Pos} {a b c:Expr} {kt k2:Nat} (hx:X.env.scope.names.lookup x=some .local) (hy:X.env.scope.names.lookup y=some .local) (hz:X.env.scope.names.lookup z=some .local) (hxy:x≠y) (hxz:x≠z) (hyz:y≠z) (hl:(py.line==px.line)=true) (hl2:(pz.line==px.line)=true)
  (hs:∀e∈[a,b,c],∀v p,e ≠ .Starred v p) (h1:([a,b,c].all (foldedForSure 8))=false) (h2:([a,b,c].all (constantsAlone 8))=false) :
  swappedStores [.Tuple [.Name x px,.Name y py,.Name z pz] kt pt] (.Tuple [a,b,c] k2 p2) X.env=pure (some [x,y,z]):=by
 have kx:(X.env.kindOf x==some .local)=true:=by rw [show X.env.kindOf x=some .local from hx];rfl
 have ky:(X.env.kindOf y==some .local)=true:=by rw [show X.env.kindOf y=some .local from hy];rfl
 have kz:(X.env.kindOf z==some .local)=true:=by rw [show X.env.kindOf z=some .local from hz];rfl
 have hb:=block_fn xc;have hxx:(px.line==px.line)=true:=beq_self_eq_true _;have ed:[x,y,z].eraseDups.length=3:=by
  simp [List.eraseDups_cons,List.filter_cons,hxy,Ne.symm hxy,hxz,Ne.symm hxz,hyz,Ne.symm hyz]
 unfold swappedStores;dsimp only
 refine (if_neg ?_).trans ((if_neg ?_).trans ((if_neg ?_).trans ((if_neg ?_).trans ((if_neg ?_).trans ?_))))
 ·rw [hb];simp
 ·intro z;obtain ⟨e,he,q⟩:=List.any_eq_true.mp z;cases e with
  | Starred v p=>exact hs _ he v p rfl
  | _=>cases q
 ·simp only [List.filterMap_cons,List.filterMap_nil,List.head?_cons,Option.map_some,Option.getD_some,Expr.pos,kx,ky,kz,hl,hl2,hxx,Bool.and_self,if_true,ed];simp
 ·rw [h1];exact Bool.false_ne_true
 ·rw [h2];exact Bool.false_ne_true
 ·simp only [List.filterMap_cons,List.filterMap_nil,List.head?_cons,Option.map_some,Option.getD_some,Expr.pos,kx,ky,kz,hl,hl2,hxx,Bool.and_self,if_true]
end
end AW
namespace AW
open PySem PySem.Spec PyProof.Rows L2
variable [CdT] [StA]
structure XS (L:Lk) (N:List Str) (sc:Nms) (W:WX) (X:Cx):Prop where
 xc:XC L N sc W X
 hp:PassesOwn (model X.prog X.w) X.A X.env X.xe
 st:X.stack=X.env::X.outer
 fr:X.env.frame=some X.env.locals
 ex:X.ex=[]
section
variable {L:Lk} {N:List Str} {sc:Nms} {W:WX} {X:Cx} {K:PySem.W.Frag}
theorem imp_asg {tg:Tg} {e:E} {Dn σ H} (h:dS L K W (.asg tg e) Dn σ H):tAsg (dV L K W e) (gD K tg) Dn σ H:=by
 obtain ⟨f0,H0,f,en,m,o⟩:=h;have o1:=OutS.lf m (show OutS L K W f0 H0 f (lf en (L.ev e en) fun x=>(bindT tg x.1 en).bind fun en' => .ok (.nx en')) Dn from o);refine ⟨f0,H0,f,en,m,o1.imp (Po.refl m.po.sub) fun p _ h1 v f1 H1 q1 hv=>?_⟩;obtain ⟨en',eb,h2⟩:=h1.bind;obtain ⟨f2,q2,hv2⟩:=hv.settle q1;exact ⟨f0,H0,f2,en,p.1,en',m.mono q2,hv2,eb,fun σ' m' _=>h2 σ' f2 H1 q2.sf m'⟩
theorem imp_asgO {i:Nat} {e:E} {Dn σ H} (h:dS L K W (.asgO i e) Dn σ H):tAsg (dV L K W e) (gName i) Dn σ H:=by
 obtain ⟨f0,H0,f,en,m,o⟩:=h;have o1:=OutS.lf m (show OutS L K W f0 H0 f (lf en (L.ev e en) fun x=>(match x with | (.list ds,true) => .ok (.nx (en.set i (.ow ds))) | _ => .no)) Dn from o);refine ⟨f0,H0,f,en,m,o1.imp (Po.refl m.po.sub) fun p _ h1 v f1 H1 q1 hv=>?_⟩;obtain ⟨d,b⟩:=p;cases b with
 | false=>cases d <;> exact h1.elim
 | true =>
  obtain ⟨ds,a,vs,rfl,rfl,z1,z2,z3,z4⟩:=hv;exact h1 _ f1 H1 q1.sf (m.setO q1 z1 z2 z3 z4)
theorem imp_dnew {i:Nat} {Dn σ H} (h:dS L K W (.dnew i) Dn σ H):tAsg tDNewN (gName i) Dn σ H:=by
 obtain ⟨f0,H0,f,en,m,o⟩:=h;intro p ep hp hH;exact (show EndOk L K W f0 H0 f (.nx (en.set i (.dk []))) Dn from o) _ f _ (Same.refl f) (m.setD hp hH)
theorem imp_asgC {i:Nat} {b:Bool} {e:E} {Dn σ H} (h:dS L K W (.asgC i b e) Dn σ H):tAsg (dV L K W e) (gName i) Dn σ H:=by
 obtain ⟨f0,H0,f,en,m,o⟩:=h;have o1:=OutS.lf m (show OutS L K W f0 H0 f (lf en (L.ev e en) fun x=>(match x with | (.list ds,true) => .ok (.nx (en.set i (if b then .ow ds else .va (.list ds)))) | _ => .no)) Dn from o);refine ⟨f0,H0,f,en,m,o1.imp (Po.refl m.po.sub) fun p _ h1 v f1 H1 q1 hv=>?_⟩;obtain ⟨d,c⟩:=p;cases c with
 | false=>cases d <;> exact h1.elim
 | true =>
  cases b with
  | true =>
   obtain ⟨ds,a,vs,rfl,rfl,z1,z2,z3,z4⟩:=hv;exact h1 _ f1 H1 q1.sf (m.setO q1 z1 z2 z3 z4)
  | false =>
   obtain ⟨f2,q2,hv2⟩:=hv.settle q1;obtain ⟨ds,a,vs,rfl,rfl,z1,z2,z3,z4⟩:=hv;exact h1 _ f2 H1 q2.sf ((m.mono q2).setV hv2)
theorem imp_par2 {i j:Nat} {es:Es} {Dn σ H} (h:dS L K W (.par [i,j] es) Dn σ H):tPar i j (dVs L K W es) Dn σ H:=by
 obtain ⟨f0,H0,f,en,m,o⟩:=h;have o1:=OutS.lf m (show OutS L K W f0 H0 f (lf en (evs L.G L.c (dflT L.T) es en) fun ds=>if ds.length=[i,j].length then .ok (.nx (([i,j].zip ds).foldl (fun e p=>e.set p.1 (.va p.2)) en)) else .no) Dn from o);refine ⟨f0,H0,f,en,m,o1.imp (Po.refl m.po.sub) fun ds _ h1 vs f1 H1 q1 hv=>?_⟩;cases hv with
 | nil=>exact h1.elim
 | cons a t=>cases t with
  | nil=>exact h1.elim
  | cons b t=>cases t with
   | cons c t=>exact absurd h1 (by rw [if_neg (by simp)];exact fun z=>z)
   | nil=>exact ⟨_,_,rfl,h1 _ f1 H1 q1.sf (((m.mono q1).setV a).setV b)⟩
theorem imp_par3 {i j k:Nat} {es:Es} {Dn σ H} (h:dS L K W (.par [i,j,k] es) Dn σ H):tPar3 i j k (dVs L K W es) Dn σ H:=by
 obtain ⟨f0,H0,f,en,m,o⟩:=h;have o1:=OutS.lf m (show OutS L K W f0 H0 f (lf en (evs L.G L.c (dflT L.T) es en) fun ds=>if ds.length=[i,j,k].length then .ok (.nx (([i,j,k].zip ds).foldl (fun e p=>e.set p.1 (.va p.2)) en)) else .no) Dn from o);refine ⟨f0,H0,f,en,m,o1.imp (Po.refl m.po.sub) fun ds _ h1 vs f1 H1 q1 hv=>?_⟩;cases hv with
 | nil=>exact h1.elim
 | cons a t=>cases t with
  | nil=>exact h1.elim
  | cons b t=>cases t with
   | nil=>exact h1.elim
   | cons c t=>cases t with
    | cons d t=>exact absurd h1 (by rw [if_neg (by simp)];exact fun z=>z)
    | nil=>exact ⟨_,_,_,rfl,h1 _ f1 H1 q1.sf ((((m.mono q1).setV a).setV b).setV c)⟩
theorem imp_parL {i j k:Nat} {a b e:E} {Dn σ H} (h:dS L K W (.parL i j k a b e) Dn σ H):tPar3 i j k (tCons (dV L K W a) (tCons (dV L K W b) (tCons (dV L K W e) tNil))) Dn σ H:=by
 obtain ⟨f0,H0,f,en,m,o⟩:=h;have o1:=OutS.lf m (show OutS L K W f0 H0 f (lf en ((L.ev a en).bind fun x=>(L.ev b en).bind fun y=>(L.ev e en).bind fun z=>R.ok (x.1,y.1,z)) fun r=>(match r with
  | (x,y,(.list ds,true)) => .ok (.nx (((en.set i (.va x)).set j (.va y)).set k (.ow ds)))
  | _ => .no)) Dn from o)
 have o2:=Out.bind o1;refine ⟨f0,H0,f,en,m,o2.imp (Po.refl m.po.sub) fun x _ h1 v f1 H1 q1 hv=>?_⟩;obtain ⟨f2,q2,hv2⟩:=hv.settle q1;refine ⟨f0,H0,f2,en,m.mono q2,h1.bind.imp q2 fun y _ h2 u f3 H3 q3 hu=>?_⟩;obtain ⟨f4,q4,hu2⟩:=hu.settle q3;refine ⟨f0,H0,f4,en,(m.mono q2).mono q4,h2.bind.imp (q2.trans q4) fun z _ h3 w f5 H5 q5 hw=>?_⟩;obtain ⟨d,c⟩:=z;cases c with
 | false=>cases d <;> exact h3.elim
 | true =>
  obtain ⟨ds,p,ws,rfl,rfl,z1,z2,z3,z4⟩:=hw;exact ⟨_,_,_,rfl,h3 _ f5 H5 ((q2.trans q4).trans q5).sf (((((m.mono q2).mono q4).setV (dp_same q4.sf hv2)).setV hu2).setO q5 z1 z2 z3 z4)⟩
theorem imp_setI {i:Nat} {k e:E} {Dn σ H} (h:dS L K W (.setI i k e) Dn σ H):tAsg (dV L K W e) (gSub (tVar i) (dV L K W k) (rSetLN K)) Dn σ H:=by
 obtain ⟨f0,H0,f,en,m,o⟩:=h;have o1:=OutS.lf m (show OutS L K W f0 H0 f (lf en (L.ev e en) fun x=>(match en[i]? with
  | some (.ow ds)=>lf en (L.ev k en) fun kv=>(intR kv.1).bind fun j=>(setD ds j x.1).bind fun ds' => .ok (.nx (en.set i (.ow ds')))
  | some (.st ds)=>lf en (L.ev k en) fun kv=>(intR kv.1).bind fun j=>(setD ds j x.1).bind fun ds' => .ok (.nx (en.set i (.st ds')))
  | some (.dk kvs)=>lf en (L.ev k en) fun kv=>if keyOk kv.1=true∧kvs.length<line then .ok (.nx (en.set i (.dk (dput kvs kv.1 x.1)))) else .no
  | some (.dj kvs)=>lf en (L.ev k en) fun kv=>if jkB kv.1=true∧kvs.length<line then .ok (.nx (en.set i (.dj (jput kvs kv.1 x.1)))) else .no
  | _ => .no)) Dn from o)
 refine ⟨f0,H0,f,en,m,o1.imp (Po.refl m.po.sub) fun p _ h1 v f1 H1 q1 hv=>?_⟩;obtain ⟨f2,q2,hv2⟩:=hv.settle q1;have m2:=m.mono q2;cases ei:en[i]? with
 | none=>rw [ei] at h1;exact h1.elim
 | some s =>
  rw [ei] at h1;cases s with
  | ow ds =>
   obtain ⟨a,vs,e1,_,_,hH,ha⟩:=m2.ow ei;refine ⟨_,e1,f0,H0,f2,en,m2,(OutS.lf m2 (h1.mono q2.sf)).imp (Po.refl q2.sub) fun kv _ h2 kw f3 H3 q3 hkw=>?_⟩;obtain ⟨j,ej,h3⟩:=OutS.bind h2;have hr:=hkw.read;rw [intR_cases ej] at hr;obtain ⟨ds',ed,h4⟩:=OutS.bind h3;have m3:=m2.mono q3;obtain ⟨a',vs',e1',_,_,hH',ha'⟩:=m3.ow ei;rw [e1] at e1';cases e1';unfold setD at ed;cases ex:ixN ds.length j with
   | none=>rw [ex] at ed;cases ed
   | some n =>
    rw [ex] at ed;cases ed;refine .inl ⟨a,vs',j,n,rfl,hr.int,hH',by rw [ha'.length];exact ex,?_⟩;exact h4 σ f3 _ q3.sf (m3.upO ei e1 (ha'.set n (dp_same q3.sf hv2)))
  | st ds =>
   obtain ⟨a,vs,e1,_,_,_,hH,ha⟩:=m2.st ei;refine ⟨_,e1,f0,H0,f2,en,m2,(OutS.lf m2 (h1.mono q2.sf)).imp (Po.refl q2.sub) fun kv _ h2 kw f3 H3 q3 hkw=>?_⟩;obtain ⟨j,ej,h3⟩:=OutS.bind h2;have hr:=hkw.read;rw [intR_cases ej] at hr;obtain ⟨ds',ed,h4⟩:=OutS.bind h3;have m3:=m2.mono q3;obtain ⟨a',vs',e1',_,_,_,hH',ha'⟩:=m3.st ei;rw [e1] at e1';cases e1';unfold setD at ed;cases ex:ixN ds.length j with
   | none=>rw [ex] at ed;cases ed
   | some n =>
    rw [ex] at ed;cases ed;refine .inl ⟨a,vs',j,n,rfl,hr.int,hH',by rw [ha'.length];exact ex,?_⟩;exact h4 σ f3 _ q3.sf (m3.upS ei e1 (ha'.set n (dp_same q3.sf hv2)))
  | un=>exact h1.elim
  | va d=>exact h1.elim
  | rd d=>exact h1.elim
  | er d=>exact h1.elim
  | fn d=>exact h1.elim
  | fd d=>exact h1.elim
  | dj kvs =>
   obtain ⟨a,xs,e1,_⟩:=m2.dj ei;refine ⟨_,e1,f0,H0,f2,en,m2,(OutS.lf m2 (h1.mono q2.sf)).imp (Po.refl q2.sub) fun kv _ h2 kw f3 H3 q3 hkw=>?_⟩;by_cases hz:jkB kv.1=true∧kvs.length<line
   ·rw [if_pos hz] at h2;obtain ⟨q,hq⟩:=jkB_key hz.1;have ev:=jkey_kV hq hkw.read;have m3:=m2.mono q3;obtain ⟨a',xs',e1',h0',hf',hH',hk'⟩:=m3.dj ei;rw [e1] at e1';cases e1';have hv3:=dp_same q3.sf hv2;refine .inr (.inr ⟨a,xs',q,rfl,ev,hH',?_,?_⟩)
    ·rw [hk'.len,←line_eq];exact hz.2
    ·exact h2 σ f3 _ q3.sf (m3.upJ ei e1 (jput_at hq hv3 hk'))
   ·rw [if_neg hz] at h2;exact h2.elim
  | dk kvs =>
   obtain ⟨a,xs,ep,e1,_⟩:=m2.dk ei;refine ⟨_,e1,f0,H0,f2,en,m2,(OutS.lf m2 (h1.mono q2.sf)).imp (Po.refl q2.sub) fun kv _ h2 kw f3 H3 q3 hkw=>?_⟩;obtain ⟨f4,q4,hkw2⟩:=hkw.settle q3;by_cases hz:keyOk kv.1=true∧kvs.length<line
   ·rw [if_pos hz] at h2;obtain ⟨b,rfl⟩:=key_ref hz.1 hkw2;have m4:=m2.mono q4;obtain ⟨a',xs',ep',e1',hp',h0',hf',hH',hn',hl',hk'⟩:=m4.dk ei;rw [e1] at e1';cases e1';have hv4:=dp_same q4.sf hv2;refine .inr (.inl ⟨a,b,xs',kvs,kv.1,p.1,f4,ep',rfl,rfl,hH',hn',hl',hk',q4.sub,hz.1,hkw2,hv4,fun u ep' hu hnd=>?_⟩);refine h2 σ f4 _ q4.sf (m4.upD ei e1 hnd ?_ (put_at hz.1 hkw2 hu hv4 hk'));have l1:=put_len xs' (nk kv.1) b u;have l2:=hk'.len;have l3:=hz.2;rw [line_eq] at l3;omega
   ·rw [if_neg hz] at h2;exact h2.elim
theorem app_core {H':Hp} {p:Addr} {vs:List V} (hH:H' p=some (.lst vs)):tyV K "list" (.ref p) H' := .inl ⟨rfl,vs,.inl (.inl hH)⟩
theorem imp_app {i:Nat} {e:E} {Dn σ H} (h:dS L K W (.app i e) Dn σ H):tDrop (tBM K "list" rAppend (tVar i) (tCons (dV L K W e) tNil)) Dn σ H:=by
 obtain ⟨f0,H0,f,en,m,o⟩:=h;have o':OutS L K W f0 H0 f (match en[i]? with
  | some (.ow ds)=>lf en (L.ev e en) fun x=>if ds.length<line then .ok (.nx (en.set i (.ow (ds++[x.1])))) else .no
  | _ => .no) Dn:=o
 cases ei:en[i]? with
 | none=>rw [ei] at o';exact o'.elim
 | some s =>
  rw [ei] at o';cases s with
  | ow ds =>
   obtain ⟨a,vs,e1,_,_,hH,ha⟩:=m.ow ei;refine ⟨_,e1,app_core hH,f0,H0,f,en,m,(OutS.lf m o').imp (Po.refl m.po.sub) fun p _ h1 v f1 H1 q1 hv=>?_⟩;by_cases hz:ds.length<line
   ·rw [if_pos hz] at h1;obtain ⟨f2,q2,hv2⟩:=hv.settle q1;have m2:=m.mono q2;obtain ⟨a',vs',e1',_,_,hH',ha'⟩:=m2.ow ei;rw [e1] at e1';cases e1';refine ⟨a,vs',v,rfl,rfl,hH',by rw [ha'.length,←line_eq];exact hz,?_⟩;exact h1 σ f2 _ q2.sf (m2.upO ei e1 (ha'.append (.cons hv2 .nil)))
   ·rw [if_neg hz] at h1;exact h1.elim
  | un=>exact o'.elim
  | va d=>exact o'.elim
  | rd d=>exact o'.elim
  | er d=>exact o'.elim
  | fn d=>exact o'.elim
  | fd d=>exact o'.elim
  | dj d=>exact o'.elim
  | st d=>exact o'.elim
  | dk d=>exact o'.elim
theorem imp_extT {i:Nat} {e:E} {Dn σ H} (h:dS L K W (.extT i e) Dn σ H):tDrop (tBM K "list" (rExtT K) (tVar i) (tCons (dV L K W e) tNil)) Dn σ H:=by
 obtain ⟨f0,H0,f,en,m,o⟩:=h;have o':OutS L K W f0 H0 f (match en[i]? with
  | some (.ow ds)=>lf en (L.ev e en) fun x=>(match x.1 with
   | .tuple xs=>if ds.length+xs.length<line then .ok (.nx (en.set i (.ow (ds++xs)))) else .no
   | _ => .no)
  | _ => .no) Dn:=o
 cases ei:en[i]? with
 | none=>rw [ei] at o';exact o'.elim
 | some s =>
  rw [ei] at o';cases s with
  | ow ds =>
   obtain ⟨a,vs,e1,_,_,hH,ha⟩:=m.ow ei;refine ⟨_,e1,app_core hH,f0,H0,f,en,m,(OutS.lf m o').imp (Po.refl m.po.sub) fun p _ h1 v f1 H1 q1 hv=>?_⟩;obtain ⟨d,b⟩:=p;cases d with
   | tuple xs =>
    have h1:OutS L K W f0 H0 f (if ds.length+xs.length<line then .ok (.nx (en.set i (.ow (ds++xs)))) else .no) Dn:=h1;by_cases hz:ds.length+xs.length<line
    ·rw [if_pos hz] at h1;obtain ⟨f2,q2,hv2⟩:=hv.settle q1;have m2:=m.mono q2;obtain ⟨a',vs',e1',_,_,hH',ha'⟩:=m2.ow ei;rw [e1] at e1';cases e1';cases hv2 with
     | @tup b us _ hs hx =>
      refine ⟨a,b,vs',us,rfl,rfl,hH',sqt_same q2.sub hs,by rw [ha'.length,hx.length,←line_eq];exact hz,?_⟩;exact h1 σ f2 _ q2.sf (m2.upO ei e1 (ha'.append hx))
    ·rw [if_neg hz] at h1;exact h1.elim
   | _=>exact h1.elim
  | un=>exact o'.elim
  | va d=>exact o'.elim
  | rd d=>exact o'.elim
  | er d=>exact o'.elim
  | fn d=>exact o'.elim
  | fd d=>exact o'.elim
  | dj d=>exact o'.elim
  | st d=>exact o'.elim
  | dk d=>exact o'.elim
theorem imp_pop {i:Nat} {Dn σ H} (h:dS L K W (.pop i) Dn σ H):tDrop (tBM0 K "list" rPop (tVar i)) Dn σ H:=by
 obtain ⟨f0,H0,f,en,m,o⟩:=h;have o':OutS L K W f0 H0 f (match en[i]? with
  | some (.ow ds)=>if ds=[] then .no else .ok (.nx (en.set i (.ow ds.dropLast)))
  | _ => .no) Dn:=o
 cases ei:en[i]? with
 | none=>rw [ei] at o';exact o'.elim
 | some s =>
  rw [ei] at o';cases s with
  | ow ds =>
   obtain ⟨a,vs,e1,_,_,hH,ha⟩:=m.ow ei;by_cases hz:ds=[]
   ·have:OutS L K W f0 H0 f (if ds=[] then .no else .ok (.nx (en.set i (.ow ds.dropLast)))) Dn:=o';rw [if_pos hz] at this;exact this.elim
   ·have h1:OutS L K W f0 H0 f (if ds=[] then .no else .ok (.nx (en.set i (.ow ds.dropLast)))) Dn:=o';rw [if_neg hz] at h1;have hl:=ha.length;have hlt:vs.length-1<vs.length:=by
     cases ds with
     | nil=>exact absurd rfl hz
     | cons d r=>rw [hl,List.length_cons];omega
    exact ⟨_,e1,app_core hH,a,vs,_,rfl,rfl,hH,List.getElem?_eq_getElem hlt,h1 σ f _ (Same.refl f) (m.upO ei e1 ha.dropLast)⟩
  | un=>exact o'.elim
  | va d=>exact o'.elim
  | rd d=>exact o'.elim
  | er d=>exact o'.elim
  | fn d=>exact o'.elim
  | fd d=>exact o'.elim
  | dj d=>exact o'.elim
  | st d=>exact o'.elim
  | dk d=>exact o'.elim
theorem imp_popA {tg:Tg} {i:Nat} {Dn σ H} (h:dS L K W (.popA tg i) Dn σ H):tAsg (tBM0 K "list" rPop (tVar i)) (gD K tg) Dn σ H:=by
 obtain ⟨f0,H0,f,en,m,o⟩:=h;have o':OutS L K W f0 H0 f (match en[i]? with
  | some (.ow ds)=>(match ds.getLast? with
   | some d=>(bindT tg d (en.set i (.ow ds.dropLast))).bind fun en' => .ok (.nx en')
   | none => .no)
  | _ => .no) Dn:=o
 cases ei:en[i]? with
 | none=>rw [ei] at o';exact o'.elim
 | some s =>
  rw [ei] at o';cases s with
  | ow ds =>
   obtain ⟨a,vs,e1,_,_,hH,ha⟩:=m.ow ei;have h1:OutS L K W f0 H0 f (match ds.getLast? with
    | some d=>(bindT tg d (en.set i (.ow ds.dropLast))).bind fun en' => .ok (.nx en')
    | none => .no) Dn:=o'
   cases el:ds.getLast? with
   | none=>rw [el] at h1;exact h1.elim
   | some d =>
    rw [el] at h1;obtain ⟨en',eb,h2⟩:=OutS.bind h1;rw [List.getLast?_eq_getElem?,←ha.length] at el;obtain ⟨v,hv,hd⟩:=ha.get el;exact ⟨_,e1,app_core hH,a,vs,v,rfl,rfl,hH,hv,f0,H0,f,_,d,en',m.upO ei e1 ha.dropLast,hd,eb,fun σ' m' _=>h2 σ' f _ (Same.refl f) m'⟩
  | un=>exact o'.elim
  | va d=>exact o'.elim
  | rd d=>exact o'.elim
  | er d=>exact o'.elim
  | fn d=>exact o'.elim
  | fd d=>exact o'.elim
  | dj d=>exact o'.elim
  | st d=>exact o'.elim
  | dk d=>exact o'.elim
theorem imp_rvs {i:Nat} {Dn σ H} (h:dS L K W (.rvs i) Dn σ H):tDrop (tBM0 K "list" rReverse (tVar i)) Dn σ H:=by
 obtain ⟨f0,H0,f,en,m,o⟩:=h;have o':OutS L K W f0 H0 f (match en[i]? with
  | some (.ow ds) => .ok (.nx (en.set i (.ow ds.reverse)))
  | _ => .no) Dn:=o
 cases ei:en[i]? with
 | none=>rw [ei] at o';exact o'.elim
 | some s =>
  rw [ei] at o';cases s with
  | ow ds =>
   obtain ⟨a,vs,e1,_,_,hH,ha⟩:=m.ow ei;exact ⟨_,e1,app_core hH,a,vs,rfl,rfl,hH,(show EndOk L K W f0 H0 f (.nx (en.set i (.ow ds.reverse))) Dn from o') σ f _ (Same.refl f) (m.upO ei e1 ha.reverse)⟩
  | un=>exact o'.elim
  | va d=>exact o'.elim
  | rd d=>exact o'.elim
  | er d=>exact o'.elim
  | fn d=>exact o'.elim
  | fd d=>exact o'.elim
  | dj d=>exact o'.elim
  | st d=>exact o'.elim
  | dk d=>exact o'.elim
theorem imp_ite {t:E} {a b:Ss} {Dn σ H} (h:dS L K W (.ite t a b) Dn σ H):tIfS (dT L K W t) (dSs L K W a) (dSs L K W b) Dn σ H:=by
 obtain ⟨f0,H0,f,en,m,o⟩:=h;have o1:=OutS.lf m (show OutS L K W f0 H0 f (lf en (evT L.G L.c (dflT L.T) t en) fun k=>if k then L.ess a en else L.ess b en) Dn from o);refine ⟨f0,H0,f,en,m,o1.imp (Po.refl m.po.sub) fun k _ h1 f1 H1 q1=>?_⟩;cases k with
 | true=>exact ⟨f0,H0,f1,en,m.mono q1,OutS.mono q1.sf h1⟩
 | false=>exact ⟨f0,H0,f1,en,m.mono q1,OutS.mono q1.sf h1⟩
theorem imp_ret {e:E} {Dn σ H} (h:dS L K W (.ret e) Dn σ H):tRet (dV L K W e) Dn σ H:=by
 obtain ⟨f0,H0,f,en,m,o⟩:=h;have o1:=OutS.lf m (show OutS L K W f0 H0 f (lf en (L.ev e en) fun x => .ok (.rt x.1 x.2)) Dn from o);exact ⟨f0,H0,f,en,m,o1.imp (Po.refl m.po.sub) fun p _ h1 v f1 H1 q1 hv=>h1 v f1 H1 (m.po.trans q1) (hv.back m.po.sH)⟩
theorem imp_retO {i:Nat} {Dn σ H} (h:dS L K W (.retO i) Dn σ H):tRet (tVar i) Dn σ H:=by
 obtain ⟨f0,H0,f,en,m,o⟩:=h;have o':OutS L K W f0 H0 f (match en[i]? with
  | some (.ow ds) => .ok (.rt (.list ds) true)
  | _ => .no) Dn:=o
 cases ei:en[i]? with
 | none=>rw [ei] at o';exact o'.elim
 | some s =>
  rw [ei] at o';cases s with
  | ow ds =>
   obtain ⟨a,vs,e1,h0,hf,hH,ha⟩:=m.ow ei;exact ⟨_,e1,(show EndOk L K W f0 H0 f (.rt (.list ds) true) Dn from o') _ f H m.po ⟨ds,a,vs,rfl,rfl,h0,hf,hH,ha⟩⟩
  | un=>exact o'.elim
  | va d=>exact o'.elim
  | rd d=>exact o'.elim
  | er d=>exact o'.elim
  | fn d=>exact o'.elim
  | fd d=>exact o'.elim
  | dj d=>exact o'.elim
  | st d=>exact o'.elim
  | dk d=>exact o'.elim
theorem imp_exp {e:E} {Dn σ H} (h:dS L K W (.exp e) Dn σ H):tDrop (dV L K W e) Dn σ H:=by
 obtain ⟨f0,H0,f,en,m,o⟩:=h;have o1:=OutS.lf m (show OutS L K W f0 H0 f (lf en (L.ev e en) fun _ => .ok (.nx en)) Dn from o);exact ⟨f0,H0,f,en,m,o1.imp (Po.refl m.po.sub) fun p _ h1 v f1 H1 q1 hv=>h1 σ f1 H1 q1.sf (m.mono q1)⟩
theorem whileN_no0 {t:En→R Bool} {b:En→R Fl} {n:Nat} {en:En} (h:whileN t b n en ≠ .no):∃k,n=k+1:=by
 cases n with
 | zero=>exact absurd rfl h
 | succ k=>exact ⟨k,rfl⟩
theorem imp_whl {t:E} {b:Ss} {Dn σ H} (h:dS L K W (.whl t b) Dn σ H):tWhile (dT L K W t) (dSs L K W b) Dn σ H:=by
 obtain ⟨f0,H0,f,en,m,o⟩:=h;have o':OutS L K W f0 H0 f (whileR (evT L.G L.c (dflT L.T) t) (L.ess b) en) Dn:=o;unfold whileR at o';by_cases hh:∃n,whileN (evT L.G L.c (dflT L.T) t) (L.ess b) n en ≠ .no
 ·rw [dif_pos hh] at o';generalize hr:whileN (evT L.G L.c (dflT L.T) t) (L.ess b) hh.choose en=r at o';have rno:r ≠ .no:=fun z=>by rw [z] at o';exact o'
  refine ⟨fun n σ' H'=>∃fi ei,Same f fi∧Mt K f0 H0 fi H' σ' ei∧whileN (evT L.G L.c (dflT L.T) t) (L.ess b) n ei=r,⟨_,f,en,Same.refl f,m,hr⟩,?_⟩;rintro n σ' H' ⟨fi,ei,sf,mi,hw⟩;obtain ⟨k,rfl⟩:=whileN_no0 (by rw [hw];exact rno);have hw':lf ei (evT L.G L.c (dflT L.T) t ei) (fun k'=>if k' then (L.ess b ei).bind (nextFl (whileN (evT L.G L.c (dflT L.T) t) (L.ess b) k)) else .ok (.nx ei))=r:=hw;have o2:=OutS.mono sf o';rw [←hw'] at o2;have ol:=OutS.lf mi o2;cases et:evT L.G L.c (dflT L.T) t ei with
  | no=>rw [et] at ol;exact ol.elim
  | ex c =>
   rw [et] at ol;exact ⟨f0,H0,fi,ei,mi,by rw [et];exact ol⟩
  | ok c =>
   rw [et] at ol hw';refine ⟨f0,H0,fi,ei,mi,?_⟩;rw [et];intro f' H'' q;cases c with
   | false=>exact (show EndOk L K W f0 H0 fi (.nx ei) Dn from ol) σ' f' H'' q.sf (mi.mono q)
   | true =>
    rw [if_pos rfl];have ol':OutS L K W f0 H0 fi ((L.ess b ei).bind (nextFl (whileN (evT L.G L.c (dflT L.T) t) (L.ess b) k))) Dn:=ol;obtain ⟨fl,ef,o3⟩:=OutS.bind ol';have hw2:nextFl (whileN (evT L.G L.c (dflT L.T) t) (L.ess b) k) fl=r:=by
     have z:(L.ess b ei).bind _=r:=hw';rw [ef] at z;exact z
    refine ⟨fun σ2 H2=>∃f2 e2,Same f f2∧Mt K f0 H0 f2 H2 σ2 e2∧whileN (evT L.G L.c (dflT L.T) t) (L.ess b) k e2=r,fun σ2 H2 ⟨f2,e2,s2,m2,w2⟩=>⟨k,Nat.lt_succ_self k,f2,e2,s2,m2,w2⟩,f0,H0,f',ei,mi.mono q,?_⟩;rw [ef];cases fl with
    | nx e=>exact fun σ2 f2 H2 s2 m2=>⟨f2,e,(sf.trans q.sf).trans s2,m2,hw2⟩
    | ct e=>exact fun σ2 f2 H2 s2 m2=>⟨f2,e,(sf.trans q.sf).trans s2,m2,hw2⟩
    | bk e=>exact fun σ2 f2 H2 s2 m2=>(show EndOk L K W f0 H0 fi (.nx e) Dn from o3) σ2 f2 H2 (q.sf.trans s2) m2
    | rt d fr=>exact o3
    | rtT d fr=>exact o3
    | rtS d fr=>exact o3
    | ex c e=>exact fun σ2 f2 H2 s2 m2=>(show EndOk L K W f0 H0 fi (.ex c e) Dn from o3) σ2 f2 H2 (q.sf.trans s2) m2
 ·rw [dif_neg hh] at o';exact o'.elim
theorem imp_for {tg:Tg} {it:It} {b:Ss} {Dn σ H} (h:dS L K W (.for_ tg it b) Dn σ H):tFor (dI L K W it) (gD K tg) (dSs L K W b) Dn σ H:=by
 obtain ⟨f0,H0,f,en,m,o⟩:=h;have o1:=OutS.lf m (show OutS L K W f0 H0 f (lf en (evI L.G L.c (dflT L.T) it en) fun ds=>forR (bindT tg) (L.ess b) ds en) Dn from o);refine ⟨f0,H0,f,en,m,o1.imp (Po.refl m.po.sub) fun ds _ h1 J f1 H1 q1 wk=>?_⟩;have h2:=OutS.mono q1.sf h1;generalize hr:forR (bindT tg) (L.ess b) ds en=r at h2;refine ⟨fun i mm σ' H'=>mm=ds.length-i∧i≤ds.length∧∃fi ei,Same f1 fi∧Mt K f0 H0 fi H' σ' ei∧forR (bindT tg) (L.ess b) (ds.drop i) ei=r,⟨_,rfl,Nat.zero_le _,f1,en,Same.refl f1,m.mono q1,hr⟩,?_⟩;rintro i mm σ' H' ⟨rfl,hi,fi,ei,sf,mi,hf⟩;have sm1:Same f1 H':=sf.trans mi.po.sub;by_cases hlt:i<ds.length
 ·refine .inr ⟨wk.go i H' sm1 hlt,fun σ2 H2=>∃f2 e2,Same f1 f2∧Mt K f0 H0 f2 H2 σ2 e2∧forR (bindT tg) (L.ess b) (ds.drop (i+1)) e2=r,fun σ2 H2 hn=>⟨_,by omega,rfl,hlt,hn⟩,fun x H2 hy=>?_⟩;obtain ⟨d,hd,hw⟩:=wk.yld i H' x H2 hlt sm1 hy;obtain ⟨f2,q3,hx⟩:=hw fi sf mi.po.sub;have hdrop:ds.drop i=d::ds.drop (i+1):=by
   rw [List.drop_eq_getElem_cons hlt];have:ds[i]=d:=by
    rw [List.getElem?_eq_getElem hlt] at hd;exact Option.some.inj hd
   rw [this]
  rw [hdrop] at hf;have hf':(bindT tg d ei).bind (fun e1=>(L.ess b e1).bind (nextFl (forR (bindT tg) (L.ess b) (ds.drop (i+1)))))=r:=hf;have rno:∀{α:Type} {x:R α} {g:α→R Fl},x.bind g=r→∃a,x = .ok a∧g a=r:=fun {α x g} z=>by
   cases x with
   | ok a=>exact ⟨a,rfl,z⟩
   | ex c=>rw [←z] at h2;exact h2.elim
   | no=>rw [←z] at h2;exact h2.elim
  obtain ⟨e1,eb,hf2⟩:=rno hf';obtain ⟨fl,ef,hf3⟩:=rno hf2;refine ⟨f0,H0,f2,ei,d,e1,mi.mono q3,hx,eb,fun σ2 m2 _=>⟨f0,H0,f2,e1,m2,?_⟩⟩;rw [ef];have sf2:Same f1 f2:=sf.trans q3.sf;cases fl with
  | nx e=>exact fun σ3 f3 H3 s3 m3=>⟨f3,e,sf2.trans s3,m3,hf3⟩
  | ct e=>exact fun σ3 f3 H3 s3 m3=>⟨f3,e,sf2.trans s3,m3,hf3⟩
  | bk e =>
   rw [←hf3] at h2;exact fun σ3 f3 H3 s3 m3=>(show EndOk L K W f0 H0 f1 (.nx e) Dn from h2) σ3 f3 H3 (sf2.trans s3) m3
  | rt d fr =>
   rw [←hf3] at h2;exact h2
  | rtT d fr =>
   rw [←hf3] at h2;exact h2
  | rtS d fr =>
   rw [←hf3] at h2;exact h2
  | ex c e =>
   rw [←hf3] at h2;exact fun σ3 f3 H3 s3 m3=>(show EndOk L K W f0 H0 f1 (.ex c e) Dn from h2) σ3 f3 H3 (sf2.trans s3) m3
 ·have e:i=ds.length:=by omega
  subst e;refine .inl ⟨wk.stop H' sm1,?_⟩;rw [List.drop_length] at hf;have hf':R.ok (Fl.nx ei)=r:=hf;rw [←hf'] at h2;exact (show EndOk L K W f0 H0 f1 (.nx ei) Dn from h2) σ' fi H' sf mi
theorem plainS_sw {e:Expr} (h:plainS e=true) {t:Option Expr} {l:Nat}:swapsWith e t l X.env=pure false:=by
 cases e <;> first
  | rfl
  | cases h
theorem plainV_sw {e:Expr} (h:plainV e=true) {t:Option Expr} {l:Nat}:swapsWith e t l X.env=pure false:=by
 cases e <;> first
  | rfl
  | cases h
theorem opI_aug {o:O2} {op:Operator} (hp:PyR X) (h:augOf o op=true):OpR X (inplaceOp op) (fun x y H Q=>∃f dx dy p,Same f H∧Vr X.K f H x dx∧Vr X.K f H y dy∧((∃i,dx = .int i)∨∃z,dx = .str z)∧sem2 o dx dy = .ok p∧Ac X.K f H Q p):=by
 intro pins s σ H x y v u Q I rx ry hh;obtain ⟨f,dx,dy,p,sm,hx,hy,hd,e,q⟩:=hh;rcases hd with ⟨i,rfl⟩ | ⟨z,rfl⟩
 ·cases o <;> cases op <;> first
   | (cases h;done)
   | skip
  case add.Add =>
   cases dy <;> first
    | (cases e;done)
    | skip
   case int j =>
    cases e;exact iop_add pins s σ H x y v u Q I rx ry ⟨i,j,hx.int,hy.int,q.here sm (.int _)⟩
  case sub.Sub =>
   cases dy <;> first
    | (cases e;done)
    | skip
   case int j =>
    cases e;exact iop_sub pins s σ H x y v u Q I rx ry ⟨i,j,hx.int,hy.int,q.here sm (.int _)⟩
  case mul.Mult =>
   cases dy <;> first
    | (cases e;done)
    | skip
   case int j =>
    have e':(if mulOk i j=true then v1 (.int (i*j)) else .no)=R.ok p:=e;by_cases hz:mulOk i j=true
    ·rw [if_pos hz] at e';cases e';have hr:OpR X (inplaceOp .Mult) (rI (fun i j=>mulOk i j=true) fun i j => .int (i*j)):=opI fun _ _ _ _ _ _ _ hc q=>imul_int q (mulOk_ok hc);exact hr pins s σ H x y v u Q I rx ry ⟨i,j,hx.int,hy.int,hz,q.here sm (.int _)⟩
    ·rw [if_neg hz] at e';cases e'
  case fdiv.FloorDiv =>
   cases dy <;> first
    | (cases e;done)
    | skip
   case int j =>
    have e':(if j=0 then R.no else v1 (.int (i.fdiv j)))=R.ok p:=e;by_cases h0:j=0
    ·rw [if_pos h0] at e';cases e'
    ·rw [if_neg h0] at e';cases e';obtain ⟨t,rfl⟩:RelV (.int i) v:=by rw [←hx.int];exact rx
     obtain ⟨t',rfl⟩:RelV (.int j) u:=by rw [←hy.int];exact ry
     exact ifloordiv_int h0 ⟨.int (i.fdiv j),H,I.tok _,⟨_,rfl⟩,q.here sm (.int _)⟩ (.inr (hp.of I))
  case mod.Mod =>
   cases dy <;> first
    | (cases e;done)
    | skip
   case int j =>
    have e':(if j=0 then R.no else v1 (.int (i.fmod j)))=R.ok p:=e;by_cases h0:j=0
    ·rw [if_pos h0] at e';cases e'
    ·rw [if_neg h0] at e';cases e';have hr:OpR X (inplaceOp .Mod) (rI (fun i j=>j≠0) fun i j => .int (i.fmod j)):=opI fun _ _ _ _ _ _ _ hc q=>imod_int hc q;exact hr pins s σ H x y v u Q I rx ry ⟨i,j,hx.int,hy.int,h0,q.here sm (.int _)⟩
 ·cases o <;> cases op <;> first
   | (cases h;done)
   | skip
  case add.Add =>
   cases dy <;> first
    | (cases e;done)
    | skip
   case str j =>
    have e':(if z.length+j.length≤line then v1 (.str (z++j)) else .no)=R.ok p:=e;by_cases hz:z.length+j.length≤line
    ·rw [if_pos hz] at e';cases e';exact iop_add_str pins s σ H x y v u Q I rx ry ⟨z,j,hx.str,hy.str,by rw [←line_eq];exact hz,q.here sm (.str _)⟩
    ·rw [if_neg hz] at e';cases e'
  all_goals (cases dy <;> cases e)
end
end AW
namespace AW
open PySem PySem.Spec PyProof.Rows L2
variable [CdT] [StA]
section
variable {L:Lk} {N:List Str} {sc:Nms} {W:WX} {X:Cx} {K:PySem.W.Frag}
theorem imp_try {h i:Nat} {ks:List Nat} {b:Ss} {Dn σ H} {AE:Value} (hk:∀k,ks.contains k=true→L.cls k=erC K k∧PySem.W.exmOne K (L.cls k) AE=some true) (hi:h≠i) (q:dS L K W (.tryA h i ks b) Dn σ H):dSs L K (wKeep K AE h i Dn) b Dn σ H:=by
 obtain ⟨f0,H0,f,en,m,o⟩:=q;have o':OutS L K W f0 H0 f ((L.ess b en).bind fun fl=>(match fl with | .ex c e=>if ks.contains c then .ok (.nx ((e.set h .un).set i (.er c))) else .no | fl => .ok fl)) Dn:=o;refine ⟨f0,H0,f,en,m,?_⟩;cases es0:L.ess b en with
 | no=>rw [es0] at o';exact o'.elim
 | ex c=>rw [es0] at o';exact o'.elim
 | ok fl =>
  rw [es0] at o';show EndOk L K (wKeep K AE h i Dn) f0 H0 f fl Dn;cases fl with
  | nx e=>exact (show EndOk L K W f0 H0 f (.nx e) Dn from o')
  | bk e=>exact (show EndOk L K W f0 H0 f (.bk e) Dn from o')
  | ct e=>exact (show EndOk L K W f0 H0 f (.ct e) Dn from o')
  | rt d fr=>exact (show EndOk L K W f0 H0 f (.rt d fr) Dn from o')
  | rtT d fr=>exact (show EndOk L K W f0 H0 f (.rtT d fr) Dn from o')
  | rtS d fr=>exact (show EndOk L K W f0 H0 f (.rtS d fr) Dn from o')
  | ex k e =>
   have o':OutS L K W f0 H0 f (if ks.contains k then .ok (.nx ((e.set h .un).set i (.er k))) else .no) Dn:=o';by_cases hc:ks.contains k=true
   ·rw [if_pos hc] at o';obtain ⟨h1,h2⟩:=hk k hc;intro σ' f' H' s' m';refine ⟨h2,rfl,k,h1,fun a ha=>(show EndOk L K W f0 H0 f (.nx ((e.set h .un).set i (.er k))) Dn from o') _ f' (upd H' a (erO K k a)) s' ?_⟩;have m3:=(((m'.setU (i:=h) (o:=some (.ref a))).setE (i:=i) (p:=a) (c:=k) ha).setU (i:=h) (o:=none));have ee:(((e.set h .un).set i (.er k)).set h .un)=(e.set h .un).set i (.er k):=by
     rw [List.set_comm _ _ (Ne.symm hi),List.set_set]
    rw [ee] at m3;exact m3
   ·rw [if_neg hc] at o';exact o'.elim
theorem imp_tryN {k i:Nat} {b:Ss} {Dn σ H} {AE:Value} (hk:PySem.W.exmOne K (L.cls k) AE=some true) (q:dS L K W (.tryN k i b) Dn σ H):dSs L K (wOnly K AE (fun _ _ _=>tAsg (tC .non) (gName i)) W Dn) b Dn σ H:=by
 obtain ⟨f0,H0,f,en,m,o⟩:=q;have o':OutS L K W f0 H0 f ((L.ess b en).bind fun fl=>(match fl with | .ex c e=>if c==k then .ok (.nx (e.set i (.va .none))) else .no | fl => .ok fl)) Dn:=o;refine ⟨f0,H0,f,en,m,?_⟩;cases es0:L.ess b en with
 | no=>rw [es0] at o';exact o'.elim
 | ex c=>rw [es0] at o';exact o'.elim
 | ok fl =>
  rw [es0] at o';show EndOk L K (wOnly K AE (fun _ _ _=>tAsg (tC .non) (gName i)) W Dn) f0 H0 f fl Dn;cases fl with
  | nx e=>exact (show EndOk L K W f0 H0 f (.nx e) Dn from o')
  | bk e=>exact (show EndOk L K W f0 H0 f (.bk e) Dn from o')
  | ct e=>exact (show EndOk L K W f0 H0 f (.ct e) Dn from o')
  | rt d fr=>exact (show EndOk L K W f0 H0 f (.rt d fr) Dn from o')
  | rtT d fr=>exact (show EndOk L K W f0 H0 f (.rtT d fr) Dn from o')
  | rtS d fr=>exact (show EndOk L K W f0 H0 f (.rtS d fr) Dn from o')
  | ex c e =>
   have o':OutS L K W f0 H0 f (if c==k then .ok (.nx (e.set i (.va .none))) else .no) Dn:=o';by_cases hc:(c==k)=true
   ·have z':EndOk L K W f0 H0 f (.nx (e.set i (.va .none))) Dn:=by
     rw [if_pos hc] at o';exact o'
    have ek:c=k:=eq_of_beq hc;intro σ' f' H' s' m';exact ⟨true,by rw [ek];exact hk,fun _ a ha=>z' _ f' H' s' (m'.setV (v := .non) .non),fun z=>nomatch z⟩
   ·rw [if_neg hc] at o';exact o'.elim
theorem XS.tr (xs:XS L N sc W X) {W':WX} {pn:List (Addr×Obj)} {xe:Value→Shared→Prop} (tk:Takes (X.tr pn xe) W') (hp:PassesOwn (model X.prog X.w) X.A X.env xe):XS L N sc W' (X.tr pn xe) :=
 ⟨⟨xs.xc.lk,xs.xc.N,xs.xc.nd,xs.xc.kind,fun x k h=>by
  have z:=xs.xc.nm x k h;cases k with
  | globalImplicit =>
   first
    | exact z
    | exact ⟨z.1,z.2⟩
  | _=>exact z,xs.xc.calm,xs.xc.room,tk,xs.xc.py,fun z=>⟨(xs.xc.mkr z).room,(xs.xc.mkr z).lv,(xs.xc.mkr z).tb⟩⟩,hp,xs.st,xs.fr,xs.ex⟩
end
end AW
namespace AW
open PySem PySem.Spec PyProof.Rows L2
variable [CdT] [StA]
section
variable {L:Lk} {N:List Str} {sc:Nms} {W:WX} {X:Cx} {K:PySem.W.Frag}
theorem imp_jnew {i:Nat} {Dn σ H} (h:dS L K W (.jnew i) Dn σ H):tAsg tDNewK (gName i) Dn σ H:=by
 obtain ⟨f0,H0,f,en,m,o⟩:=h;intro p hH;exact (show EndOk L K W f0 H0 f (.nx (en.set i (.dj []))) Dn from o) _ f _ (Same.refl f) (m.setJ hH)
def rInsM:V→List V→Hp→VK→Prop:=fun x vs H Q=>∃(l:Addr) (xs:List V) (i:Int) (y:V),x = .ref l∧vs=[.int i,y]∧H l=some (.lst xs)∧xs.length<sizeLine∧0≤i∧i<2^63 ∧
  Q .non (upd H l (.lst (xs.take i.toNat++[y]++xs.drop i.toNat)))
theorem imp_ins {i:Nat} {k e:E} {Dn σ H} (h:dS L K W (.ins i k e) Dn σ H):tDrop (tBM K "list" rInsM (tVar i) (tCons (dV L K W k) (tCons (dV L K W e) tNil))) Dn σ H:=by
 obtain ⟨f0,H0,f,en,m,o⟩:=h;have o':OutS L K W f0 H0 f (lf en (owR en i) fun ds=>lf en ((L.ev k en).bind fun x=>(L.ev e en).bind fun y=>R.ok (x.1,y.1)) fun p=>(match p with
  | (.int j,y)=>if 0≤j∧j≤ds.length∧ds.length<line then .ok (.nx (en.set i (.ow (ds.take j.toNat++[y]++ds.drop j.toNat)))) else .no
  | _ => .no)) Dn:=o
 cases eo:owR en i with
 | no=>rw [eo] at o';exact o'.elim
 | ex c=>exact absurd eo (owR_noex en i c)
 | ok ds =>
  rw [eo] at o';have ei:=owR_at eo;obtain ⟨a,vs,e1,_,_,hH,ha⟩:=m.ow ei;have o1:=Out.bind (OutS.lf m (show OutS L K W f0 H0 f (lf en ((L.ev k en).bind fun x=>(L.ev e en).bind fun y=>R.ok (x.1,y.1)) _) Dn from o'));refine ⟨_,e1,app_core hH,f0,H0,f,en,m,o1.imp (Po.refl m.po.sub) fun x _ h1 v f1 H1 q1 hv=>?_⟩;refine ⟨f0,H0,f1,en,m.mono q1,h1.bind.imp q1 fun y _ h2 w f2 H2 q2 hw=>?_⟩;obtain ⟨d,b⟩:=x;cases d with
  | int j =>
   have h2:OutS L K W f0 H0 f (if 0≤j∧j≤ds.length∧ds.length<line then .ok (.nx (en.set i (.ow (ds.take j.toNat++[y.1]++ds.drop j.toNat)))) else .no) Dn:=h2;by_cases hz:0≤j∧j≤ds.length∧ds.length<line
   ·rw [if_pos hz] at h2;obtain ⟨f3,q3,hw2⟩:=hw.settle q2;have m2:=m.mono (q1.trans q3);obtain ⟨a',vs',e1',_,_,hH',ha'⟩:=m2.ow ei;rw [e1] at e1';cases e1';have hr:=hv.read;have hl:=ha'.length;have hlt:=hz.2.2;have h63:j<2^63:=by
     have h3:ds.length<16777216:=hlt;have h4:=hz.2.1;have:(2:Int)^63=9223372036854775808:=by rfl
     rw [this];omega
    refine ⟨a,vs',j,w,rfl,by rw [hr.int],hH',by rw [hl,←line_eq];exact hlt,hz.1,h63,?_⟩;exact h2 σ f3 _ (q1.trans q3).sf (m2.upO ei e1 (((ha'.take j.toNat).append (.cons hw2 .nil)).append (ha'.drop j.toNat)))
   ·rw [if_neg hz] at h2;exact h2.elim
  | _=>exact h2.elim
end
end AW
namespace AW
open PySem PySem.Spec PyProof.Rows L2
variable [CdT] [StA]
section
variable {L:Lk} {K:PySem.W.Frag} {W:WX}
theorem dk_at {f:Hp}:∀{kvs:List (D×D)} {xs:List (NestedKey×Addr×Value)},DkAll K f kvs xs→∀(i:Nat) (kn:NestedKey) (a:Addr) (u:Value),xs[i]?=some (kn,a,u)→∃d,(kvs.map (·.1))[i]?=some d∧Dp K f (.ref a) d
 | _,_,.nil=>fun i kn a u h=>by simp at h
 | _,_,.cons (k:=k) hk ha hu hd t=>fun i kn a' u' e=>by
  cases i with
  | zero =>
   simp only [List.getElem?_cons_zero,Option.some.injEq,Prod.mk.injEq] at e;obtain ⟨_,rfl,_⟩:=e;exact ⟨k,rfl,ha⟩
  | succ i =>
   rw [List.getElem?_cons_succ] at e;obtain ⟨d,h1,h2⟩:=dk_at t i kn a' u' e;exact ⟨d,by rw [List.map_cons,List.getElem?_cons_succ];exact h1,h2⟩
theorem imp_minK {i k lo:Nat} {t:E} {Dn σ H} (h:dS L K W (.minK i k lo t) Dn σ H):tFor (iKeysN i) (gName k) (tIfS (dT L K W t) (tAsg (tVar k) (gName lo)) tNext) Dn σ H:=by
 obtain ⟨f0,H0,f,en,m,o⟩:=h;have o':OutS L K W f0 H0 f (match en[i]? with
  | some (.dk kvs)=>if i≠k∧i≠lo∧k<en.length then minR (evT L.G L.c (dflT L.T) t) k lo (kvs.map (·.1)) en else .no
  | _ => .no) Dn:=o
 cases ei:en[i]? with
 | none=>rw [ei] at o';exact o'.elim
 | some s =>
  rw [ei] at o';cases s with
  | un=>exact o'.elim
  | va d=>exact o'.elim
  | ow d=>exact o'.elim
  | rd d=>exact o'.elim
  | er d=>exact o'.elim
  | fn d=>exact o'.elim
  | fd d=>exact o'.elim
  | dj d=>exact o'.elim
  | st d=>exact o'.elim
  | dk kvs =>
   have o':OutS L K W f0 H0 f (if i≠k∧i≠lo∧k<en.length then minR (evT L.G L.c (dflT L.T) t) k lo (kvs.map (·.1)) en else .no) Dn:=o';by_cases hc:i≠k∧i≠lo∧k<en.length
   ·rw [if_pos hc] at o';obtain ⟨c1,c2,c3⟩:=hc;obtain ⟨p,xs,ep,e1,hp,h0,hf,hH,hn,hl,hk⟩:=m.dk ei;have ln:=hk.len;generalize hr:minR (evT L.G L.c (dflT L.T) t) k lo (kvs.map (·.1)) en=r at o';refine ⟨p,xs,ep,e1,hp,hH,fun j mm σ' H'=>mm=xs.length-j∧j≤xs.length∧∃fi ei,Same f fi∧Mt K f0 H0 fi H' σ' ei∧ei.length=en.length∧minR (evT L.G L.c (dflT L.T) t) k lo ((kvs.map (·.1)).drop j) ei=r∧σ'[i]?=some (some (.ref p))∧H' p=some (dicO xs ep p),⟨_,rfl,Nat.zero_le _,f,en,Same.refl f,m,rfl,hr,e1,hH⟩,?_⟩;rintro j mm σ' H' ⟨rfl,hj,fi,ei,sf,mi,le,hmin,es,hHp⟩;by_cases hlt:j<xs.length
    ·refine .inr ⟨⟨hHp,hlt⟩,fun σ2 H2=>∃f2 e2,Same f f2∧Mt K f0 H0 f2 H2 σ2 e2∧e2.length=en.length∧minR (evT L.G L.c (dflT L.T) t) k lo ((kvs.map (·.1)).drop (j+1)) e2=r∧σ2[i]?=some (some (.ref p))∧H2 p=some (dicO xs ep p),fun σ2 H2 hN=>⟨_,by omega,rfl,hlt,hN⟩,fun x H2 hy=>?_⟩;obtain ⟨kn,a,u,hx,rfl,rfl⟩:=hy;obtain ⟨d,hd,hda⟩:=dk_at (hk.same sf) j kn a u hx;have hlt2:j<(kvs.map (·.1)).length:=by rw [List.length_map];omega
     have hdrop:(kvs.map (·.1)).drop j=d::(kvs.map (·.1)).drop (j+1):=by
      rw [List.drop_eq_getElem_cons hlt2];have:(kvs.map (·.1))[j]=d:=by
       rw [List.getElem?_eq_getElem hlt2] at hd;exact Option.some.inj hd
      rw [this]
     rw [hdrop] at hmin;have m1:=mi.setV (i:=k) hda;have hmin':(match evT L.G L.c (dflT L.T) t (ei.set k (.va d)) with
      | .ok c=>minR (evT L.G L.c (dflT L.T) t) k lo ((kvs.map (·.1)).drop (j+1)) (if c then (ei.set k (.va d)).set lo (.va d) else ei.set k (.va d))
      | _ => .no)=r:=hmin
     show dT L K W t (σ'.set k (some (.ref a))) H2 _;cases et:evT L.G L.c (dflT L.T) t (ei.set k (.va d)) with
     | no=>rw [et] at hmin';rw [←hmin'] at o';exact o'.elim
     | ex c=>rw [et] at hmin';rw [←hmin'] at o';exact o'.elim
     | ok c =>
      rw [et] at hmin';refine ⟨f0,H0,fi,ei.set k (.va d),m1,?_⟩;rw [et];intro f' H'' q;have m2:=m1.mono q;have es2:(σ'.set k (some (V.ref a)))[i]?=some (some (.ref p)):=by rw [List.getElem?_set_ne (by omega)];exact es
      have hH2:=q.sH.k hHp;cases c with
      | false =>
       rw [if_neg (by decide)];exact ⟨f',_,sf.trans q.sf,m2,by rw [List.length_set];exact le,hmin',es2,hH2⟩
      | true =>
       rw [if_pos rfl];have kl:k<σ'.length:=by rw [mi.len,le];exact c3
       refine ⟨.ref a,by rw [List.getElem?_set_self kl],?_⟩;have m3:=m2.setV (i:=lo) (dp_same q.sf hda);refine ⟨f',_,sf.trans q.sf,m3,by rw [List.length_set,List.length_set];exact le,hmin',?_,hH2⟩;rw [List.getElem?_set_ne (by omega)];exact es2
    ·have e:j=xs.length:=by omega
     subst e;refine .inl ⟨⟨hHp,Nat.le_refl _⟩,?_⟩;have:(kvs.map (·.1)).drop xs.length=[]:=List.drop_of_length_le (by rw [List.length_map];omega);rw [this] at hmin;have hf':R.ok (Fl.nx ei)=r:=hmin;rw [←hf'] at o';exact (show EndOk L K W f0 H0 f (.nx ei) Dn from o') σ' fi H' sf mi
   ·rw [if_neg hc] at o';exact o'.elim
theorem imp_popT {i j lo:Nat} {Dn σ H} (h:dS L K W (.popT i j lo) Dn σ H) :
  tDrop (tBM K "list" rAppend (tVar i) (tCons (tTup (tCons (tVar lo) (tCons (tThen (tBMN j (rPopN K) (tCons (tVar lo) tNil)) (kTup K)) tNil))) tNil)) Dn σ H:=by
 obtain ⟨f0,H0,f,en,m,o⟩:=h;have o':OutS L K W f0 H0 f (match en[i]? with
  | some (.ow ds)=>(match en[j]? with
   | some (.dk kvs)=>(match en[lo]? with
    | some (.va kd)=>if keyOk kd=true∧ds.length<line then (match dlook kvs kd with
     | some (.list xs) => .ok (.nx ((en.set j (.dk (ddel kvs kd))).set i (.ow (ds++[.tuple [kd,.tuple xs]]))))
     | _ => .no) else .no
    | _ => .no)
   | _ => .no)
  | _ => .no) Dn:=o
 cases ei:en[i]? with
 | none=>rw [ei] at o';exact o'.elim
 | some s =>
  rw [ei] at o';cases s with
  | un=>exact o'.elim
  | va d=>exact o'.elim
  | dk d=>exact o'.elim
  | rd d=>exact o'.elim
  | er d=>exact o'.elim
  | fn d=>exact o'.elim
  | fd d=>exact o'.elim
  | dj d=>exact o'.elim
  | st d=>exact o'.elim
  | ow ds =>
   cases ej:en[j]? with
   | none=>rw [ej] at o';exact o'.elim
   | some s =>
    rw [ej] at o';cases s with
    | un=>exact o'.elim
    | va d=>exact o'.elim
    | ow d=>exact o'.elim
    | rd d=>exact o'.elim
    | er d=>exact o'.elim
    | fn d=>exact o'.elim
    | fd d=>exact o'.elim
    | dj d=>exact o'.elim
    | st d=>exact o'.elim
    | dk kvs =>
     cases el:en[lo]? with
     | none=>rw [el] at o';exact o'.elim
     | some s =>
      rw [el] at o';cases s with
      | un=>exact o'.elim
      | dk d=>exact o'.elim
      | ow d=>exact o'.elim
      | rd d=>exact o'.elim
      | er d=>exact o'.elim
      | fn d=>exact o'.elim
      | fd d=>exact o'.elim
      | dj d=>exact o'.elim
      | st d=>exact o'.elim
      | va kd =>
       have o':OutS L K W f0 H0 f (if keyOk kd=true∧ds.length<line then (match dlook kvs kd with
        | some (.list xs) => .ok (.nx ((en.set j (.dk (ddel kvs kd))).set i (.ow (ds++[.tuple [kd,.tuple xs]]))))
        | _ => .no) else .no) Dn:=o'
       by_cases hz:keyOk kd=true∧ds.length<line
       ·rw [if_pos hz] at o';obtain ⟨xs,hd⟩:∃xs,dlook kvs kd=some (.list xs):=by
         cases hq:dlook kvs kd with
         | none=>rw [hq] at o';exact o'.elim
         | some w =>
          rw [hq] at o';cases w <;> first
           | exact ⟨_,rfl⟩
           | exact o'.elim
        rw [hd] at o';have o':EndOk L K W f0 H0 f (.nx ((en.set j (.dk (ddel kvs kd))).set i (.ow (ds++[.tuple [kd,.tuple xs]])))) Dn:=o';obtain ⟨a,vs,e1,_,_,hH,ha⟩:=m.ow ei;obtain ⟨v,e2,hv⟩:=m.va el;obtain ⟨b,rfl⟩:=key_ref hz.1 hv;obtain ⟨p,es,ep,e3,hp,h0,hf,hHp,hn,hl,hk⟩:=m.dk ej;refine ⟨_,e1,app_core hH,.ref b,e2,p,es,ep,e3,hHp,.ref b,e2,?_⟩;refine ⟨p,b,es,kvs,kd,.list xs,f,ep,rfl,rfl,hp,hHp,hn,hl,hk,m.po.sub,hz.1,hv,hd,fun w ep' hw hn'=>?_⟩;have m2:Mt K f0 H0 f (upd H p (dicO (withoutH es (nk kd)) ep' p)) σ (en.set j (.dk (ddel kvs kd))):=m.upD ej e3 hn' (Nat.le_trans (List.length_filter_le _ _) hl) (without_at hk);obtain ⟨q,ws,rfl,hq,hws⟩:∃q ws,w = .ref q∧SqL K f q ws∧DpAll K f ws xs:=by
         cases hw with
         | lst h a=>exact ⟨_,_,rfl,h,a⟩
        refine .inl ⟨q,ws,rfl,sql_same m2.po.sub hq,fun t ht=>⟨by show 2≤sizeLine;decide,fun t2 ht2=>?_⟩⟩;have q1:Po f _ (upd f t (.tup ws)) (upd _ t (.tup ws)):=(Po.refl m2.po.sub).new ht;have m3:=m2.mono q1;obtain ⟨f4,q4,hv4⟩:=pair_new (x := .ref b) (y := .ref t) q1.sub ht2 (dp_same q1.sf hv) (.tup (.inl (.inl upd_same)) (dpa_same q1.sf hws));have m4:=m3.mono q4;have ne:j≠i:=fun z=>by rw [z,ei] at ej;cases ej
        have ei2:(en.set j (.dk (ddel kvs kd)))[i]?=some (.ow ds):=by rw [List.getElem?_set_ne ne];exact ei
        obtain ⟨a',vs',e1',_,_,hH',ha'⟩:=m4.ow ei2;rw [e1] at e1';cases e1';refine ⟨a,vs',.ref t2,rfl,rfl,hH',by rw [ha'.length,←line_eq];exact hz.2,?_⟩;exact o' σ f4 _ (q1.sf.trans q4.sf) (m4.upO ei2 e1 (ha'.append (.cons hv4 .nil)))
       ·rw [if_neg hz] at o';exact o'.elim
end
end AW
namespace AW
open PySem PySem.Spec PyProof.Rows L2
variable [CdT] [StA]
section
variable {L:Lk} {K:PySem.W.Frag} {W:WX}
theorem inv_retT {T:List Fn} {cs:List (Str×D)} {cl N:List Str} {sc:Nms} {i:Nat} {e:E} {st:Stmt} (h:ckS T cs cl N sc (.retT i e) st=true):∃x px e' k p pos,st = .Return (some (.Tuple [.Name x px,e'] k p)) pos∧nmOk N sc i x=true∧ckE T cs cl N sc e e'=true:=by
 unfold ckS at h;split at h
 ·exact ⟨_,_,_,_,_,_,rfl,(Bool.and_eq_true_iff.mp h).1,(Bool.and_eq_true_iff.mp h).2⟩
 ·cases h
theorem inv_retL {T:List Fn} {cs:List (Str×D)} {cl N:List Str} {sc:Nms} {a e:E} {st:Stmt} (h:ckS T cs cl N sc (.retL a e) st=true):∃a' e' k p pos,st = .Return (some (.Tuple [a',e'] k p)) pos∧ckE T cs cl N sc a a'=true∧ckE T cs cl N sc e e'=true:=by
 unfold ckS at h;split at h
 ·exact ⟨_,_,_,_,_,rfl,(Bool.and_eq_true_iff.mp h).1,(Bool.and_eq_true_iff.mp h).2⟩
 ·cases h
theorem inv_spl {T:List Fn} {cs:List (Str×D)} {cl N:List Str} {sc:Nms} {i j n:Nat} {es:Es} {t:E} {r:Ss} {sts:List Stmt} (h:ckSs T cs cl N sc (.spl i j n es t r) sts=true) :
  ∃x p1 fn p2 a1 as p3 p4 t' b' p5 p6 p7 k' p8 m ap e' cp p9 rest x',
   sts = .Assign [.Name x p1] (.Call (.Name fn p2) (a1::as) [] p3) p4 :: .If t' [.Return (some b') p5] [] p6 :: .Expr (.Call (.Attribute (.Subscript (.Name x' p7) k' p8) m ap) [e'] [] cp) p9::rest ∧
   locOk N sc i x=true∧(match T[j]? with | some g=>g.name==fn&&g.ps.length==n | none=>false)=true∧glOk sc fn=true∧ckEs T cs cl N sc es (a1::as)=true∧ckE T cs cl N sc t t'=true∧ckE T cs cl N sc (.con (.bool false)) b'=true ∧
   nmOk N sc i x'=true∧ckE T cs cl N sc (.con (.int 0)) k'=true∧plainE k'=true∧(m == "append")=true∧ckE T cs cl N sc (.con .none) e'=true∧(ap.endLine==cp.line)=true∧ckSs T cs cl N sc r rest=true:=by
 unfold ckSs at h;split at h
 ·simp only [Bool.and_eq_true] at h;obtain ⟨⟨⟨⟨⟨⟨⟨⟨⟨⟨⟨⟨h1,h2⟩,h3⟩,h4⟩,h5⟩,h6⟩,h7⟩,h8⟩,h9⟩,h10⟩,h11⟩,h12⟩,h13⟩:=h;exact ⟨_,_,_,_,_,_,_,_,_,_,_,_,_,_,_,_,_,_,_,_,_,_,rfl,h1,h2,h3,h4,h5,h6,h7,h8,h9,h10,h11,h12,h13⟩
 ·cases h
theorem inv_at {T:List Fn} {j n:Nat} {fn:Str} (h:(match T[j]? with | some g=>g.name==fn&&g.ps.length==n | none=>false)=true):∃g,T[j]?=some g∧g.name=fn∧g.ps.length=n:=by
 cases e:T[j]? with
 | none=>rw [e] at h;cases h
 | some g =>
  rw [e] at h;obtain ⟨h1,h2⟩:=Bool.and_eq_true_iff.mp (show (g.name==fn&&g.ps.length==n)=true from h);exact ⟨g,rfl,str_beq h1,eq_of_beq h2⟩
theorem stars_spl {T:List Fn} {cs:List (Str×D)} {cl N:List Str} {sc:Nms} {X:Cx} {es:Es} {x:Expr} {xs:List Expr} {pos:Pos} (hc:ckEs T cs cl N sc es (x::xs)=true):starEach (x::xs) X.env=(false,eval x X.env)::starEach xs X.env∧(backTo pos (starEach xs X.env)).any (·.1)=false:=by
 cases es with
 | nil=>cases hc
 | cons e1 r =>
  have hc':(ckE T cs cl N sc e1 x&&ckEs T cs cl N sc r xs)=true:=hc;exact ⟨star_of (Bool.and_eq_true_iff.mp hc').1 xs,stars_of (Bool.and_eq_true_iff.mp hc').2⟩
theorem imp_retT {i:Nat} {e:E} {Dn σ H} (h:dS L K W (.retT i e) Dn σ H):tRet (tTup (tCons (tVar i) (tCons (dV L K W e) tNil))) Dn σ H:=by
 obtain ⟨f0,H0,f,en,m,o⟩:=h;have o':OutS L K W f0 H0 f (match en[i]? with
  | some (.ow ds)=>lf en (L.ev e en) fun x => .ok (.rtT ds [x.1])
  | _ => .no) Dn:=o
 cases ei:en[i]? with
 | none=>rw [ei] at o';exact o'.elim
 | some s =>
  rw [ei] at o';cases s with
  | ow ds =>
   obtain ⟨a,vs,e1,_,_,_,_⟩:=m.ow ei;refine ⟨.ref a,e1,f0,H0,f,en,m,(OutS.lf m o').imp (Po.refl m.po.sub) fun p _ h1 v f1 H1 q1 hv=>?_⟩;obtain ⟨f2,q2,hv2⟩:=hv.settle q1;have m2:=m.mono q2;obtain ⟨a',vs',e1',h0',hf',hH',ha'⟩:=m2.ow ei;rw [e1] at e1';cases e1';refine ⟨by show 2≤sizeLine;decide,fun t ht=>?_⟩;have ne:t≠a:=(ne_of_none hH' ht).symm;exact h1 (.ref t) f2 _ (m2.po.newH ht) ⟨t,a,vs',[v],rfl,ne,m2.po.sH.free ht,h0',m2.po.sub.free ht,hf',upd_same,by rw [upd_ne ne.symm];exact hH',ha',.cons hv2 .nil⟩
  | un=>exact o'.elim
  | va d=>exact o'.elim
  | rd d=>exact o'.elim
  | er d=>exact o'.elim
  | fn d=>exact o'.elim
  | fd d=>exact o'.elim
  | dj d=>exact o'.elim
  | st d=>exact o'.elim
  | dk d=>exact o'.elim
theorem imp_retL {a e:E} {Dn σ H} (h:dS L K W (.retL a e) Dn σ H):tRet (tTup (tCons (dV L K W a) (tCons (dV L K W e) tNil))) Dn σ H:=by
 obtain ⟨f0,H0,f,en,m,o⟩:=h;have o1:=OutS.lf m (show OutS L K W f0 H0 f (lf en ((L.ev a en).bind fun x=>(L.ev e en).bind fun y => .ok (x,y.1)) fun p=>(match p with
   | ((.list ds,true),y) => .ok (.rtT ds [y])
   | _ => .no)) Dn from o)
 refine ⟨f0,H0,f,en,m,(Out.bind o1).imp (Po.refl m.po.sub) fun x _ h1 v f1 H1 q1 hv=>?_⟩;refine ⟨f0,H0,f1,en,m.mono q1,(Out.bind h1).imp q1 fun y _ h2 w f2 H2 q2 hw=>?_⟩;obtain ⟨d,b⟩:=x;have h2:OutS L K W f0 H0 f (match ((d,b),y.1) with
   | ((.list ds,true),y) => .ok (.rtT ds [y])
   | _ => .no) Dn:=h2
 cases b with
 | false=>cases d <;> exact h2.elim
 | true =>
  obtain ⟨ds,p,vs,rfl,rfl,z1,z2,z3,z4⟩:=hv;have h2:EndOk L K W f0 H0 f (.rtT ds [y.1]) Dn:=h2;obtain ⟨f3,q3,hw2⟩:=hw.settle q2;have m3:=(m.mono q1).mono q3;refine ⟨by show 2≤sizeLine;decide,fun t ht=>?_⟩;have hp:=q3.sH.k z3;have ne:t≠p:=(ne_of_none hp ht).symm;exact h2 (.ref t) f3 _ (m3.po.newH ht) ⟨t,p,vs,[w],rfl,ne,m3.po.sH.free ht,m.po.sH.freeN z1,m3.po.sub.free ht,q3.loose z2 z3,upd_same,by rw [upd_ne ne.symm];exact hp,dpa_same q3.sf z4,.cons hw2 .nil⟩
theorem imp_spl {i j n:Nat} {es:Es} {t:E} {r:Ss} {g:Fn} {Dn σ H} (eg:L.T[j]?=some g) (eP:g.ps.length=n) (h:dSs L K W (.spl i j n es t r) Dn σ H) :
  tSeq (tAsg (tCallSD (L.sp K j) [] (WE W) (dAs L K W es)) (gName i)) (tSeq (tIfS (dT L K W t) (tRet (dV L K W (.con (.bool false)))) tNext)
   (tSeq (tDrop (tBM K "list" rAppend (tOp (rIxT K) (tVar i) (dV L K W (.con (.int 0)))) (tCons (dV L K W (.con .none)) tNil))) (dSs L K W r))) Dn σ H:=by
 obtain ⟨f0,H0,f,en,m,o⟩:=h;have o1:=OutS.lf m (show OutS L K W f0 H0 f (lf en (evAs L.G L.c (dflT L.T) es en) fun ss=>if ss.length=n∧i<en.length then (match L.c j (.un::ss) with
  | .ok (.tuple (.list ds::rs),true)=>lf (en.set i (.va (.tuple (.list ds::rs)))) (evT L.G L.c (dflT L.T) t (en.set i (.va (.tuple (.list ds::rs))))) fun b=>if b then .ok (.rt (.bool false) false) else if ds.length<line then L.ess r (en.set i .un) else .no
  | _ => .no) else .no) Dn from o)
 refine ⟨f0,H0,f,en,m,o1.imp (Po.refl m.po.sub) fun ss _ h1 vs f1 H1 q1 hvs=>?_⟩;by_cases hl:ss.length=n∧i<en.length
 ·rw [if_pos hl] at h1;obtain ⟨hl,hi⟩:=hl;obtain ⟨ds,rs,ec,h2⟩:∃ds rs,L.c j (.un::ss) = .ok (.tuple (.list ds::rs),true)∧OutS L K W f0 H0 f (lf (en.set i (.va (.tuple (.list ds::rs)))) (evT L.G L.c (dflT L.T) t (en.set i (.va (.tuple (.list ds::rs))))) fun b=>if b then .ok (.rt (.bool false) false) else if ds.length<line then L.ess r (en.set i .un) else .no) Dn:=by
   cases e:L.c j (.un::ss) with
   | no=>rw [e] at h1;exact h1.elim
   | ex k=>rw [e] at h1;exact h1.elim
   | ok p =>
    obtain ⟨d,b⟩:=p;rw [e] at h1;cases d with
    | tuple xs =>
     cases xs with
     | nil=>exact h1.elim
     | cons x rs =>
      cases x with
      | list ds =>
       cases b with
       | true=>exact ⟨ds,rs,rfl,h1⟩
       | false=>exact h1.elim
      | _=>exact h1.elim
    | _=>exact h1.elim
  refine ⟨f1,ss,q1.sub,(m.mono q1).ct,by rw [List.append_nil];exact hvs,.inr (.inl ⟨g,ds,rs,eg,by rw [hl,eP],ec,fun v f' H' q' hv=>?_⟩)⟩;obtain ⟨t0,a,xs,ws,rfl,ne,ht0,ha0,ft,fa,hHt,hHa,dx,dr⟩:=hv;have sa:Same f' (upd f' a (.lst xs)):=fun b o e=>by rw [upd_ne (ne_of_none e fa)];exact e
  have ft':upd f' a (.lst xs) t0=none:=by rw [upd_ne ne];exact ft
  have s2:Same f' (upd (upd f' a (.lst xs)) t0 (.tup (.ref a::ws))):=fun b o e=>by rw [upd_ne (ne_of_none e ft)];exact sa _ _ e
  have at_a:upd (upd f' a (.lst xs)) t0 (.tup (.ref a::ws)) a=some (.lst xs):=by rw [upd_ne ne.symm,upd_same]
  have q2:Po f1 H1 (upd (upd f' a (.lst xs)) t0 (.tup (.ref a::ws))) H':=by
   refine ⟨q'.sH,q'.sf.trans s2,fun b o e=>?_,fun b o e=>?_,fun n=>nt_upd (nt_upd (q'.nt n) (by (intro _ z;first | (cases z;done) | exact HO.noConfusion z))) (by (intro _ z;first | (cases z;done) | exact HO.noConfusion z)),q'.tab⟩
   ·by_cases hb:b=t0
    ·subst hb;rw [upd_same] at e;rw [hHt];exact e
    ·rw [upd_ne hb] at e;by_cases hc:b=a
     ·subst hc;rw [upd_same] at e;rw [hHa];exact e
     ·rw [upd_ne hc] at e;exact q'.sub _ _ e
   ·by_cases hb:b=t0
    ·subst hb;exact .inr ht0
    ·rw [upd_ne hb] at e;by_cases hc:b=a
     ·subst hc;exact .inr ha0
     ·rw [upd_ne hc] at e;exact q'.gro _ _ e
  generalize hf2:upd (upd f' a (.lst xs)) t0 (.tup (.ref a::ws))=f2 at *
  have at_t:f2 t0=some (.tup (.ref a::ws)):=by rw [←hf2,upd_same]
  have hd:Dp K f2 (.ref t0) (.tuple (.list ds::rs)) := .tup (.inl (.inl at_t)) (.cons (.lst (.inl (.inl at_a)) (dpa_same s2 dx)) (dpa_same s2 dr));have m3:=((m.mono q1).mono q2).setV (i:=i) hd;have lx:xs.length=ds.length:=dx.length;have iL:i<σ.length:=by rw [m.len];exact hi
  show tIfS (dT L K W t) (tRet (dV L K W (.con (.bool false)))) tNext _ (σ.set i (some (.ref t0))) H';refine ⟨f0,H0,f2,_,m3,(OutS.lf m3 (OutS.mono (q1.sf.trans q2.sf) h2)).imp (Po.refl m3.po.sub) fun b eb h3 f3 H3 q3=>?_⟩;have m4:=m3.mono q3;cases b with
  | true =>
   have h3:EndOk L K W f0 H0 f2 (.rt (.bool false) false) Dn:=h3;exact ⟨f0,H0,f3,_,m4,fun v f4 H4 q4 hv=>h3 v f4 H4 (m4.mono q4).po hv⟩
  | false =>
   show (tSeq (tDrop (tBM K "list" rAppend (tOp (rIxT K) (tVar i) (dV L K W (.con (.int 0)))) (tCons (dV L K W (.con .none)) tNil))) (dSs L K W r)) Dn (σ.set i (some (.ref t0))) H3;by_cases hz:ds.length<line
   ·have h3:OutS L K W f0 H0 f2 (if ds.length<line then L.ess r (en.set i .un) else .no) Dn:=h3;rw [if_pos hz] at h3;refine ⟨.ref t0,by rw [List.getElem?_set_self iL],f0,H0,f3,_,m4,fun w f4 H4 q4 hw=>?_⟩;cases (show Dp K f4 w (.int 0) from hw);have hHt4:=q4.sH.k (q3.sH.k hHt);have hHa4:=q4.sH.k (q3.sH.k hHa);have m5:=m4.mono q4;refine ⟨t0,.ref a::ws,0,.ref a,rfl,rfl,.inl (.inl hHt4),by simp [atI,ixN],app_core hHa4,f0,H0,f4,_,m5,fun w f5 H5 q5 hw=>?_⟩;cases (show Dp K f5 w .none from hw);have hHa5:=q5.sH.k hHa4;refine ⟨a,xs,.non,rfl,rfl,hHa5,by rw [lx,←line_eq];exact hz,?_⟩;have ha:Nw H a:=q1.sH.freeN ha0;have sH6:SameT H (upd H5 a (.lst (xs++[.non]))):=(q1.sH.trans (q2.sH.trans (q3.sH.trans (q4.sH.trans q5.sH)))).up ha;have q6:Po f H f (upd H5 a (.lst (xs++[.non]))):=⟨sH6,Same.refl f,fun b o e=>sH6.keep b o (m.po.sub b o e) (fun ps z=>m.ct.2 b ps (by rw [e,z])),fun _ _ e => .inl e,id,fun t=>tabs_upd (q5.tab (q4.tab (q3.tab (q2.tab (q1.tab t))))) hHa5 (by (intro _ z;first | (cases z;done) | exact HO.noConfusion z)) (by (first | (intro _ z;first | (cases z;done) | exact HO.noConfusion z) | exact fun q=>dicO_nc q))⟩;rw [eb] at h2;have h2:OutS L K W f0 H0 f (if ds.length<line then L.ess r (en.set i .un) else .no) Dn:=h2;rw [if_pos hz] at h2;exact ⟨f0,H0,f,en.set i .un,(m.mono q6).setU,h2⟩
   ·have h3:OutS L K W f0 H0 f2 (if ds.length<line then L.ess r (en.set i .un) else .no) Dn:=h3;rw [if_neg hz] at h3;exact h3.elim
 ·rw [if_neg hl] at h1;exact h1.elim
end
end AW
namespace AW
open PySem PySem.Spec PyProof.Rows L2
def Backs (X:Cx) (pins:List (Addr×Obj)) (σ:L2.St) (s0:Shared) (H0:Hp) (scope:Scope) (ce:Env) (fp:List Addr):Prop :=
 ∀pB τ HB sB,Inv (X.blk s0 H0 scope ce fp) pB τ HB sB→Inv X pins σ HB sB
theorem backs_of {X:Cx} {pins:List (Addr×Obj)} {σ:L2.St} {s0:Shared} {H0:Hp} {scope:Scope} {ce:Env} {fp:List Addr} (I:Inv X pins σ H0 s0) (hf:∀b∈fp,FpOk X pins H0 b):Backs X pins σ s0 H0 scope ce fp:=fun pB τ HB sB J=>by
 refine I.call' (ch:=fp) J.os J.base J.hok J.bare fun b hb=>?_;obtain ⟨_,z1,_,z2,z3,z4⟩:=hf b hb;exact ⟨z2,z1,z3,z4⟩
section
variable {X:Cx}
theorem pe_lcIn {elt tg iter:Expr} {scope:Scope} {own:List (Str×Nat)} {pos:Pos} {wi:TI} {g:TG} {te:L2.St→TE} (calm:X.calm=true) (nd:X.N.Nodup) (hi:PI X tg iter wi) (ok:BlkOk X.N X.env.scope scope own)
  (hg:∀s H C cl fp,PG (X.blk s H scope (compEnvC scope cl C X.env) fp) tg g)
  (he:∀pins σ s H C cl fp,Backs X pins σ s H scope (compEnvC scope cl C X.env) fp→PE (X.blk s H scope (compEnvC scope cl C X.env) fp) elt (te σ)) (hs:∀x,foldedSetIterable iter X.env x=pure x) :
  PE X (.ListComp elt [⟨tg,iter,[],0⟩] scope pos) (fun σ H Q=>tLc wi g tYes (te σ) (own.map (·.2)) σ H Q):=by
 refine ⟨fun pins s σ H Q I h=>?_⟩;have fr:∀y∈scope.names,y.2 = .free→∃c,X.env.cells.lookup y.1=some c:=fun y hy e=>(ok.free y hy e).elim (fun k=>I.ok.has _ (.inl k)) fun k=>I.ok.has _ (.inr k);rw [eval_ListComp];refine wpAny_comprehension_free (use:=none) rfl hs (closure_ok fr) ok.kind (fun y hy e=>by rw [ok.uniq y hy,e]) (thn (hi.run pins s σ H _ I h) fun xv sa ha=>thn ha fun iv sb hb=>?_);obtain ⟨it,fp,tn,J,Hb,rfl,Ib,T,stb,fb,rd⟩:=hb;refine wpAny_newObj_type (newEnv_comp ?_) (by show 0≤sizeLine;decide);generalize eD:sb.heap.objs.size=D;have nD:Hb D=none:=Ib.hok.fresh (by rw [eD];exact Nat.le_refl _);obtain ⟨W,⟨m0,w0⟩,turn⟩:=rd D nD;generalize e0:({ sb with heap:=sb.heap.push { cls := .type "list", data := .seq ([]:List Value).toArray } }:Shared)=s0;have h0:s0.heap=sb.heap.push { cls := .type "list", data := .seq ([]:List Value).toArray }:=by rw [←e0]
 have I0:Inv X pins σ (upd Hb D (.lst [])) s0:=by
  rw [←e0];refine Ib.laid (t':=sb.toks) (fun b o e=>Heap.get?_push_of_some _ e) (by rw [eD];exact Nat.le_refl _) ⟨Nat.zero_le _,[],0,.nil,?_⟩;rw [←eD];exact Heap.get?_push_size _ rfl
 have f0:∀b∈fp,FpOk X pins (upd Hb D (.lst [])) b∧b<s0.heap.objs.size:=fun b hb=>by
  obtain ⟨o,e,_⟩:=T.obj _ _ stb b hb;have lt:=Heap.lt_size e;have ne:b≠D:=by rw [←eD];exact Nat.ne_of_lt lt
  exact ⟨⟨by rw [upd_ne ne];exact (fb b hb).1,(fb b hb).2⟩,by rw [h0,Heap.size_push];exact Nat.lt_succ_of_lt lt⟩
 have st0:tn 0 s0.heap:=T.keep _ _ _ stb fun b _ o e=>by rw [h0];exact Heap.get?_push_of_some _ e
 have I1:=block_start I0 ok nd f0;generalize eH:upd Hb D (.lst [])=H0 at I0 I1 w0 f0;generalize ecl:cellsFrom (s0.heap.objs.size+1) scope.names (cloFrom X.env.cells scope.names [])=cl at I1;have pg:=hg s0 H0 s0.heap.objs.size cl fp;have pe:=he pins σ s0 H0 s0.heap.objs.size cl fp (backs_of I0 fun b hb=>(f0 b hb).1);have back:Backs X pins σ s0 H0 scope (compEnvC scope cl s0.heap.objs.size X.env) fp:=backs_of I0 fun b hb=>(f0 b hb).1;have nf:∀b∈fp,H0 b=none:=fun b hb=>(f0 b hb).1.1;show codeAny _ _ (.compStart _ 0 (.ref it) (.ref D) (compEnvC scope cl s0.heap.objs.size X.env)) (compPost (model X.prog X.w) X.A X.xe none _ (.ref D) s0.heap.objs.size) { s0 with heap:=pushCells (s0.heap.push { cls := .type "dict", data := .dict #[] }) scope.names };generalize ece:compEnvC scope cl s0.heap.objs.size X.env=ce at I1 pg pe back;have lc:ce.locals=s0.heap.objs.size:=by rw [←ece];rfl
 generalize es:({ s0 with heap:=pushCells (s0.heap.push { cls := .type "dict", data := .dict #[] }) scope.names }:Shared)=s1 at I1;have st1:tn 0 s1.heap:=T.keep _ _ _ st0 fun b _ o e=>by rw [←es];exact pushCells_keeps _ _ _ _ (Heap.get?_push_of_some _ e)
 have fpB:∀{pB:List (Addr×Obj)} {τ:L2.St} {H':Hp} {s':Shared},Inv (X.blk s0 H0 scope ce fp) pB τ H' s'→pB=[]→(∀b∈fp,H' b=none)→∀b∈fp,FpOk (X.blk s0 H0 scope ce fp) pB H' b:=by
  intro pB τ H' s' J ep hn b hb;subst ep;exact ⟨hn b hb,(J.ok.exf b hb).1,J.ok.exfs b hb,.inl hb,(J.ok.exf b hb).2,fun p hp=>(List.not_mem_nil hp).elim⟩
 have loop:codeAny (model X.prog X.w) X.A (.compLoop (.ListComp elt [⟨tg,iter,[],0⟩] scope pos) 0 (.ref it) (.ref D) ce) (compPost (model X.prog X.w) X.A X.xe none (EP X pins σ Q) (.ref D) s0.heap.objs.size) s1:=by
  refine compLoop_any (fun m s'=>∃k H',Inv (X.blk s0 H0 scope ce fp) [] (L2.wipe σ (own.map (·.2))) H' s'∧tn k s'.heap∧(∀b∈fp,H' b=none)∧W k m H') ?_ m0 ⟨0,H0,I1,st1,nf,w0⟩;rintro m s2 ⟨k,H2,I2,st2,n2,w2⟩;rcases turn k m H2 w2 with ⟨fin,q⟩ | ⟨go,Nx,hN,step⟩
  ·refine thnF (T.done (X.blk s0 H0 scope ce fp) rfl rfl rfl calm k [] s2 _ H2 (fun _ _=>False) I2 (fpB I2 rfl n2) st2 fin) fun r s3 ⟨er,I3⟩=>?_;subst er;have IX:Inv X pins σ H2 s3:=back _ _ _ _ I3;have nC:H2 s0.heap.objs.size=none:=by rw [←lc];exact I3.free
   obtain ⟨mp,hm,_⟩:=I3.loc;rw [show (X.blk s0 H0 scope ce fp).env.locals=s0.heap.objs.size from lc] at hm;obtain ⟨z0,z1,z2,z3,z4,z5⟩:=I0.fpOk (Nat.le_refl _) nC;exact ⟨mp,hm,fun h' sbut=>⟨.ref D,H2,IX.turned (t':=s3.toks) (fun b o nb e=>(sbut.2 b nb).trans e) z0 z1 z3 z4 z5,rfl,q⟩⟩
  ·refine thnF (T.item (X.blk s0 H0 scope ce fp) rfl rfl rfl calm k [] s2 _ H2 (fun _ _=>False) I2 (fpB I2 rfl n2) st2 go) fun r s3 ⟨u,er,h3⟩=>?_;subst er;refine thnF h3 fun _ s4 ⟨x,H4,I4,r4,y4,st4,n4⟩=>?_;refine thnF (pg.run _ s4 _ H4 x u _ (I4.pinned (fpB I4 rfl n4) (T.obj _ _ st4)) r4 (step x H4 y4)) fun _ s5 ⟨τ,H5,I5,hw,q5⟩=>?_;refine thnF ((pts_nil (X:=X.blk s0 H0 scope ce fp)).run _ s5 τ H5 _ I5 q5) fun b s6 ⟨H6,I6,q6⟩=>?_;have next:∀{s':Shared} {H':Hp},Inv (X.blk s0 H0 scope ce fp) ([]++pinsAt fp s4.heap) τ H' s'→Nx H'→∃m',m'<m∧∃k H',Inv (X.blk s0 H0 scope ce fp) [] (L2.wipe σ (own.map (·.2))) H' s'∧tn k s'.heap∧(∀b∈fp,H' b=none)∧W k m' H':=by
    intro s' H' J nx;obtain ⟨m',lt,w'⟩:=hN H' nx;have pin:∀b∈fp,∀o,s4.heap.get? b=some o→s'.heap.get? b=some o∧H' b=none:=fun b hb o e=>by
     obtain ⟨p1,p2,_⟩:=J.pin (b,o) (List.mem_append_right _ (List.mem_append_right _ (mem_pinsAt hb e)));exact ⟨p1,p2⟩
    refine ⟨m',lt,k+1,H',(J.unpinned (pins:=[])).weak (by rw [←hw,L2.wipe_length]) (fun j v e=>?_),T.keep _ _ _ st4 fun b hb o e=>(pin b hb o e).1,fun b hb=>?_,w'⟩
    ·rw [←hw] at e;exact (L2.wipe_some e).1
    ·obtain ⟨o,e,_⟩:=T.obj _ _ st4 b hb;exact (pin b hb o e).2
   cases b with
   | false=>exact next I6 q6
   | true =>
    refine thnF (pe.run _ s6 τ H6 _ I6 q6) fun z s7 ⟨y,H7,I7,r7,acc,hD,hz,nx⟩=>?_;exact app_ok (X:=X.blk s0 H0 scope ce fp) I7 hD hz r7 fun s8 I8=>next I8 nx
 exact codeAny_compStart_list loop (T.self X.A 0 _ _ _ st1 loop)
end
end AW
namespace AW
open PySem PySem.Spec PyProof.Rows L2
variable [CdT] [StA]
abbrev args0:Arguments:=⟨[],[],none,[],[],none,[]⟩
def LamO (q:Str) (b:Expr) (sc:Scope) (cs:List (Str×Addr)) (f d:Addr):HO := .ext fun h=>∃pm ctv:Value,h.get? f=some (PySem.W.kla_obj "<lambda>" q args0 b sc (cloFrom cs sc.names []) pm d ctv)
theorem lamO_ok {P:Program} {w:World} {H:Hp} {h:Heap} {q:Str} {b:Expr} {sc:Scope} {cs:List (Str×Addr)} {f d:Addr} {pm ctv:Value} (e:h.get? f=some (PySem.W.kla_obj "<lambda>" q args0 b sc (cloFrom cs sc.names []) pm d ctv)):ObjOk P w H h f (LamO q b sc cs f d) :=
 ⟨⟨pm,ctv,e⟩,⟨_,e⟩,fun _ _ ⟨m,v,z⟩ k=>⟨m,v,k _ z⟩⟩
theorem lamO_nt (q:Str) (b:Expr) (sc:Scope) (cs:List (Str×Addr)) (f d:Addr):∀ps,LamO q b sc cs f d ≠ .tbl ps:=fun ps z=>by unfold LamO at z;cases z
section
variable {X:Cx} {pins:List (Addr×Obj)} {σ:L2.St} {H:Hp} {s:Shared}
theorem inv_fun {q:Str} {b:Expr} {sc:Scope} {cs:List (Str×Addr)} {f d:Addr} {pm ctv:Value} (I:Inv X pins σ H s) (e:s.heap.get? f=some (PySem.W.kla_obj "<lambda>" q args0 b sc (cloFrom cs sc.names []) pm d ctv)) (n:H f=none) (h0:X.s_0.heap.get? f=none) (hp:∀p∈X.pn++pins,p.1≠f) (nl:f≠X.env.locals) :
  Inv X pins σ (upd H f (LamO q b sc cs f d)) s:=by
 have old:∀z o,X.s_0.heap.get? z=some o→z≠f:=fun z o w t=>by
  rw [t,h0] at w;cases w
 refine ⟨I.ok,I.os,I.bare,⟨I.base.keep,I.base.slot,fun z o w t=>?_,I.base.there,fun z xs w=>?_,fun z o u w=>?_,fun z ps w=>?_⟩,I.loc,I.cell,?_,fun x c w=>?_,fun p w=>?_,I.hok.laidN (fun _ _ t=>t) n (lamO_ok e),I.len⟩
 ·rw [upd_ne (old z o w)];exact I.base.free z o w t
 ·have t:=I.base.tups z xs w;rw [upd_ne (ne_of_none t n)];exact t
 ·have t:=I.base.frzs z o u w;rw [upd_ne (ne_of_none t n)];exact t
 ·obtain ⟨more,t⟩:=I.base.tbls z ps w;exact ⟨more,by rw [upd_ne (ne_of_none t n)];exact t⟩
 ·rw [upd_ne (Ne.symm nl)];exact I.free
 ·have hc:c≠f:=fun z=>by
   obtain ⟨v,o,ho,hdc⟩:=I.cell x c w;rw [z,e] at ho;cases ho;cases hdc
  rw [upd_ne hc];exact I.freeC x c w
 ·obtain ⟨p1,p2,p3,p4,p5⟩:=I.pin p w;exact ⟨p1,by rw [upd_ne (hp p w)];exact p2,p3,p4,p5⟩
theorem fresh0 (I:Inv X pins σ H s) (hx:X.ex=[]) {f:Addr} (h:s.heap.objs.size≤f):X.s_0.heap.get? f=none∧(∀p∈X.pn++pins,p.1≠f):=by
 refine ⟨?_,fun p hp z=>?_⟩
 ·cases e:X.s_0.heap.get? f with
  | none=>rfl
  | some o =>
   obtain ⟨o',e'⟩:=I.base.there f o e (by rw [hx];exact fun z=>nomatch z);exact absurd (Heap.lt_size e') (Nat.not_lt.mpr h)
 ·have e:=(I.pin p hp).1;rw [z] at e;exact absurd (Heap.lt_size e) (Nat.not_lt.mpr h)
def tLm3 (q:Str) (b:Expr) (sc:Scope) (cs:List (Str×Addr)):TE:=fun _ H Q=>LamX.Tabs CdT.T H∧∀f d H1,LamX.ExtN H H1→LamX.Tabs CdT.T H1→H1 f=none→H1 d=some (LamX.CodeO d q)→Q (.ref f) (upd H1 f (LamO q b sc cs f d))
theorem pe_lm3 {c P:Addr} {b:Expr} {sc:Scope} {pos:Pos} (hx:X.ex=[]) (TB:LamX.TabB X.base X.mg c P) (hcode:X.env.code = .ref c) (hm:(P,X.env.qual ++ "<lambda>")∈CdT.T) (hu:∀p∈CdT.T,p.1=P→p.2=X.env.qual ++ "<lambda>") (Ls:LamX.LamS X.env.scope sc) :
  PE X (.Lambda args0 b sc pos) (tLm3 (X.env.qual ++ "<lambda>") b sc X.env.cells):=by
 refine ⟨fun pins s σ H Q I h=>?_⟩;obtain ⟨hT,h⟩:=h;obtain ⟨ps,hP,tri,among⟩:=hT _ hm;have hclo:closureFor sc X.env=pure (cloFrom X.env.cells sc.names []):=closure_ok (scope:=sc) (env:=X.env) (Ls.has I.ok);have bP:s.heap.BuiltinsAt X.mg P:=TB.bm.keeps I.bk;have hPh:s.heap.get? P=some { cls := .none,data := .fields ps }:=I.hok P _ hP;have ltL:∀{f:Addr},s.heap.objs.size≤f→f≠X.env.locals:=fun {f} hf z=>by
  obtain ⟨m,hn,_⟩:=I.loc;obtain ⟨o,es,ep,ho,_⟩:=hn;rw [←z] at ho;exact absurd (Heap.lt_size ho) (Nat.not_lt.mpr hf)
 refine PySem.W.kla_eval rfl ?_;cases hc:codeAmong pos ps.toList with
 | none =>
  refine PySem.W.kla_makeFunction (mg:=X.mg) (c:=c) (P:=P) (ps:=ps) hclo I.ok.glob (I.mod.glob.keeps I.bk) hcode (TB.code.keeps I.bk) hPh tri hc TB.gP bP fun d ctv h' tk ext ge lt rec tab=>?_;obtain ⟨d2,oc,vs,t,e2,hoc,hd,hv⟩:=rec;cases e2;have sz:s.heap.objs.size≤h'.objs.size:=Nat.le_trans ge (Nat.le_of_lt lt);have nd:H d=none:=I.hok.fresh ge;have J:=LamX.inv_table (t':=tk) (q:=X.env.qual ++ "<lambda>") (more := #[rawInt pos.line,rawInt pos.col,.ref d]) (h':=h'.push (PySem.W.kla_obj "<lambda>" (X.env.qual ++ "<lambda>") args0 b sc (cloFrom X.env.cells sc.names []) ((X.mg "__name__").getD .none) d ctv)) I hP
   (fun z o n e=>Heap.get?_push_of_some _ (ext z o n e)) (Heap.get?_push_of_some _ tab) ge ⟨oc,vs,t,Heap.get?_push_of_some _ hoc,hd,hv⟩
  obtain ⟨H1,hH1⟩:∃H1,H1=upd (upd H P (.tbl (ps ++ #[rawInt pos.line,rawInt pos.col,.ref d]))) d (LamX.CodeO d (X.env.qual ++ "<lambda>")):=⟨_,rfl⟩;rw [←hH1] at J;have grow:LamX.ExtN H H1:=fun z o e n=>by
   have z1:z≠P:=fun w=>n ps (by rw [w,hP] at e;exact (Option.some.inj e).symm);rw [hH1,upd_ne (ne_of_none e nd),upd_ne z1];exact e
  have hd1:H1 d=some (LamX.CodeO d (X.env.qual ++ "<lambda>")):=by rw [hH1,upd_same]
  have T1:LamX.Tabs CdT.T H1:=fun p hp=>by
   by_cases hb:p.1=P
   ·rw [hu p hp hb,hb];have eL:(ps ++ #[rawInt pos.line,rawInt pos.col,Value.ref d]).toList=ps.toList++[rawInt pos.line,rawInt pos.col,.ref d]:=by simp
    refine ⟨_,by rw [hH1,upd_ne (ne_of_none hP nd),upd_same],by rw [eL];exact PySem.TriplesOk_snoc _ _ _ _ tri,fun p' cv hcv=>?_⟩;rw [eL] at hcv;rcases LamX.among_app _ tri hcv with w | w
    ·obtain ⟨a0,w1,w2⟩:=among p' cv w;exact ⟨a0,w1,grow _ _ w2 LamX.codeO_ne⟩
    ·exact ⟨d,w,hd1⟩
   ·obtain ⟨ps',a1,a2,a3⟩:=hT p hp;refine ⟨ps',by rw [hH1,upd_ne (ne_of_none a1 nd),upd_ne hb];exact a1,a2,fun p' cv hcv=>?_⟩;obtain ⟨a0,w1,w2⟩:=a3 p' cv hcv;exact ⟨a0,w1,grow _ _ w2 LamX.codeO_ne⟩
  have nf:H1 h'.objs.size=none:=by
   have n1:h'.objs.size≠d:=Nat.ne_of_gt lt;have n2:h'.objs.size≠P:=Nat.ne_of_gt (Nat.lt_of_lt_of_le (Heap.lt_size hPh) sz);rw [hH1,upd_ne n1,upd_ne n2];exact I.hok.fresh sz
  obtain ⟨f1,f2⟩:=fresh0 I hx sz;exact ⟨.ref h'.objs.size,_,inv_fun J (Heap.get?_push_size _ rfl) nf f1 f2 (ltL sz),rfl,h _ _ _ grow T1 nf hd1⟩
 | some cv =>
  obtain ⟨d,ed,hd⟩:=among pos cv hc;subst ed;refine PySem.W.kla_makeFunctionHit (mg:=X.mg) (c:=c) (P:=P) (ps:=ps) hclo I.ok.glob (I.mod.glob.keeps I.bk) hcode (TB.code.keeps I.bk) hPh tri hc bP fun ctv h' tk ext sz=>?_;have J:Inv X pins σ H { s with heap:=h'.push (PySem.W.kla_obj "<lambda>" (X.env.qual ++ "<lambda>") args0 b sc (cloFrom X.env.cells sc.names []) ((X.mg "__name__").getD .none) d ctv),toks:=tk }:=I.kept fun z o e=>Heap.get?_push_of_some _ (ext z o e);obtain ⟨f1,f2⟩:=fresh0 I hx sz;have nf:H h'.objs.size=none:=I.hok.fresh sz;exact ⟨.ref h'.objs.size,_,inv_fun J (Heap.get?_push_size _ rfl) nf f1 f2 (ltL sz),rfl,h _ _ _ (LamX.ExtN.refl H) hT nf hd⟩
theorem pe_act3 {CXg:CXT} {Eg:XK} {Ng:List Str} {qg q:Str} {sg:Scope} {g f d:Addr} {cdg:Value} {b:Expr} {sc:Scope} {k i:Nat} {a:Str} {pn:List (Addr×Obj)} {xe:Value→Shared→Prop} {W:WX} {E:XK} {tb:TE} {p1 p2:Pos}
  (I:Inv X pins σ H s) (hq:X.env.qual ++ "<lambda>" = q) (Ls:LamX.LamS X.env.scope sc)
  (tk:Takes ((cxOf CXg X.prog X.w X.K X.mg X.base Ng qg sg g cdg X.A X.stack s H Eg).tr pn xe) W) (hW:∀cls d σ' H',E cls d H'→W cls d σ' H') (hr:Room (k+1) (X.A.deeper (envOfC qg sg s.heap.objs.size g cdg)))
  (hb:∀(A:Around) (outer:List Env) (s:Shared) (H:Hp),Room k (A.deeper (LamX.lamEnv X sc s.heap.objs.size f d))→PE (LamX.lamCx X A outer s H E sc f d) b tb)
  (hN:Ng[i]?=some a) (hv:Vis sg a) (hd:(a==("__debug__" : Str))=false) (hcd:(a==("__classdict__" : Str))=false) :
  PE ((cxOf CXg X.prog X.w X.K X.mg X.base Ng qg sg g cdg X.A X.stack s H Eg).tr pn xe) (.Call (.Name a p1) [] [] p2)
   (fun σZ HZ Q=>σZ[i]?=some (some (.ref f))∧(HZ d=some (LamX.CodeO d q)∧HZ f=some (LamO q b sc X.env.cells f d))∧tb σ HZ Q):=by
 subst hq;refine ⟨fun pZ sZ σZ HZ Q IZ h=>?_⟩;obtain ⟨e1,⟨e2,e3⟩,ht⟩:=h;refine wpAny_Call_Name_kw (thn ((pe_var (pos:=p1) (i:=i) hN hv hd hcd).run pZ sZ σZ HZ (fun v H1=>v = .ref f∧H1=HZ) IZ ⟨.ref f,e1,rfl,rfl⟩) fun u s1 ⟨v,H1,I1,r1,q1⟩=>?_);obtain ⟨rfl,rfl⟩:=q1;obtain rfl:u=Value.ref f:=r1;obtain ⟨⟨pm,ctv,at_f⟩,_,_⟩:=I1.hok f _ e3;obtain ⟨⟨oc,vs,t,at_d,dd,dv⟩,_,_⟩:=I1.hok d _ e2;have un:Un (frs X.stack) [] H H1 s.heap s1.heap:=I1.base;refine PySem.W.callWith_F0 ⟨_,_,_,_,at_f⟩ ?_;have run:codeAny (model X.prog X.w) (X.A.deeper (envOfC qg sg s.heap.objs.size g cdg)) (.call (.ref f) ⟨[],[]⟩) (CR (L2.CX X.prog X.w) (envOfC qg sg s.heap.objs.size g cdg::X.stack) X.prog X.w H1 s1 Q E) s1:=by
  refine PySem.W.kla_callFunE hr.depth at_f rfl Ls.co Ls.gen rfl ⟨d,oc,vs,t,rfl,at_d,dd,dv⟩ ?_;have hbd:bindArgs (PySem.W.kla_fn "<lambda>" (X.env.qual ++ "<lambda>") args0 b sc (cloFrom X.env.cells sc.names []) pm (.ref d) ctv) ⟨[],[]⟩=pure []:=rfl;rw [hbd];refine wpAny_pure (wpAny_newFunctionEnv (fun y hy=>(Ls.own y hy).2) (fun y hy=>absurd hy (by simp)) (fun h2 ns sb=>⟨I1.nolimit.fresh _ sb,?_⟩) Ls.kind);have stay:∀z o,s1.heap.get? z=some o→h2.get? z=some o:=fun z o w=>sb.extBut z o (Nat.ne_of_lt (Heap.lt_size w)) (Heap.get?_push_of_some _ w);have J:Inv (LamX.lamCx X (X.A.deeper (envOfC qg sg s.heap.objs.size g cdg)) (envOfC qg sg s.heap.objs.size g cdg::X.stack) s1 H1 E sc f d) [] σ H1 { s1 with heap:=h2,toks:=s1.toks+([]:List (Str×Value)).length } :=
   LamX.lam_start2 I Ls I1.env0 hr.hd un ns stay
  show codeAny _ _ (.expr b (LamX.lamEnv X sc s1.heap.objs.size f d)) _ _;refine PySem.W.kla_codeExpr (wpAny_mono ((hb _ _ s1 H1 (hr.deeper _)).run [] _ _ H1 Q J ht) (fun v s' z=>?_) fun e s' z=>z);obtain ⟨w',H',J',rv,z⟩:=z;exact ⟨w',H',J'.os,J'.bare,J'.base,J'.hok,rv,z⟩
 have ps:Passes (L2.CX X.prog X.w) ((cxOf CXg X.prog X.w X.K X.mg X.base Ng qg sg g cdg X.A X.stack s H Eg).tr pn xe) E:=passes_call tk hW;refine wpAny_call (codeAny_mono run fun r s' z=>?_);cases r with
 | error e=>exact ps pZ σZ H1 s1 e s' I1 z
 | ok fl =>
  cases fl with
  | ret u=>exact I1.after z
  | next=>exact False.elim z
  | brk=>exact False.elim z
  | cont=>exact False.elim z
end
section
variable {L:Lk} {N:List Str} {sc:Nms} {W:WX} {X:Cx}
def tCw (L:Lk) (K:PySem.W.Frag) (j:Nat) (q:Str) (b:Expr) (sb:Scope) (cs:List (Str×Addr)) (iw:Nat) (τ:L2.St) (t:XK→TE):TE:=fun σ H Q=>∃f d,σ[iw]?=some (some (.ref f))∧(H d=some (LamX.CodeO d q)∧H f=some (LamO q b sb cs f d))∧ttR L K j (fun E H' Q'=>t E τ H' Q') H Q
theorem pe_cw {pinsX:List (Addr×Obj)} {τ:L2.St} {s0:Shared} {H0:Hp} {scope:Scope} {ce:Env} {fp:List Addr} {scB:Nms} {WB:WX} (back:Backs X pinsX τ s0 H0 scope ce fp) (xb:XC L N scB WB (X.blk s0 H0 scope ce fp)) (xc:XC L N sc W X) (h32:32≤L.lev) (room:Room (L.lev+2) X.A) {j iw:Nat} {f0 w q:Str} {b:Expr} {sb:Scope} {p wp pos:Pos} (hq:X.env.qual ++ "<lambda>" = q) (hg:glOk scB f0=true) (ht:(match L.T[j]? with | some g=>g.name==f0&&(match g.body with | .rf _ _ _=>true | _=>false) | none=>false)=true)
  (hw:nmOk N scB iw w=true) (hs:lamOk sc sb=true) {t:XK→TE} (ih:∀{E:XK} {X':Cx},X'.K=X.K→XC L N sb.names (fun cls d _ H=>E cls d H) X'→PE X' b (t E)) :
  PE (X.blk s0 H0 scope ce fp) (.Call (.Name f0 p) [.Name w wp] [] pos) (tCw L X.K j q b sb X.env.cells iw τ t):=by
 obtain ⟨g1,g2,g3⟩:=gl_of xb hg;obtain ⟨w1,w2,w3,w4⟩:=vis_of xb hw;have Ls:=lamOk_s xc hs;cases eg:L.T[j]? with
 | none=>rw [eg] at ht;cases ht
 | some g =>
  rw [eg] at ht;obtain ⟨t1,t2⟩:=band ht;have t1:=str_beq t1;subst t1;obtain ⟨h,i,r,eb⟩:∃h i r,g.body = .rf h i r:=by
   cases q:g.body with
   | rf h i r=>exact ⟨h,i,r,rfl⟩
   | _=>rw [q] at t2;cases t2
  obtain ⟨fa,params,s1,s2,rest,sg,a,oc,od,dV',kV,doc,pm,an,cdv,ct,osl,hmg,hkp,lk,hcd,hps,hB,Sg,hok,hR⟩:=xc.lk.rf j h i r g eg eb;have hN0:g.N[0]?=some a:=by
   have z:=congrArg (fun l=>l[0]?) Sg.pre;simpa [List.getElem?_take] using z
  have hva:Vis sg a:=by
   rcases Sg.par a (List.mem_singleton.mpr rfl) with q | q
   ·exact .inl q
   ·exact .inr (.inl q)
  obtain ⟨hd1,hd2,hA,hnm⟩:(a==("__debug__" : Str))=false∧(a==("__classdict__" : Str))=false∧L.clsN.contains "AreaError" = true∧isMk sg.names=false:=by
   obtain ⟨e1,a',n,R⟩:=rfOk_h hok;have h4:=R.na;unfold nmOk at h4;obtain ⟨h4,z3⟩:=band h4;obtain ⟨h4,z2⟩:=band h4;obtain ⟨z0,z1⟩:=band h4;have z0:=eq_of_beq z0;rw [hN0] at z0;cases z0;exact ⟨bne_false z2,bne_false z3,List.contains_iff_mem.mpr (mem_of_at R.cl),R.nmk⟩
  refine ⟨fun pins s σ H Q I hh=>?_⟩;obtain ⟨f,d,hσ,hfd,htt⟩:=hh;refine wpAny_Call_Name_kw (ld_glob I g1 hmg ?_ g2);refine PySem.W.callWith_K (h₀:=X.base) I.ok.mod.kin hkp (thn ((pa_cons (pe_var (pos:=wp) w1 w2 w3 w4) pa_nil).run pos pins s σ H (fun xs H1=>xs=[.ref f]∧H1=H) I ⟨.ref f,hσ,rfl,rfl⟩) fun us s' ⟨xs,H1,I1,rx,qx⟩=>⟨I1.kIn,?_⟩) (by rfl) (by rfl);obtain ⟨rfl,rfl⟩:=qx;obtain ⟨u,rfl,ru⟩:=rx.one;obtain rfl:u=Value.ref f:=ru;have rc:codeAny (model X.prog X.w) X.A (.call (.ref fa) ⟨[.ref f],[]⟩) (CR C8.CX0 X.stack X.prog X.w H1 s' Q C8.E0) s':=by
   refine LamX.run_ofS (N:=g.N) (ps:=[a]) (us:=[.ref f]) (vs:=[.ref f]) lk hcd Sg room I1.env0 (hB s' [.ref f] I1.kIn rfl) (.cons rfl .nil) rfl fun hr'=>?_;have hr1:Room L.lev (X.A.deeper (envOfC g.name sg s'.heap.objs.size fa cdv)):=hr'.mono (by omega);have x1:XC1 X.prog X.w X.K X.mg X.base L.lev g.N sg.names (cxOf C8.CX0 X.prog X.w X.K X.mg X.base g.N g.name sg fa cdv X.A X.stack s' H1 C8.E0).nox:=by
    refine ⟨rfl,rfl,rfl,rfl,rfl,rfl,Sg.nd,Sg.kind,fun x k hk=>?_,rfl,hr1,?_,PassesOwn.never,rfl,rfl,rfl,hnm⟩
    ·cases k with
     | «local» => exact hk
     | cell=>exact ⟨hk,rfl⟩
     | free=>exact .inr hk
     | globalImplicit=>exact hk
     | globalExplicit=>trivial
    ·intro hfr M s2 hk';have hN:s2.heap.NoSeer:=(seeB_ok xc.lk.see.1 M).keeps hk';refine PylongRoom.of (M.nolimit.keeps hk') ?_ (SeerAt.of hN xc.lk.see.2 hfr Sg.gen Sg.co rfl rfl);have z:=hr1.dp;show (X.A.deeper (envOfC g.name sg s'.heap.objs.size fa cdv)).depth+100<recursionLimit;omega
   obtain ⟨t',ht',hq'⟩:=rf_run (Y:=(cxOf C8.CX0 X.prog X.w X.K X.mg X.base g.N g.name sg fa cdv X.A X.stack s' H1 C8.E0).nox) (j:=j) (PZ:=fun HZ=>HZ d=some (LamX.CodeO d q)∧HZ f=some (LamO q b sb X.env.cells f d)) (f:=f) (tl:=fun E H' Q'=>t E τ H' Q') x1 xc.lk hN0 hok hR
    (fun W pn xe E p1 p2 tk hW=>pe_act3 (CXg:=C8.CX0) (Eg:=C8.E0) (i:=0) (back _ _ _ _ I1) hq Ls tk hW hr' (fun A outer s H hr2=>ih rfl (xc.lam h32 hs rfl hr2)) hN0 hva hd1 hd2) hfd htt
   exact ⟨t',ht'.nox,hq'⟩
  refine wpAny_call (codeAny_mono rc fun r s2 z=>?_);cases r with
  | error e=>exact (show False from z).elim
  | ok fl =>
   cases fl with
   | ret u=>exact I1.after z
   | next=>exact False.elim z
   | brk=>exact False.elim z
   | cont=>exact False.elim z
end
end AW
namespace AW
open PySem PySem.Spec PyProof.Rows L2
variable [CdT] [StA]
section
variable {L:Lk} {K:PySem.W.Frag} {W:WX}
theorem rf_tt {j:Nat} {ks:List Nat} {e0:E} {X:Cx} (lk:LkOk L X.prog X.w X.K X.mg X.base) (hk:ksOk L.clsN ks=true) (hA:L.clsN.contains "AreaError" = true) {f0 H0 f H:Hp} {σ:L2.St} {en:En} (m:Mt X.K f0 H0 f H σ en) {W':WX} {Q:VK}
  (o:Out L.cls W' σ f H (rfR ks (L.ev e0 en) fun s=>L.c j [.un,.un,s]) (Ac X.K f H Q)):ttR L X.K j (fun E H' Q'=>dV L X.K (fun cls d _ H'=>E cls d H') e0 σ H' Q') H Q:=by
 intro Q' hQ;refine ⟨f0,H0,f,en,m,?_⟩;show Out L.cls _ σ f H (L.ev e0 en) _;cases ev:L.ev e0 en with
 | no=>rw [ev] at o;exact o.elim
 | ok p =>
  rw [ev] at o;have o:Out L.cls W' σ f H ((L.c j [.un,.un,.va .none]).nox) (Ac X.K f H Q):=o;intro v f' H' q hv;refine hQ v H' ⟨f',q.sub,(m.mono q).ct,.va .non,.inr rfl,?_⟩;cases ec:L.c j [.un,.un,.va .none] with
  | no=>rw [ec] at o;exact o.elim
  | ex k=>rw [ec] at o;exact o.elim
  | ok p2 =>
   rw [ec] at o;exact Ac.mono q o
 | ex k =>
  rw [ev] at o;have o:Out L.cls W' σ f H (if ks.contains k then (L.c j [.un,.un,.er k]).nox else .no) (Ac X.K f H Q):=o;by_cases hc:ks.contains k=true
  ·rw [if_pos hc] at o;intro f' H' q;obtain ⟨n,n1,n2⟩:=ks_at hk hc;obtain ⟨c1,c2,_⟩:=cls_at lk n1 n2;obtain ⟨_,_,_,b4,_⟩:=erB_ne lk.er hA (mem_of_at n1) n2;refine ⟨rfl,by rw [c2];exact b4,k,c2.trans c1.symm,fun a ha=>?_⟩;have q2:Po f' H' f' (upd H' a (erO X.K k a)):=(Po.refl q.sub).newH ha;refine ⟨f',q2.sub,((m.mono q).mono q2).ct,.er upd_same,.inl ⟨k,rfl⟩,?_⟩;cases ec:L.c j [.un,.un,.er k] with
   | no=>rw [ec] at o;exact o.elim
   | ex k=>rw [ec] at o;exact o.elim
   | ok p2 =>
    rw [ec] at o;exact Ac.mono (q.trans q2) o
  ·rw [if_neg hc] at o;exact o.elim
abbrev Lam:=E×Expr×Scope
def FsOk (q:Str) (cs:List (Str×Addr)) (H:Hp):List (Addr×Addr)→List Lam→Prop
 | [],[]=>True
 | z::zs,l::ls=>(H z.2=some (LamX.CodeO z.2 q)∧H z.1=some (LamO q l.2.1 l.2.2 cs z.1 z.2))∧FsOk q cs H zs ls
 | _,_=>False
theorem lam_k {q:Str} {cs:List (Str×Addr)} {H H':Hp} (e:SameT H H') {z:Addr×Addr} {l:Lam} (h:H z.2=some (LamX.CodeO z.2 q)∧H z.1=some (LamO q l.2.1 l.2.2 cs z.1 z.2)):H' z.2=some (LamX.CodeO z.2 q)∧H' z.1=some (LamO q l.2.1 l.2.2 cs z.1 z.2) :=
 ⟨e.keep _ _ h.1 LamX.codeO_ne,e.keep _ _ h.2 (lamO_nt _ _ _ _ _ _)⟩
theorem FsOk.mono {q:Str} {cs:List (Str×Addr)} {H H':Hp} (e:SameT H H'):∀{zs:List (Addr×Addr)} {ls:List Lam},FsOk q cs H zs ls→FsOk q cs H' zs ls
 | [],[],_=>trivial
 | z::zs,l::ls,h=>⟨lam_k e h.1,FsOk.mono e h.2⟩
 | [],_::_,h=>h.elim
 | _::_,[],h=>h.elim
theorem FsOk.len {q:Str} {cs:List (Str×Addr)} {H:Hp}:∀{zs:List (Addr×Addr)} {ls:List Lam},FsOk q cs H zs ls→zs.length=ls.length
 | [],[],_=>rfl
 | z::zs,l::ls,h=>congrArg Nat.succ (FsOk.len h.2)
 | [],_::_,h=>h.elim
 | _::_,[],h=>h.elim
theorem FsOk.snoc {q:Str} {cs:List (Str×Addr)} {H:Hp} {z:Addr×Addr} {l:Lam} (hz:H z.2=some (LamX.CodeO z.2 q)∧H z.1=some (LamO q l.2.1 l.2.2 cs z.1 z.2)):∀{zs:List (Addr×Addr)} {ls:List Lam},FsOk q cs H zs ls→FsOk q cs H (zs++[z]) (ls++[l])
 | [],[],_=>⟨hz,trivial⟩
 | y::zs,l::ls,h=>⟨h.1,FsOk.snoc hz h.2⟩
 | [],_::_,h=>h.elim
 | _::_,[],h=>h.elim
theorem FsOk.at_ {q:Str} {cs:List (Str×Addr)} {H:Hp}:∀{zs:List (Addr×Addr)} {ls:List Lam} {i:Nat} {z:Addr×Addr},FsOk q cs H zs ls→zs[i]?=some z→∃l,ls[i]?=some l∧H z.2=some (LamX.CodeO z.2 q)∧H z.1=some (LamO q l.2.1 l.2.2 cs z.1 z.2)
 | z::zs,l::ls,0,_,h,e=>by cases e;exact ⟨l,rfl,h.1⟩
 | z::zs,l::ls,i+1,y,h,e=>FsOk.at_ (zs:=zs) (ls:=ls) (i:=i) h.2 e
 | [],_,i,_,_,e=>by simp at e
 | _::_,[],_,_,h,_=>h.elim
structure Gs (q:Str) (cs:List (Str×Addr)) (f H:Hp) (a:Addr) (zs:List (Addr×Addr)) (ls:List Lam) (H':Hp):Prop where
 po:Po f H f H'
 na:Nw H a
 fa:f a=none
 la:H' a=some (.lst (zs.map fun z=>V.ref z.1))
 ok:FsOk q cs H' zs ls
def tApps (K:PySem.W.Frag) (q:Str) (cs:List (Str×Addr)) (i:Nat):List Lam→TS→TS
 | [],t=>t
 | l::ls,t=>tSeq (tDrop (tBM K "list" rAppend (tVar i) (tCons (tLm3 q l.2.1 l.2.2 cs) tNil))) (tApps K q cs i ls t)
theorem po_ext {f H H1:Hp} (sm:Same f H) (nt:∀b ps,f b≠some (.tbl ps)) (e:LamX.ExtN H H1) (T1:LamX.Tabs CdT.T H1):Po f H f H1 :=
 ⟨⟨e⟩,Same.refl f,fun b o z=>e b o (sm b o z) fun ps w=>nt b ps (by rw [z,w]),fun _ _ z => .inl z,id,fun _=>T1⟩
theorem apps_ok {q:Str} {cs:List (Str×Addr)} {i:Nat} {a:Addr} {t:TS} {Dn:Ends} {f H:Hp} (nt:∀b ps,f b≠some (.tbl ps)) (tb:LamX.Tabs CdT.T H) {σ:L2.St} (hσ:σ[i]?=some (some (.ref a))):∀(ls:List Lam) {zs:List (Addr×Addr)} {ls0:List Lam} {H':Hp},Gs q cs f H a zs ls0 H'→zs.length+ls.length<sizeLine →
  (∀zs' H'',Gs q cs f H a zs' (ls0++ls) H''→t Dn σ H'')→tApps K q cs i ls t Dn σ H'
 | [],zs,ls0,H',g,_,h=>h zs H' (by rw [List.append_nil];exact g)
 | l::ls,zs,ls0,H',g,hz,h=>by
  rw [List.length_cons] at hz;show tBM K "list" rAppend (tVar i) (tCons (tLm3 q l.2.1 l.2.2 cs) tNil) σ H' fun _ H1=>tApps K q cs i ls t Dn σ H1;refine ⟨.ref a,hσ,app_core g.la,g.po.tab tb,fun fl d H1 ex T1 n1 hd=>?_⟩;have p1:Po f H' f H1:=po_ext g.po.sub nt ex T1;have p2:Po f H' f (upd H1 fl (LamO q l.2.1 l.2.2 cs fl d)):=p1.newH n1;have la1:=p2.sH.lst g.la;refine ⟨a,_,_,rfl,rfl,la1,by rw [List.length_map];omega,?_⟩;have nd:d≠fl:=fun z=>by rw [z,n1] at hd;cases hd
  have hda:d≠a:=fun z=>by
   have w:=p1.sH.lst g.la;rw [←z,hd] at w;unfold LamX.CodeO at w;cases w
  have hfa:fl≠a:=fun z=>by
   have w:=p1.sH.lst g.la;rw [←z,n1] at w;cases w
  have sH6:SameT H (upd (upd H1 fl (LamO q l.2.1 l.2.2 cs fl d)) a (.lst ((zs.map fun z=>V.ref z.1)++[.ref fl]))):=(g.po.sH.trans p2.sH).up g.na;have po6:Po f H f (upd (upd H1 fl (LamO q l.2.1 l.2.2 cs fl d)) a (.lst ((zs.map fun z=>V.ref z.1)++[.ref fl]))) :=
   (g.po.trans p2).upd g.na g.fa la1
  have keep:SameT (upd H1 fl (LamO q l.2.1 l.2.2 cs fl d)) (upd H1 fl (LamO q l.2.1 l.2.2 cs fl d)):=SameT.refl _;have okA:FsOk q cs (upd (upd H1 fl (LamO q l.2.1 l.2.2 cs fl d)) a (.lst ((zs.map fun z=>V.ref z.1)++[.ref fl]))) (zs++[(fl,d)]) (ls0++[l]):=by
   have o1:FsOk q cs (upd H1 fl (LamO q l.2.1 l.2.2 cs fl d)) (zs++[(fl,d)]) (ls0++[l]):=FsOk.snoc (z:=(fl,d)) (l:=l) ⟨by show upd H1 fl _ d=_;rw [upd_ne nd];exact hd,upd_same⟩ (g.ok.mono p2.sH);clear h
   revert o1
   generalize zs++[(fl,d)]=Z;generalize ls0++[l]=LL;intro o1;induction Z generalizing LL with
   | nil=>cases LL with
    | nil=>trivial
    | cons _ _=>exact o1.elim
   | cons z Z ih=>cases LL with
    | nil=>exact o1.elim
    | cons l' LL =>
     obtain ⟨⟨w1,w2⟩,w3⟩:=o1;have n1:z.2≠a:=fun w=>by rw [w,la1] at w1;unfold LamX.CodeO at w1;cases w1
     have n2:z.1≠a:=fun w=>by rw [w,la1] at w2;unfold LamO at w2;cases w2
     exact ⟨⟨by rw [upd_ne n1];exact w1,by rw [upd_ne n2];exact w2⟩,ih LL w3⟩
  refine apps_ok nt tb hσ ls (zs:=zs++[(fl,d)]) (ls0:=ls0++[l]) ⟨po6,g.na,g.fa,by rw [upd_same,List.map_append];rfl,okA⟩ (by rw [List.length_append];simp;omega) fun zs' H'' g'=>h zs' H'' (by rw [List.append_assoc] at g';exact g')
def esL:Es→List E
 | .nil=>[]
 | .cons e r=>e::esL r
theorem wks_at {G:Nat→D} {c:Nat→List Sl→R (D×Bool)} {dfl:Nat→Nat→List D} {j:Nat} {ks:List Nat} {en:En}:∀{es:Es} {ds:List D},wksR G c dfl j ks en es = .ok ds →
  ∃rs:List Bool,ds=rs.map .bool∧rs.length=(esL es).length∧∀(k:Nat) (e:E),(esL es)[k]?=some e→∃v:Bool,rs[k]?=some v∧rfR ks (evF G c dfl e en) (fun s=>c j [.un,.un,s]) = .ok (.bool v,false)
 | .nil,ds,h=>by
  cases h;exact ⟨[],rfl,rfl,fun k e h=>by simp [esL] at h⟩
 | .cons e r,ds,h=>by
  have h:(match rfR ks (evF G c dfl e en) (fun s=>c j [.un,.un,s]) with
   | .ok (.bool b,false)=>(wksR G c dfl j ks en r).bind fun ds => .ok (PyData.bool b::ds)
   | _ => .no) = .ok ds:=h
  split at h
  ·rename_i b eb;obtain ⟨ds',e1,e2⟩:=R.of_bind h;cases e2;obtain ⟨rs,h1,h2,h3⟩:=wks_at e1;refine ⟨b::rs,by rw [h1];rfl,by show rs.length+1=(esL r).length+1;rw [h2],fun k e' he=>?_⟩;cases k with
   | zero =>
    have he:some e=some e':=he;cases he;exact ⟨b,rfl,eb⟩
   | succ k=>exact h3 k e' he
  ·cases h
def tEl (L:Lk) (K:PySem.W.Frag) (j:Nat) (q:Str) (cs:List (Str×Addr)) (w:Nat) (ls:List Lam) (τ:L2.St):TE:=fun σ H Q=>∃l∈ls,tCw L K j q l.2.1 l.2.2 cs w τ (fun E=>dV L K (fun cls d _ H'=>E cls d H') l.1) σ H Q
def tIfw (L:Lk) (K:PySem.W.Frag) (W:WX) (i w j:Nat) (q:Str) (cs:List (Str×Addr)) (ls:List Lam):TT:=tTest (tOp (rO2 K .inn) (dV L K W (.con (.bool false))) (fun σ H Q=>tLc (iList K (tVar i)) (gName w) tYes (tEl L K j q cs w ls σ) [w] σ H Q))
theorem dpa_bools {f:Hp}:∀rs:List Bool,DpAll K f (rs.map V.bl) (rs.map .bool)
 | [] => .nil
 | b::rs => .cons (.bl b) (dpa_bools rs)
end
section
variable {L:Lk} {W:WX} {X:Cx}
theorem test_w {i w j:Nat} {ks:List Nat} {q:Str} {cs:List (Str×Addr)} {a:Addr} {es:Es} {rs:List Bool} {p:D×Bool} (lk:LkOk L X.prog X.w X.K X.mg X.base) (hk:ksOk L.clsN ks=true) (hA:L.clsN.contains "AreaError" = true) {f0 H0 f H H':Hp} {σ:L2.St} {en:En} (m:Mt X.K f0 H0 f H σ en) (hi:i<en.length) (hw:w<en.length)
  {zs:List (Addr×Addr)} {ls:List Lam} (g:Gs q cs f H a zs ls H') (he:ls.map (·.1)=esL es) (hl:rs.length=(esL es).length) (hlen:rs.length<line)
  (hr:∀(k:Nat) (e:E),(esL es)[k]?=some e→∃v:Bool,rs[k]?=some v∧rfR ks (L.ev e (en.set i .un)) (fun s=>L.c j [.un,.un,s]) = .ok (.bool v,false))
  (hs:sem2 .inn (.bool false) (.list (rs.map PyData.bool)) = .ok p) {Qb:Bool→Hp→Prop} (hQ:∀b H'',p.1 = .bool b→Po f H f H''→Qb b H'') (hp:∃b,p=(.bool b,false)):tIfw L X.K W i w j q cs ls (σ.set i (some (.ref a))) H' Qb:=by
 have m':Mt X.K f0 H0 f H' (σ.set i (some (.ref a))) (en.set i .un):=(m.mono g.po).setU;have hσl:(σ.set i (some (.ref a))).length=en.length:=by rw [List.length_set];exact m.len
 have hσ:(σ.set i (some (V.ref a)))[i]?=some (some (V.ref a)):=List.getElem?_set_self (by rw [m.len];exact hi);obtain ⟨b,rfl⟩:=hp;refine ⟨f0,H0,f,_,m',?_⟩;show Ac X.K f H' _ (.bool false,false);intro v f1 H1 q1 hv;cases (show Dp X.K f1 v (.bool false) from hv);have la1:=q1.sH.lst g.la;have zl:zs.length=rs.length:=by rw [g.ok.len,hl,←he,List.length_map]
 refine ⟨.ref a,hσ,a,rfl,⟨_,.inl (.inl la1)⟩,fun D hD=>?_⟩;have fok:FsOk q cs H1 zs ls:=g.ok.mono q1.sH;let St:Nat→Hp→Prop:=fun k H2=>k≤rs.length∧∃fk,Po f1 H1 fk H2∧fk D=none∧H2 D=some (.lst ((rs.take k).map V.bl))
 refine ⟨fun k mm H2=>mm=rs.length-k∧St k H2,⟨rs.length,rfl,Nat.zero_le _,f1,(Po.refl q1.sub).newH hD,q1.sub.free hD,upd_same⟩,?_⟩;rintro k mm H2 ⟨rfl,hk1,fk,qk,fkD,HD⟩;have la2:=qk.sH.lst la1;by_cases hlt:k<rs.length
 ·obtain ⟨z,hz⟩:∃z,zs[k]?=some z:=⟨zs[k]'(by omega),List.getElem?_eq_getElem (by omega)⟩;have hx:(zs.map fun z=>V.ref z.1)[k]?=some (.ref z.1):=by rw [List.getElem?_map,hz];rfl
  refine .inr ⟨⟨_,_,.inl (.inl la2),hx⟩,St (k+1),fun H'' hst=>⟨_,by omega,rfl,hst⟩,fun x H3 hy=>?_⟩;obtain ⟨rfl,hx2⟩:=hy;have ex:=hx2 _ (.inl (.inl la2));rw [hx] at ex;cases ex;obtain ⟨l,hl1,hl2⟩:=(fok.mono qk.sH).at_ hz;have hle:(esL es)[k]?=some l.1:=by rw [←he,List.getElem?_map,hl1];rfl
  obtain ⟨bv,hb1,hb2⟩:=hr k l.1 hle;have hwl:w<(L2.wipe (σ.set i (some (V.ref a))) [w]).length:=by rw [L2.wipe_length,hσl];exact hw
  show L2.wipe ((L2.wipe (σ.set i (some (V.ref a))) [w]).set w (some (V.ref z.1))) [w]=L2.wipe (σ.set i (some (V.ref a))) [w]∧_;refine ⟨?_,?_⟩
  ·show ((((σ.set i (some (V.ref a))).set w none).set w (some (V.ref z.1))).set w none)=(σ.set i (some (V.ref a))).set w none;rw [List.set_set,List.set_set]
  ·show tEl L X.K j q cs w ls _ _ _ _;refine ⟨l,List.mem_of_getElem? hl1,z.1,z.2,List.getElem?_set_self hwl,hl2,?_⟩;have sm:Same fk H3:=qk.sub;refine rf_tt (ks:=ks) (en:=en.set i .un) (W':=W0) lk hk hA (m'.mono (q1.trans qk)) ?_;rw [hb2];show Ac X.K fk H3 _ (.bool bv,false);intro v f2 H4 q2 hv;cases (show Dp X.K f2 v (.bool bv) from hv);have HD4:=q2.sH.lst HD;have tk:(rs.take (k+1)).map V.bl=(rs.take k).map V.bl++[V.bl bv]:=by
    rw [List.take_succ,hb1,List.map_append];rfl
   refine ⟨_,HD4,by rw [List.length_map,List.length_take,←line_eq];omega,hlt,f2,?_,q2.loose fkD HD,by rw [upd_same,tk]⟩;exact (qk.trans q2).upd (nw hD) (q2.loose fkD HD) HD4
 ·have ek:k=rs.length:=by omega
  subst ek;refine .inl ⟨⟨_,.inl (.inl la2),by rw [List.length_map];omega⟩,?_⟩;rw [List.take_length] at HD;refine ⟨fk,.bool false,.list (rs.map .bool),(.bool b,false),qk.sub,.inl (.bl false),.inr ⟨_,D,rs.map V.bl,rfl,rfl,.inl (.inl HD),dpa_bools rs⟩,hs,fun v f3 H3 q3 hv=>?_⟩;cases (show Dp X.K f3 v (.bool b) from hv);exact ⟨b,rfl,hQ b H3 rfl (by
   have po3:=g.po.trans (q1.trans (qk.trans q3));exact ⟨po3.sH,Same.refl f,fun x o e=>po3.sub _ _ (po3.sf _ _ e),fun _ _ e => .inl e,id,po3.tab⟩)⟩
def LamF (L:Lk) (N:List Str) (sc:Nms) (l:Lam):Prop:=lamOk sc l.2.2=true∧ckE L.T L.cons L.clsN N l.2.2.names l.1 l.2.1=true
variable {N:List Str} {sc:Nms}
theorem apps_ps (xs:XS L N sc W X) {i:Nat} {c P:Addr} (TB:LamX.TabB X.base X.mg c P) (hcode:X.env.code = .ref c) (hm:(P,X.env.qual ++ "<lambda>")∈CdT.T) (hu:∀p∈CdT.T,p.1=P→p.2=X.env.qual ++ "<lambda>"):∀(es:Es) (sts rest:List Stmt),wkApp L.T L.cons L.clsN N sc i es sts=some rest →
  ∃ls:List Lam,ls.map (·.1)=esL es∧(∀l∈ls,LamF L N sc l)∧∀{t:TS},PSs X rest t→PSs X sts (tApps X.K (X.env.qual ++ "<lambda>") X.env.cells i ls t)
 | .nil,sts,rest,h=>by
  cases h;exact ⟨[],rfl,fun l hl=>(by cases hl),fun ht=>ht⟩
 | .cons e es,sts,rest,h=>by
  unfold wkApp at h;split at h
  ·rename_i x p1 m ap b scope lp cp p2 sts';split at h
   ·rename_i hc;obtain ⟨hc,h5⟩:=band hc;obtain ⟨hc,h4⟩:=band hc;obtain ⟨hc,h3⟩:=band hc;obtain ⟨h1,h2⟩:=band hc;have h2:=str_beq h2;subst h2;obtain ⟨v1,v2,v3,v4⟩:=vis_of xs.xc h1;obtain ⟨ls,a1,a2,a3⟩:=apps_ps xs TB hcode hm hu es sts' rest h;refine ⟨(e,b,scope)::ls,by rw [List.map_cons,a1];rfl,fun l hl=>?_,fun ht=>?_⟩
    ·rcases List.mem_cons.mp hl with rfl | hl
     ·exact ⟨h4,h5⟩
     ·exact a2 l hl
    ·exact pss_cons (ps_expr (pe_bm PySem.F.plainAttrs_list PySem.F.slot_list_append PySem.F.type_list_append mt_append (pe_var v1 v2 v3 v4) (pa_cons (pe_lm3 xs.ex TB hcode hm hu (lamOk_s xs.xc h4)) pa_nil) rfl (by rfl) h3 rfl rfl)) (a3 ht)
   ·cases h
  ·cases h
theorem area_in (lk:LkOk L X.prog X.w X.K X.mg X.base) {j:Nat} {f0:Str} (ht:(match L.T[j]? with | some g=>g.name==f0&&(match g.body with | .rf _ _ _=>true | _=>false) | none=>false)=true):L.clsN.contains "AreaError" = true:=by
 cases eg:L.T[j]? with
 | none=>rw [eg] at ht;cases ht
 | some g =>
  rw [eg] at ht;obtain ⟨t1,t2⟩:=band ht;obtain ⟨h,i,r,eb⟩:∃h i r,g.body = .rf h i r:=by
   cases q:g.body with
   | rf h i r=>exact ⟨h,i,r,rfl⟩
   | _=>rw [q] at t2;cases t2
  obtain ⟨fa,params,s1,s2,rest,sg,a,oc,od,dV',kV,doc,pm,an,cdv,ct,osl,hmg,hkp,lk,hcd,hps,hB,Sg,hok,hR⟩:=lk.rf j h i r g eg eb;obtain ⟨e1,a',n,R⟩:=rfOk_h hok;exact List.contains_iff_mem.mpr (mem_of_at R.cl)
theorem if_ps (xs:XS L N sc W X) (hmk:isMk sc=true) {i w j:Nat} {st:Stmt} (h:wkIf L.T N sc i w j st=true) {ls:List Lam} (hls:∀l∈ls,LamF L N sc l) :
  L.clsN.contains "AreaError" = true∧PS X st (tIfS (tIfw L X.K W i w j (X.env.qual ++ "<lambda>") X.env.cells ls) (tRet (dV L X.K W (.con (.bool false)))) tNext):=by
 unfold wkIf at h;split at h
 ·rename_i k1 p1 f pf y py p3 y2 py2 x px scope p2 p4 kr pr p5 p6;obtain ⟨h,h6⟩:=band h;obtain ⟨h,h5⟩:=band h;obtain ⟨h,h4⟩:=band h;obtain ⟨h,h3⟩:=band h;obtain ⟨h1,h2⟩:=band h;obtain ⟨v1,v2,v3,v4⟩:=vis_of xs.xc h1;obtain ⟨room,lv,_⟩:=xs.xc.mkr hmk;refine ⟨area_in xs.xc.lk h3,ps_if (pt_cmpR (op_cmp xs.xc.units (by rfl)) (sE (.con (.bool false)) xs.xc _ (by rfl)) (pe_lcIn (te:=tEl L X.K j (X.env.qual ++ "<lambda>") X.env.cells w ls) xs.xc.calm xs.xc.nd (pi_list (pe_var v1 v2 v3 v4)) (blk_ok xs.xc h4) (fun s H C cl fp=>?_) (fun pX τ s H C cl fp back=>?_) (fun _=>rfl)) (by rfl))
   (pss_one (ps_ret (sE (.con (.bool false)) xs.xc _ (by rfl)))) pss_nil⟩
  ·obtain ⟨b1,b2,b3⟩:=loc_of (xs.xc.blk h4 s H C cl fp) h6;exact pg_name (xs.xc.blk h4 s H C cl fp).nd b1 b2 b3
  ·refine ⟨fun pins s' σ H' Q I q=>?_⟩;obtain ⟨l,hl,q⟩:=q;obtain ⟨l1,l2⟩:=hls l hl;exact (pe_cw back (xs.xc.blk h4 s H C cl fp) xs.xc lv room (q:=X.env.qual ++ "<lambda>") rfl h2 h3 h5 l1 (fun {E} {X'} hK xc'=>by rw [←show X'.K=X.K from hK];exact sE l.1 xc' _ l2)).run pins s' σ H' Q I q
 ·cases h
theorem imp_wks {i w j:Nat} {ks:List Nat} {e:E} {es:Es} {r:Ss} {q:Str} {cs:List (Str×Addr)} {l0:Lam} {ls:List Lam} {Dn:Ends} {σ:L2.St} {H:Hp} (lk:LkOk L X.prog X.w X.K X.mg X.base) (hk:ksOk L.clsN ks=true) (hA:L.clsN.contains "AreaError" = true)
  (h0:l0.1=e) (he:ls.map (·.1)=esL es) (h:dSs L X.K W (.wks i w j ks (.cons e es) r) Dn σ H) :
  tSeq (tAsg (tLst (tCons (tLm3 q l0.2.1 l0.2.2 cs) tNil)) (gName i)) (tApps X.K q cs i ls (tSeq (tIfS (tIfw L X.K W i w j q cs (l0::ls)) (tRet (dV L X.K W (.con (.bool false)))) tNext) (dSs L X.K W r))) Dn σ H:=by
 obtain ⟨f0,H0,f,en,m,o⟩:=h;have o:OutS L X.K W f0 H0 f (if i<en.length∧w<en.length then (match wksR L.G L.c (dflT L.T) j ks (en.set i .un) (.cons e es) with
   | .ok ds=>if ds.length<line then (match sem2 .inn (.bool false) (.list ds) with
    | .ok (.bool true,_) => .ok (.rt (.bool false) false)
    | .ok (.bool false,_)=>L.ess r (en.set i .un)
    | _ => .no) else .no
   | _ => .no) else .no) Dn:=o
 by_cases hiw:i<en.length∧w<en.length
 case neg=>rw [if_neg hiw] at o;exact o.elim
 rw [if_pos hiw] at o;obtain ⟨hi,hw⟩:=hiw;cases ew:wksR L.G L.c (dflT L.T) j ks (en.set i .un) (.cons e es) with
 | no=>rw [ew] at o;exact o.elim
 | ex k=>rw [ew] at o;exact o.elim
 | ok ds =>
  rw [ew] at o;obtain ⟨rs,rfl,hl,hr⟩:=wks_at ew;have o:OutS L X.K W f0 H0 f (if (rs.map PyData.bool).length<line then (match sem2 .inn (.bool false) (.list (rs.map .bool)) with
    | .ok (.bool true,_) => .ok (.rt (.bool false) false)
    | .ok (.bool false,_)=>L.ess r (en.set i .un)
    | _ => .no) else .no) Dn:=o
  by_cases hz:(rs.map PyData.bool).length<line
  case neg=>rw [if_neg hz] at o;exact o.elim
  rw [if_pos hz] at o;obtain ⟨p,hs,b,hb⟩:∃p,sem2 .inn (.bool false) (.list (rs.map .bool)) = .ok p∧∃b,p=(.bool b,false):=by
   have es:sem2 .inn (.bool false) (.list (rs.map .bool))=if SeqAt.shaped (.bool false)=true∧SeqAt.shaped (.list (rs.map .bool))=true then v1 (.bool ((rs.map PyData.bool).any fun z=>z.eqv (.bool false))) else .no:=rfl
   by_cases hc:SeqAt.shaped (.bool false)=true∧SeqAt.shaped (.list (rs.map .bool))=true
   ·rw [if_pos hc] at es;exact ⟨_,es,_,rfl⟩
   ·rw [if_neg hc] at es;rw [es] at o;exact o.elim
  subst hb;rw [hs] at o;rw [List.length_map] at hz;have hl1:rs.length=(esL es).length+1:=hl;have hl2:ls.length=(esL es).length:=by rw [←he,List.length_map]
  refine ⟨m.ct.1,fun fl d H1 ex T1 n1 hd=>⟨by show 1≤sizeLine;decide,fun p hp=>?_⟩⟩;have p1:Po f H f H1:=po_ext m.po.sub m.ct.2 ex T1;have p2:Po f H f (upd H1 fl (LamO q l0.2.1 l0.2.2 cs fl d)):=p1.newH n1;have p3:=p2.newH (p:=p) (o := .lst [V.ref fl]) hp;have nd:d≠fl:=fun z=>by rw [z,n1] at hd;cases hd
  have nf:fl≠p:=fun z=>by rw [←z,upd_same] at hp;cases hp
  have ndp:d≠p:=fun z=>by rw [←z,upd_ne nd,hd] at hp;cases hp
  have g0:Gs q cs f H p [(fl,d)] [l0] (upd (upd H1 fl (LamO q l0.2.1 l0.2.2 cs fl d)) p (.lst [V.ref fl])) :=
   ⟨p3,p2.sH.free hp,p2.sub.free hp,upd_same,⟨by show upd (upd H1 fl _) p _ d=_;rw [upd_ne ndp,upd_ne nd];exact hd,by show upd (upd H1 fl _) p _ fl=_;rw [upd_ne nf,upd_same]⟩,trivial⟩
  show tApps X.K q cs i ls (tSeq (tIfS (tIfw L X.K W i w j q cs (l0::ls)) (tRet (dV L X.K W (.con (.bool false)))) tNext) (dSs L X.K W r)) Dn (σ.set i (some (.ref p))) _;refine apps_ok m.ct.2 m.ct.1 (List.getElem?_set_self (by rw [m.len];exact hi)) ls (zs:=[(fl,d)]) (ls0:=[l0]) g0 (by rw [←line_eq];show 1+ls.length<line;omega) fun zs' H'' g=>?_;show tIfw L X.K W i w j q cs (l0::ls) _ _ _;refine test_w lk hk hA m hi hw (zs:=zs') (ls:=l0::ls) g (es := .cons e es) (by rw [List.map_cons,h0,he];rfl) hl hz hr hs (fun b' H2 eb po=>?_) ⟨b,rfl⟩;cases (show PyData.bool b = .bool b' from eb);have m':Mt X.K f0 H0 f H2 (σ.set i (some (.ref p))) (en.set i .un):=(m.mono po).setU;cases b with
  | true =>
   have o:EndOk L X.K W f0 H0 f (.rt (.bool false) false) Dn:=o;exact ⟨f0,H0,f,_,m',fun v f4 H4 q4 hv=>o v f4 H4 (m'.mono q4).po hv⟩
  | false=>exact ⟨f0,H0,f,_,m',o⟩
theorem wks_ok (xs:XS L N sc W X) {i w j:Nat} {ks:List Nat} {es:Es} {r:Ss} {sts rest:List Stmt} (h:wkAll L.T L.cons L.clsN N sc i w j ks es sts=some rest) (hr:PSs X rest (dSs L X.K W r)):PSs X sts (dSs L X.K W (.wks i w j ks es r)):=by
 unfold wkAll at h;split at h
 ·rename_i e es x px b scope lp lp2 pos rest0;split at h
  ·rename_i hc;obtain ⟨hc,h5⟩:=band hc;obtain ⟨hc,h4⟩:=band hc;obtain ⟨hc,h3⟩:=band hc;obtain ⟨h1,h2⟩:=band hc;obtain ⟨b1,b2,b3⟩:=loc_of xs.xc h1;obtain ⟨room,lv,c,P,TB,hcode,hmT,hu⟩:=xs.xc.mkr h2;cases ea:wkApp L.T L.cons L.clsN N sc i es rest0 with
   | none=>rw [ea] at h;cases h
   | some q =>
    rw [ea] at h;cases q with
    | nil=>cases h
    | cons st rest1 =>
     have h:(if wkIf L.T N sc i w j st=true then some rest1 else none)=some rest:=h;by_cases hif:wkIf L.T N sc i w j st=true
     case neg=>rw [if_neg hif] at h;cases h
     rw [if_pos hif] at h;cases h;obtain ⟨ls,a1,a2,a3⟩:=apps_ps xs TB hcode hmT hu es rest0 (st::rest) ea;obtain ⟨hA,hI⟩:=if_ps xs h2 hif (ls:=(e,b,scope)::ls) fun l hl=>by
      rcases List.mem_cons.mp hl with rfl | hl
      ·exact ⟨h4,h5⟩
      ·exact a2 l hl
     exact PSs.imp (pss_cons (ps_set xs.xc.nd b1 b2 (pe_lst (pa_cons (pe_lm3 xs.ex TB hcode hmT hu (lamOk_s xs.xc h4)) pa_nil)) rfl b3) (a3 (pss_cons hI hr))) fun Dn σ H q=>imp_wks (l0:=(e,b,scope)) xs.xc.lk h3 hA rfl a1 q
  ·cases h
 ·cases h
end
end AW
namespace AW
open PySem PySem.Spec PyProof.Rows L2
variable [CdT] [StA]
section
variable {X:Cx}
def PTk (X:Cx) (e:Expr) (t:TT):Prop:=∀(pins:List (Addr×Obj)) (s:Shared) (σ:L2.St) (H:Hp) (Q:Bool→Hp→Prop),Inv X pins σ H s→t σ H Q →
 wpAny (model X.prog X.w) X.A (isTrue e X.env (eval e X.env)) (fun k s1=>(k=true→1≤s1.toks)∧TP X pins σ Q k s1) X.xe s
theorem ptk_cmp {a:Expr} {op:CmpOp} {c:Str} {k:Nat} {p pos:Pos} {r:R2} {ta:TE} (ho:OpR X (compareOp op) r) (ha:PE X a ta) (hm:behindInMarks op (.Constant (.str c) k p)=false) :
  PTk X (.Compare a [op] [.Constant (.str c) k p] pos) (tTest (tOp r ta (tC (.str c)))):=by
 intro pins s σ H Q I h;refine wpAny_isTrue_Compare1 (thn (ha.run pins s σ H _ I h) fun v s1 ⟨x,H1,I1,r1,q1⟩=>Calls.Constant_str ?_) hm;have I2:Inv X pins σ H1 { s1 with toks:=s1.toks+1 }:=I1.tok _;refine wpAny_mono (PySem.wpAny_toks (ho pins { s1 with toks:=s1.toks+1 } σ H1 x (.str c) v (.str c s1.toks) _ I2 r1 ⟨s1.toks,rfl⟩ q1)) (fun d s3 hd=>?_) fun _ _ z=>z.2;obtain ⟨hk,z,H3,I3,r3,b,e,q3⟩:=hd;subst e;cases r3;refine wpAny_truthy_bool ⟨fun _=>?_,H3,I3,q3⟩;have hk:s1.toks+1≤s3.toks:=hk;omega
theorem ptk_and {l r:Expr} {tA tB:TT} {pos:Pos} (ha:PT X l tA) (hb:PTk X r tB):PTk X (.BoolOp .And [l,r] pos) (tAnd tA tB):=by
 intro pins s σ H Q I h;refine isTrue_and (thn (ha.run pins s σ H _ I h) fun c s1 ⟨H1,I1,q1⟩=>?_);cases c with
 | true =>
  refine isTrue_and (thn (hb pins s1 σ H1 Q I1 q1) fun c s2 e=>?_);cases c with
  | true=>exact isTrue_and_nil e
  | false=>exact e
 | false=>exact And.intro (fun z=>nomatch z) ⟨H1,I1,q1⟩
def tRpl (i:Nat) (c d:Str):TE:=fun σ H Q=>∃x,σ[i]?=some (some (.str x))∧(c==d)=false∧x.length+(x.length+1)*d.length≤16777216∧Q (.str (Txt.replace x c d)) H
theorem pet_rpl {i:Nat} {y:Str} {c d:Str} {k1 k2:Nat} {py ap cp p1 p2:Pos} (hN:X.N[i]?=some y) (hv:Vis X.env.scope y) (hdb:(y==("__debug__" : Str))=false) (hcd:(y==("__classdict__" : Str))=false) (hl:(ap.endLine==cp.line)=true) :
  PET X (.Call (.Attribute (.Name y py) "replace" ap) [.Constant (.str c) k1 p1,.Constant (.str d) k2 p2] [] cp) (tRpl i c d):=by
 intro pins s σ H Q h0 I h;obtain ⟨x,hx,hcd',hz,q⟩:=h;refine PySem.Call_method2 rfl rfl hl (wpAny_mono (PySem.wpAny_toks ((pe_var (pos:=py) hN hv hdb hcd).run pins s σ H (fun v H1=>v = .str x∧H1=H) I ⟨.str x,hx,rfl,rfl⟩)) (fun v s1 hv1=>?_) fun _ _ z=>z.2);obtain ⟨hk,w,H1,I1,r1,rfl,rfl⟩:=hv1;obtain ⟨t,rfl⟩:=r1;refine ⟨"str", _,F.plainAttrs_str,F.slot_str_replace,F.type_str_replace,typeIs_str _ _ _,(fun _ e=>nomatch e),Calls.callWith_builtin rfl (Calls.evalArgs_plain (Calls.spliced_cons (Calls.Constant_str (Calls.spliced_cons (Calls.Constant_str (Calls.spliced_nil ?_))))))⟩;exact PySem.SC.replace (show s1.toks≠0 by omega) (show s1.toks+1≠0 by omega) (show s1.toks≠s1.toks+1 by omega) hcd' hz fun t' k=>⟨.str (Txt.replace x c d),H1,I1.tok _,⟨t',rfl⟩,q⟩
def tRplS (f i:Nat) (c d:Str) (te:TE):TS:=fun D σ H=>∃x,σ[i]?=some (some (.str x))∧(c==d)=false∧x.length+(x.length+1)*d.length≤16777216 ∧
 te σ H fun v H1=>∃z,v = .str z∧(Txt.replace x c d).length+z.length≤sizeLine∧D.nx (σ.set f (some (.str (Txt.replace x c d++z)))) H1
theorem pst_rpl {f i:Nat} {w y:Str} {c d:Str} {e:Expr} {te:TE} {k1 k2:Nat} {pw py ap cp p1 p2 p5 pos:Pos} (nd:X.N.Nodup) (hf:X.N[f]?=some w) (hw:Loc X.env.scope w) (hff:X.fn w=true∨X.env.scope.names.lookup w=some .local)
  (hN:X.N[i]?=some y) (hv:Vis X.env.scope y) (hdb:(y==("__debug__" : Str))=false) (hcd:(y==("__classdict__" : Str))=false) (hl:(ap.endLine==cp.line)=true) (he:PE X e te) :
  PST X (.Assign [.Name w pw] (.BinOp (.Call (.Attribute (.Name y py) "replace" ap) [.Constant (.str c) k1 p1,.Constant (.str d) k2 p2] [] cp) .Add e p5) pos) (tRplS f i c d te):=by
 intro pins s σ H D h0 I h;obtain ⟨x,hx,hcd',hz,q⟩:=h;refine wpAny_Assign_Name (Q:=_) ?_ rfl;refine wpAny_BinOp ?_;refine thn (pet_rpl (X:=X) (k1:=k1) (k2:=k2) (p1:=p1) (p2:=p2) (py:=py) (c:=c) (d:=d) hN hv hdb hcd hl pins s σ H (fun v H1=>v = .str (Txt.replace x c d)∧H1=H) h0 I ⟨x,hx,hcd',hz,rfl,rfl⟩) fun v s1 ⟨a,H1,I1,r1,e1,e2⟩=>?_;subst e1;subst e2
 refine thn (he.run pins s1 σ H1 _ I1 q) fun u s2 ⟨b,H2,I2,r2,z,ez,hlz,qz⟩=>?_;subst ez;refine thn (op_add_str pins s2 σ H2 (.str (Txt.replace x c d)) (.str z) v u (fun v' H3=>v' = .str (Txt.replace x c d++z)∧H3=H2) I2 r1 r2 ⟨_,_,rfl,rfl,hlz,rfl,rfl⟩) fun v3 s3 ⟨b3,H3,I3,r3,e3,e4⟩=>?_;subst e3;subst e4
 exact store_ok I3 nd hf hw r3 (fun s4 I4=>⟨_,H3,I4,qz⟩) hff
theorem ps_iteR {t:Expr} {st:Stmt} {b:List Stmt} {tt:TT} {ts tb:TS} {pos:Pos} (ht:PTk X t tt) (hs:PST X st ts) (hb:PSs X b tb):PS X (.If t [st] b pos) (tIfS tt ts tb):=by
 refine ⟨fun pins s σ H D I h=>?_⟩;refine wpAny_If (thn (ht pins s σ H _ I h) fun d s1 ⟨hk,H1,I1,q1⟩=>?_);cases d with
 | true =>
  refine wpAny_execs_cons (thn (hs pins s1 σ H1 D (hk rfl) I1 q1) fun f s2 q=>?_);cases f with
  | next =>
   obtain ⟨σ',H',I',q⟩:=q;exact wpAny_execs_nil ⟨σ',H',I',q⟩
  | ret v=>exact q
  | brk=>exact q
  | cont=>exact q
 | false=>exact hb.run pins s1 σ H1 D I1 q1
end
section
variable {L:Lk} {N:List Str} {sc:Nms} {W:WX} {X:Cx} {K:PySem.W.Frag}
theorem tC_of {y:Str} {σ H Q} (h:dR L K W (.con (.str y)) σ H Q):tC (.str y) σ H Q:=by
 obtain ⟨f0,H0,f,en,m,o⟩:=h;exact (show ∀v f' H',Po f H f' H'→Vr K f' H' v (.str y)→Q v H' from o) _ f H (Po.refl m.po.sub) (.inl (.str y))
theorem andEq_inv {t':Expr} (h:andEq t'=true):∃l z pz c k p q pos,t' = .BoolOp .And [l,.Compare (.Name z pz) [.Eq] [.Constant (.str c) k p] q] pos:=by
 unfold andEq at h;split at h
 ·exact ⟨_,_,_,_,_,_,_,_,rfl⟩
 ·cases h
theorem andE_inv {t:E} (h:andE t=true):∃a i y,t = .and a (.op2 .eq (.var i) (.con (.str y))):=by
 unfold andE at h;split at h
 ·exact ⟨_,_,_,rfl⟩
 ·cases h
theorem ptk_of (xc:XC L N sc W X) {t:E} {t':Expr} (h:ckE L.T L.cons L.clsN N sc t t'=true) (h1:andEq t'=true) (h2:andE t=true):PTk X t' (dT L X.K W t):=by
 obtain ⟨l,zn,zp,c,k,p,q,pos,rfl⟩:=andEq_inv h1;obtain ⟨a,i,y,rfl⟩:=andE_inv h2;obtain ⟨c1,c2⟩:=and2 (show (ckE L.T L.cons L.clsN N sc a l&&ckE L.T L.cons L.clsN N sc (.op2 .eq (.var i) (.con (.str y))) (.Compare (.Name zn zp) [.Eq] [.Constant (.str c) k p] q))=true from h);obtain ⟨d1,d2⟩:=and2 (show (cmpOf .eq .Eq && !behindInMarks .Eq (.Constant (.str c) k p)&&ckE L.T L.cons L.clsN N sc (.var i) (.Name zn zp)&&ckE L.T L.cons L.clsN N sc (.con (.str y)) (.Constant (.str c) k p))=true from c2);obtain ⟨d1,d3⟩:=and2 d1;obtain ⟨d1,d4⟩:=and2 d1;have ey:y=c:=eq_of_beq (show (y==c)=true from d2);subst ey;intro pins s σ H Q I q;refine ptk_and (sT a xc _ c1) (ptk_cmp (op_cmp (o := .eq) (op := .Eq) xc.units rfl) (sR_of xc d3 (sE (.var i) xc _ d3)) (not_false d4)) pins s σ H Q I ?_;have q2:=impT_and q;obtain ⟨f0,H0,f,en,m,o⟩:=q2;refine ⟨f0,H0,f,en,m,o.imp (Po.refl m.po.sub) fun b _ k f' H' q'=>?_⟩;have z:=k f' H' q';cases b with
 | false=>exact z
 | true =>
  have z:dT L X.K W (.op2 .eq (.var i) (.con (.str y))) σ H' Q:=z;show tTest (tOp (rO2 X.K .eq) (dR L X.K W (.var i)) (tC (.str y))) σ H' Q;have z2:=imp_op2 (dT_dV (fun _ e=>by cases e) (fun en p ep=>?_) z)
  ·obtain ⟨g0,G0,g,en2,m2,o2⟩:=z2;refine ⟨g0,G0,g,en2,m2,o2.imp (Po.refl m2.po.sub) fun d _ k2 v g' G' q2 hv=>?_⟩;exact tC_of (k2 v g' G' q2 hv)
  ·have ep':(rd1 (.var i) en (L.ev (.var i) en)).bind (fun x=>(rd1 (.con (.str y)) en (L.ev (.con (.str y)) en)).bind fun y=>sem2 .eq x y) = .ok p:=ep;obtain ⟨x,_,e2⟩:=R.of_bind ep';obtain ⟨y,_,e3⟩:=R.of_bind e2;exact cmp_bool (o := .eq) (op := .Eq) rfl e3
theorem val_noex (en:En) (i k:Nat):val en i ≠ .ex k:=by
 unfold val;split <;> (intro h;cases h)
theorem imp_iteR {t:E} {f i:Nat} {c d:Str} {e:E} {b:Ss} {Dn σ H} (h:dS L K W (.iteR t f i c d e b) Dn σ H):tIfS (dT L K W t) (tRplS f i c d (dV L K W e)) (dSs L K W b) Dn σ H:=by
 obtain ⟨f0,H0,fh,en,m,o⟩:=h;have o1:=OutS.lf m (show OutS L K W f0 H0 fh (lf en (evT L.G L.c (dflT L.T) t en) fun k=>if k then lf en ((val en i).bind strR) fun x=>if (c==d)=false∧x.length+(x.length+1)*d.length≤line then lf en (L.ev e en) fun y=>(match y.1 with
   | .str z=>if (Txt.replace x c d).length+z.length≤line then .ok (.nx (en.set f (.va (.str (Txt.replace x c d++z))))) else .no
   | _ => .no) else .no else L.ess b en) Dn from o)
 refine ⟨f0,H0,fh,en,m,o1.imp (Po.refl m.po.sub) fun k _ h1 f1 H1 q1=>?_⟩;have m1:=m.mono q1;cases k with
 | false=>exact ⟨f0,H0,f1,en,m1,OutS.mono q1.sf h1⟩
 | true =>
  rw [if_pos rfl] at h1;show tRplS f i c d (dV L K W e) Dn σ H1;have h2:=(OutS.lf m1 (OutS.mono q1.sf h1)).bind;obtain ⟨dx,ex,h3⟩:=h2.okk (val_noex en i);obtain ⟨x,ex2,h4⟩:=h3.okk (strR_noex dx);have ed:=strR_at ex2;subst ed;have ei:en[i]?=some (.va (.str x)):=by
   unfold val at ex;split at ex
   ·rename_i z;cases ex;exact z
   ·cases ex
  obtain ⟨v,ev,hv⟩:=m1.va ei;cases hv;by_cases hz:(c==d)=false∧x.length+(x.length+1)*d.length≤line
  ·rw [if_pos hz] at h4;have h5:=OutS.lf m1 h4;refine ⟨x,ev,hz.1,hz.2,f0,H0,f1,en,m1,h5.imp (Po.refl m1.po.sub) fun y _ h6 v f2 H2 q2 hv2=>?_⟩;obtain ⟨dy,by'⟩:=y;cases dy <;> first
    | exact h6.elim
    | skip
   case str z _ =>
    have h6:OutS L K W f0 H0 f1 (if (Txt.replace x c d).length+z.length≤line then .ok (.nx (en.set f (.va (.str (Txt.replace x c d++z))))) else .no) Dn:=h6;by_cases hl:(Txt.replace x c d).length+z.length≤line
    ·rw [if_pos hl] at h6;refine ⟨z,hv2.read.str,by rw [←line_eq];exact hl,?_⟩;exact (show EndOk L K W f0 H0 f1 (.nx (en.set f (.va (.str (Txt.replace x c d++z))))) Dn from h6) _ f2 H2 q2.sf ((m1.mono q2).setV (.str _))
    ·rw [if_neg hl] at h6;exact h6.elim
  ·rw [if_neg hz] at h4;exact h4.elim
end
end AW
namespace AW
open PySem PySem.Spec PyProof.Rows L2
variable [CdT] [StA]
section
variable {X:Cx}
def PEk (X:Cx) (e:Expr) (t:TE):Prop:=∀(pins:List (Addr×Obj)) (s:Shared) (σ:L2.St) (H:Hp) (Q:VK),Inv X pins σ H s→t σ H Q →
 wpAny (model X.prog X.w) X.A (eval e X.env) (fun v s1=>1≤s1.toks∧EP X pins σ Q v s1) X.xe s
def PAk (X:Cx) (es:List Expr) (t:TA):Prop:=∀(pos:Pos) (pins:List (Addr×Obj)) (s:Shared) (σ:L2.St) (H:Hp) (Q:List V→Hp→Prop),Inv X pins σ H s→t σ H Q →
 wpAny (model X.prog X.w) X.A (spliced (backTo pos (starEach es X.env))) (fun us s1=>1≤s1.toks∧AP X pins σ Q us s1) X.xe s
def PSk (X:Cx) (st:Stmt) (t:TS):Prop:=∀(pins:List (Addr×Obj)) (s:Shared) (σ:L2.St) (H:Hp) (D:Ends),Inv X pins σ H s→t D σ H →
 wpAny (model X.prog X.w) X.A (exec st X.env) (fun f s1=>1≤s1.toks∧SP X pins D f s1) X.xe s
theorem pek_con {c:Str} {k:Nat} {p:Pos}:PEk X (.Constant (.str c) k p) (tC (.str c)):=by
 intro pins s σ H Q I h;refine Calls.Constant_str ⟨?_,.str c,H,I.tok _,⟨s.toks,rfl⟩,h⟩;show 1≤s.toks+1;omega
theorem pek_op {a b:Expr} {op:Operator} {r:R2} {ta tb:TE} {pos:Pos} (ho:OpR X (binaryOp op) r) (ha:PE X a ta) (hb:PEk X b tb):PEk X (.BinOp a op b pos) (tOp r ta tb):=by
 intro pins s σ H Q I h;refine wpAny_BinOp (thn (ha.run pins s σ H _ I h) fun v s1 ⟨x,H1,I1,r1,q1⟩=>thn (hb pins s1 σ H1 _ I1 q1) fun u s2 ⟨hk,y,H2,I2,r2,q2⟩=>?_);exact wpAny_mono (PySem.wpAny_toks (ho pins s2 σ H2 x y v u Q I2 r1 r2 q2)) (fun d s3 hd=>⟨Nat.le_trans hk hd.1,hd.2⟩) fun _ _ z=>z.2
theorem pak_cons {e:Expr} {es:List Expr} {te:TE} {ta:TA} (ha:PEk X e te) (hr:PA X es ta) (hs:starEach (e::es) X.env=(false,eval e X.env)::starEach es X.env:=by rfl):PAk X (e::es) (tCons te ta):=by
 intro pos pins s σ H Q I h;rw [hs];show wpAny _ _ (spliced ((false,eval e X.env)::backTo pos (starEach es X.env))) _ _ s;refine Calls.spliced_cons (thn (ha pins s σ H _ I h) fun v s1 ⟨hk,x,H1,I1,r1,q1⟩=>?_);exact wpAny_mono (PySem.wpAny_toks (hr.run pos pins s1 σ H1 _ I1 q1)) (fun us s2 ⟨hk2,xs,H2,I2,r2,q2⟩=>⟨Nat.le_trans hk hk2,x::xs,H2,I2,.cons r1 r2,q2⟩) fun _ _ z=>z.2
theorem pek_lst {es:List Expr} {ta:TA} {pos:Pos} (h:PAk X es ta):PEk X (.List es pos) (tLst ta):=by
 intro pins s σ H Q I hq;refine wpAny_List_spliced (thn (h pos pins s σ H _ I hq) fun us s1 ⟨hk,xs,H1,I1,r,z,q⟩=>⟨by rw [←r.length];exact z,hk,?_⟩);have hf:H1 s1.heap.objs.size=none:=I1.hok.fresh (Nat.le_refl _);refine ⟨.ref s1.heap.objs.size,upd H1 s1.heap.objs.size (.lst xs),I1.laid (t':=s1.toks) (fun b u e=>Heap.get?_push_of_some _ e) (Nat.le_refl _) ?_,rfl,q _ hf⟩;exact ⟨z,us,0,r,Heap.get?_push_size _ rfl⟩
theorem psk_set {i:Nat} {x:Str} {e:Expr} {te:TE} {pos pos':Pos} (hN:X.N.Nodup) (hi:X.N[i]?=some x) (hx:Loc X.env.scope x) (hf:X.fn x=true∨X.env.scope.names.lookup x=some .local) (he:PEk X e te) (hs:swapsWith e (some (.Name x pos')) pos.line X.env=pure false) :
  PSk X (.Assign [.Name x pos'] e pos) (tAsg te (gName i)):=by
 intro pins s σ H D I h;refine wpAny_Assign_Name (thn (he pins s σ H _ I h) fun v s1 ⟨hk,y,H1,I1,r1,q1⟩=>?_) hs;exact wpAny_mono (PySem.wpAny_toks (store_ok (Q:=fun _ s2=>SP X pins D .next s2) I1 hN hi hx r1 (fun s2 I2=>⟨_,H1,I2,q1⟩) hf)) (fun _ s3 hd=>⟨Nat.le_trans hk hd.1,hd.2⟩) fun _ _ z=>z.2
theorem PAT.of {es:List Expr} {ta:TA} (h:PA X es ta):PAT X es ta:=fun pos pins s σ H Q _ I q=>h.run pos pins s σ H Q I q
theorem pet_op {a b:Expr} {op:Operator} {r:R2} {ta tb:TE} {pos:Pos} (ho:OpR X (binaryOp op) r) (ha:PE X a ta) (hb:PET X b tb):PET X (.BinOp a op b pos) (tOp r ta tb):=by
 intro pins s σ H Q h0 I h;refine wpAny_BinOp (wpAny_mono (PySem.wpAny_toks (ha.run pins s σ H _ I h)) (fun v s1 ⟨hk,x,H1,I1,r1,q1⟩=>thn (hb pins s1 σ H1 _ (Nat.le_trans h0 hk) I1 q1) fun u s2 ⟨y,H2,I2,r2,q2⟩=>ho pins s2 σ H2 x y v u Q I2 r1 r2 q2) fun _ _ z=>z.2)
theorem pst_set {i:Nat} {x:Str} {e:Expr} {te:TE} {pos pos':Pos} (hN:X.N.Nodup) (hi:X.N[i]?=some x) (hx:Loc X.env.scope x) (hf:X.fn x=true∨X.env.scope.names.lookup x=some .local) (he:PET X e te) (hs:swapsWith e (some (.Name x pos')) pos.line X.env=pure false) :
  PST X (.Assign [.Name x pos'] e pos) (tAsg te (gName i)):=by
 intro pins s σ H D h0 I h;refine wpAny_Assign_Name (thn (he pins s σ H _ h0 I h) fun v s1 ⟨y,H1,I1,r1,q1⟩=>?_) hs;exact store_ok I1 hN hi hx r1 (fun s2 I2=>⟨_,H1,I2,q1⟩) hf
theorem pss_tok {st:Stmt} {rest:List Stmt} {t u:TS} (h1:PSk X st t) (h2:PSsT X rest u):PSs X (st::rest) (tSeq t u):=by
 refine ⟨fun pins s σ H D I h=>?_⟩;refine wpAny_execs_cons (thn (h1 pins s σ H { D with nx:=u D } I h) fun f s1 ⟨hk,q⟩=>?_);cases f with
 | next =>
  obtain ⟨σ',H',I',q⟩:=q;exact h2 pins s1 σ' H' D hk I' q
 | ret v=>exact q
 | brk=>exact q
 | cont=>exact q
end
section
variable {L:Lk} {N:List Str} {sc:Nms} {W:WX} {X:Cx} {K:PySem.W.Frag}
theorem imp_rplE {i:Nat} {c d:Str} {σ H Q} (h:dV L K W (.rplE i c d) σ H Q):tRpl i c d σ H Q:=by
 obtain ⟨f0,H0,f,en,m,ot⟩:=h;have o0:Out L.cls W σ f H (((val en i).bind strR).bind fun x=>if (c==d)=false∧x.length+(x.length+1)*d.length≤line then v1 (.str (Txt.replace x c d)) else .no) (Ac K f H Q):=ot;have nx:∀k,((val en i).bind strR) ≠ .ex k:=fun k=>by
  cases e:val en i with
  | ok dd=>exact strR_noex dd k
  | ex k'=>exact absurd e (val_noex en i k')
  | no=>intro z;cases z
 obtain ⟨x,ex,o1⟩:=o0.bind.okk nx;obtain ⟨dx,e1,e2⟩:=R.of_bind ex;have ed:=strR_at e2;subst ed;have ei:en[i]?=some (.va (.str x)):=by
  unfold val at e1;split at e1
  ·rename_i z;cases e1;exact z
  ·cases e1
 obtain ⟨v,ev,hv⟩:=m.va ei;cases hv;by_cases hz:(c==d)=false∧x.length+(x.length+1)*d.length≤line
 ·rw [if_pos hz] at o1;exact ⟨x,ev,hz.1,hz.2,(show Ac K f H Q (.str (Txt.replace x c d),false) from o1).here m.po.sub (.str _)⟩
 ·rw [if_neg hz] at o1;exact o1.elim
theorem dss_cons {s:S} {r:Ss} {Dn σ H} (h:dSs L K W (.cons s r) Dn σ H):tSeq (dS L K W s) (dSs L K W r) Dn σ H:=by
 obtain ⟨f0,H0,f,en,m,o⟩:=h;refine ⟨f0,H0,f,en,m,?_⟩;obtain ⟨fl,ef,o2⟩:=OutS.bind (show OutS L K W f0 H0 f ((L.es s en).bind fun fl=>(match fl with | .nx e=>L.ess r e | fl => .ok fl)) Dn from o);show OutS L K W f0 H0 f (L.es s en) _;rw [ef];cases fl with
 | nx e=>exact fun σ' f' H' s' m'=>⟨f0,H0,f',e,m',OutS.mono s' o2⟩
 | bk e=>exact o2
 | ct e=>exact o2
 | rt d fr=>exact o2
 | rtT d fr=>exact o2
 | rtS d fr=>exact o2
 | ex c e=>exact o2
theorem PEk.imp {e:Expr} {t t':TE} (h:PEk X e t) (hi:∀σ H Q,t' σ H Q→t σ H Q):PEk X e t':=fun pins s σ H Q I q=>h pins s σ H Q I (hi σ H Q q)
theorem PAk.imp {e:List Expr} {t t':TA} (h:PAk X e t) (hi:∀σ H Q,t' σ H Q→t σ H Q):PAk X e t':=fun pos pins s σ H Q I q=>h pos pins s σ H Q I (hi σ H Q q)
theorem PSk.imp {e:Stmt} {t t':TS} (h:PSk X e t) (hi:∀D σ H,t' D σ H→t D σ H):PSk X e t':=fun pins s σ H D I q=>h pins s σ H D I (hi D σ H q)
theorem PET.imp {e:Expr} {t t':TE} (h:PET X e t) (hi:∀σ H Q,t' σ H Q→t σ H Q):PET X e t':=fun pins s σ H Q h0 I q=>h pins s σ H Q h0 I (hi σ H Q q)
theorem PAT.imp {e:List Expr} {t t':TA} (h:PAT X e t) (hi:∀σ H Q,t' σ H Q→t σ H Q):PAT X e t':=fun pos pins s σ H Q h0 I q=>h pos pins s σ H Q h0 I (hi σ H Q q)
theorem PST.imp {e:Stmt} {t t':TS} (h:PST X e t) (hi:∀D σ H,t' D σ H→t D σ H):PST X e t':=fun pins s σ H D h0 I q=>h pins s σ H D h0 I (hi D σ H q)
theorem PSsT.imp {e:List Stmt} {t t':TS} (h:PSsT X e t) (hi:∀D σ H,t' D σ H→t D σ H):PSsT X e t':=fun pins s σ H D h0 I q=>h pins s σ H D h0 I (hi D σ H q)
theorem tokOk_inv {T:List Fn} {cs:List (Str×D)} {cl N:List Str} {s0:S} {st:Stmt} (h:tokOk T cs cl N sc s0 st=true):∃i i' w k es x px a b k' kk kp bp es' lp ap pos,s0 = .asgO i (.op2 .add (.peek i') (.lst (.cons (.op2 .add (.var w) (.con (.str k))) es)))∧st = .Assign [.Name x px] (.BinOp a .Add (.List (.BinOp b .Add (.Constant (.str k') kk kp) bp::es') lp) ap) pos ∧
  (locOk N sc i x&&ckE T cs cl N sc (.peek i') a&&ckE T cs cl N sc (.var w) b&&k'==k&&ckEs T cs cl N sc es es')=true:=by
 unfold tokOk at h;split at h
 ·exact ⟨_,_,_,_,_,_,_,_,_,_,_,_,_,_,_,_,_,rfl,rfl,h⟩
 ·cases h
theorem rplOk_inv {T:List Fn} {cs:List (Str×D)} {cl N:List Str} {s0:S} {st:Stmt} (h:rplOk T cs cl N sc s0 st=true):∃i i' v c d v2 c2 d2 es x px a z pz m1 mp1 c' kc pc d' kd pd cp1 z2 pz2 m2 mp2 c2' kc2 pc2 d2' kd2 pd2 cp2 es' lp ap pos,s0 = .asgO i (.op2 .add (.peek i') (.lst (.cons (.rplE v c d) (.cons (.rplE v2 c2 d2) es)))) ∧
  st = .Assign [.Name x px] (.BinOp a .Add (.List (.Call (.Attribute (.Name z pz) m1 mp1) [.Constant (.str c') kc pc,.Constant (.str d') kd pd] [] cp1 :: .Call (.Attribute (.Name z2 pz2) m2 mp2) [.Constant (.str c2') kc2 pc2,.Constant (.str d2') kd2 pd2] [] cp2::es') lp) ap) pos ∧
  (locOk N sc i x&&ckE T cs cl N sc (.peek i') a&&nmOk N sc v z&&m1 == "replace" && c'==c&&d'==d&&mp1.endLine==cp1.line&&nmOk N sc v2 z2&&m2 == "replace" && c2'==c2&&d2'==d2&&mp2.endLine==cp2.line&&ckEs T cs cl N sc es es')=true:=by
 unfold rplOk at h;split at h
 ·exact ⟨_,_,_,_,_,_,_,_,_,_,_,_,_,_,_,_,_,_,_,_,_,_,_,_,_,_,_,_,_,_,_,_,_,_,_,_,_,_,rfl,rfl,h⟩
 ·cases h
theorem tok_ps (xs:XS L N sc W X) {s0:S} {st:Stmt} (h:tokOk L.T L.cons L.clsN N sc s0 st=true):PSk X st (dS L X.K W s0):=by
 obtain ⟨i,i',w,k,es,x,px,a,b,k',kk,kp,bp,es',lp,ap,pos,rfl,rfl,h⟩:=tokOk_inv h;obtain ⟨h,h5⟩:=and2 h;obtain ⟨h,h4⟩:=and2 h;obtain ⟨h,h3⟩:=and2 h;obtain ⟨h1,h2⟩:=and2 h;obtain ⟨b1,b2,b3⟩:=loc_of xs.xc h1;have ek:=eq_of_beq h4;subst ek;have first:PEk X (.BinOp b .Add (.Constant (.str k') kk kp) bp) (dV L X.K W (.op2 .add (.var w) (.con (.str k')))) :=
  PEk.imp (pek_op (op_bin (o := .add) (op := .Add) xs.xc.py rfl) (sR_of xs.xc h3 (sE (.var w) xs.xc _ h3)) (PEk.imp pek_con fun σ H Q q=>tC_of q)) fun σ H Q q=>imp_op2 q
 have lst:PEk X (.List (.BinOp b .Add (.Constant (.str k') kk kp) bp::es') lp) (dR L X.K W (.lst (.cons (.op2 .add (.var w) (.con (.str k'))) es))) :=
  PEk.imp (pek_lst (PAk.imp (pak_cons first (sEs es xs.xc _ h5)) fun σ H Q q=>evs_cons q)) fun σ H Q q=>imp_lst (dR_dV (fun _ z=>by cases z) q)
 exact PSk.imp (psk_set xs.xc.nd b1 b2 b3 (PEk.imp (pek_op (op_bin (o := .add) (op := .Add) xs.xc.py rfl) (sR_of xs.xc h2 (sE (.peek i') xs.xc _ h2)) lst) fun σ H Q q=>imp_op2 q) rfl) fun D σ H q=>imp_asgO q
theorem rpl_ps (xs:XS L N sc W X) {s0:S} {st:Stmt} (h:rplOk L.T L.cons L.clsN N sc s0 st=true):PST X st (dS L X.K W s0):=by
 obtain ⟨i,i',v,c,d,v2,c2,d2,es,x,px,a,z,pz,m1,mp1,c',kc,pc,d',kd,pd,cp1,z2,pz2,m2,mp2,c2',kc2,pc2,d2',kd2,pd2,cp2,es',lp,ap,pos,rfl,rfl,h⟩:=rplOk_inv h;obtain ⟨h,h13⟩:=and2 h;obtain ⟨h,h12⟩:=and2 h;obtain ⟨h,h11⟩:=and2 h;obtain ⟨h,h10⟩:=and2 h;obtain ⟨h,h9⟩:=and2 h;obtain ⟨h,h8⟩:=and2 h;obtain ⟨h,h7⟩:=and2 h;obtain ⟨h,h6⟩:=and2 h;obtain ⟨h,h5⟩:=and2 h;obtain ⟨h,h4⟩:=and2 h;obtain ⟨h,h3⟩:=and2 h;obtain ⟨h1,h2⟩:=and2 h;have em:=str_beq h4;subst em;have em2:=str_beq h9;subst em2;have e1:=eq_of_beq h5;subst e1;have e2:=eq_of_beq h6;subst e2;have e3:=eq_of_beq h10;subst e3;have e4:=eq_of_beq h11;subst e4;obtain ⟨b1,b2,b3⟩:=loc_of xs.xc h1;obtain ⟨v1,v2',v3,v4⟩:=vis_of xs.xc h3;obtain ⟨u1,u2,u3,u4⟩:=vis_of xs.xc h8;have r1:PET X (.Call (.Attribute (.Name z pz) "replace" mp1) [.Constant (.str c') kc pc,.Constant (.str d') kd pd] [] cp1) (dV L X.K W (.rplE v c' d')):=PET.imp (pet_rpl v1 v2' v3 v4 h7) fun σ H Q q=>imp_rplE q;have r2:PET X (.Call (.Attribute (.Name z2 pz2) "replace" mp2) [.Constant (.str c2') kc2 pc2,.Constant (.str d2') kd2 pd2] [] cp2) (dV L X.K W (.rplE v2 c2' d2')):=PET.imp (pet_rpl u1 u2 u3 u4 h12) fun σ H Q q=>imp_rplE q;have lst:PET X (.List (.Call (.Attribute (.Name z pz) "replace" mp1) [.Constant (.str c') kc pc,.Constant (.str d') kd pd] [] cp1 :: .Call (.Attribute (.Name z2 pz2) "replace" mp2) [.Constant (.str c2') kc2 pc2,.Constant (.str d2') kd2 pd2] [] cp2::es') lp) (dR L X.K W (.lst (.cons (.rplE v c' d') (.cons (.rplE v2 c2' d2') es)))) :=
  PET.imp (pet_lst (PAT.imp (pat_cons r1 (PAT.imp (pat_cons r2 (PAT.of (sEs es xs.xc _ h13))) fun σ H Q q=>evs_cons q)) fun σ H Q q=>evs_cons q)) fun σ H Q q=>imp_lst (dR_dV (fun _ z=>by cases z) q)
 exact PST.imp (pst_set xs.xc.nd b1 b2 b3 (PET.imp (pet_op (op_bin (o := .add) (op := .Add) xs.xc.py rfl) (sR_of xs.xc h2 (sE (.peek i') xs.xc _ h2)) lst) fun σ H Q q=>imp_op2 q) rfl) fun D σ H q=>imp_asgO q
theorem tok_ok (xs:XS L N sc W X) {s0 s1:S} {r:Ss} {sts:List Stmt} (h:ckSs L.T L.cons L.clsN N sc (.tok s0 s1 r) sts=true) (ih:∀rest,ckSs L.T L.cons L.clsN N sc r rest=true→PSs X rest (dSs L X.K W r)):PSs X sts (dSs L X.K W (.tok s0 s1 r)):=by
 unfold ckSs at h;split at h
 ·obtain ⟨h,h3⟩:=and2 h;obtain ⟨h1,h2⟩:=and2 h;exact PSs.imp (pss_tok (tok_ps xs h1) (PSsT.imp (psst_cons (rpl_ps xs h2) (PSsT.of (ih _ h3))) fun D σ H q=>dss_cons q)) fun D σ H q=>dss_cons (show dSs L X.K W (.cons s0 (.cons s1 r)) D σ H from q)
 ·cases h
end
end AW
namespace AW
open PySem PySem.Spec PyProof.Rows L2
variable [CdT] [StA]
section
variable {L:Lk} {N:List Str} {sc:Nms} {W:WX} {X:Cx} {K:PySem.W.Frag} {f0 H0 f H f1 H1:Hp} {σ:L2.St} {en:En} {Dn:Ends} {α:Type}
theorem OutS.lx {r:XR α} {g:α→En→R Fl} (h:OutS L K W f0 H0 f (lx r g) Dn):OutX L.cls W σ K f0 H0 f r fun a en1=>OutS L K W f0 H0 f (g a en1) Dn:=by
 cases r with
 | ok a e=>exact h
 | ex k e=>exact fun f' H' m s=>(show EndOk L K W f0 H0 f (.ex k e) Dn from h) σ f' H' s m
 | no=>exact h
theorem imp_xasg {tg:Tg} {x:XE} {Dn σ H} (h:dS L K W (.xasg tg x) Dn σ H):tAsg (dX L K W x) (gD K tg) Dn σ H:=by
 obtain ⟨f0,H0,f,en,m,o⟩:=h;have o1:=OutS.lx (σ:=σ) (show OutS L K W f0 H0 f (lx (evX L.G L.c (dflT L.T) x en) fun d en1=>(bindT tg d en1).bind fun en' => .ok (.nx en')) Dn from o);refine ⟨f0,H0,f,en,m,o1.imp (Same.refl f) fun d en1 _ h1 v f1 H1 m1 k1 hv=>?_⟩;obtain ⟨en',eb,h2⟩:=h1.bind;exact ⟨f0,H0,f1,en1,d,en',m1,hv,eb,fun σ' m' _=>h2 σ' f1 H1 k1.sf m'⟩
theorem imp_xret {x:XE} {Dn σ H} (h:dS L K W (.xret x) Dn σ H):tRet (dX L K W x) Dn σ H:=by
 obtain ⟨f0,H0,f,en,m,o⟩:=h;have o1:=OutS.lx (σ:=σ) (show OutS L K W f0 H0 f (lx (evX L.G L.c (dflT L.T) x en) fun d en1=>(match en1[(0:Nat)]? with
  | some (.st ds) => .ok (.rtS d ds)
  | _ => .no)) Dn from o)
 refine ⟨f0,H0,f,en,m,o1.imp (Same.refl f) fun d en1 _ h1 v f1 H1 m1 k1 hv=>?_⟩;cases e:en1[(0:Nat)]? with
 | none=>rw [e] at h1;exact h1.elim
 | some s =>
  rw [e] at h1;cases s with
  | st ds =>
   obtain ⟨p,us,e1,hs,h0,hf,hH,hu⟩:=m1.st e;exact (show EndOk L K W f0 H0 f (.rtS d ds) Dn from h1) v f1 H1 p us hs m1.po hf hH hu hv
  | _=>exact h1.elim
theorem imp_xite {x:XE} {a b:Ss} {Dn σ H} (h:dS L K W (.xite x a b) Dn σ H):tIfS (dXT L K W x) (dSs L K W a) (dSs L K W b) Dn σ H:=by
 obtain ⟨f0,H0,f,en,m,o⟩:=h;have e:lx (evX L.G L.c (dflT L.T) x en) (fun d en1=>lf en1 (truR d) fun k=>if k then L.ess a en1 else L.ess b en1)=lx (xT L x en) fun k en1=>if k then L.ess a en1 else L.ess b en1:=by
  unfold xT;cases evX L.G L.c (dflT L.T) x en with
  | ex c e=>rfl
  | no=>rfl
  | ok d en1 =>
   show lf en1 (truR d) _=lx (XR.of en1 (truR d)) _;cases truR d <;> rfl
 have o0:OutS L K W f0 H0 f (lx (evX L.G L.c (dflT L.T) x en) (fun d en1=>lf en1 (truR d) fun k=>if k then L.ess a en1 else L.ess b en1)) Dn:=o;rw [e] at o0;have o1:=OutS.lx (σ:=σ) o0;refine ⟨f0,H0,f,en,m,o1.imp (Same.refl f) fun k en1 _ h1 f1 H1 m1 k1=>?_⟩;cases k with
 | true=>exact ⟨f0,H0,f1,en1,m1,OutS.mono k1.sf h1⟩
 | false=>exact ⟨f0,H0,f1,en1,m1,OutS.mono k1.sf h1⟩
theorem imp_xapp {i:Nat} {x:XE} {Dn σ H} (h:dS L K W (.xapp i x) Dn σ H):tDrop (tBM K "list" rAppend (tVar i) (tCons (dX L K W x) tNil)) Dn σ H:=by
 obtain ⟨f0,H0,f,en,m,o⟩:=h;have o':OutS L K W f0 H0 f (match en[i]? with
  | some (.ow _)=>lx (evX L.G L.c (dflT L.T) x en) fun d en1=>(match en1[i]? with
   | some (.ow ds)=>if ds.length<line then .ok (.nx (en1.set i (.ow (ds++[d])))) else .no
   | _ => .no)
  | _ => .no) Dn:=o
 cases ei:en[i]? with
 | none=>rw [ei] at o';exact o'.elim
 | some s =>
  rw [ei] at o';cases s with
  | ow ds0 =>
   obtain ⟨a,vs,e1,_,_,hH,ha⟩:=m.ow ei;have o1:=OutS.lx (σ:=σ) o';refine ⟨_,e1,app_core hH,f0,H0,f,en,m,o1.imp (Same.refl f) fun d en1 _ h1 v f1 H1 m1 k1 hv=>?_⟩;cases e2:en1[i]? with
   | none=>rw [e2] at h1;exact h1.elim
   | some s2 =>
    rw [e2] at h1;cases s2 with
    | ow ds =>
     have h1:OutS L K W f0 H0 f (if ds.length<line then .ok (.nx (en1.set i (.ow (ds++[d])))) else .no) Dn:=h1;by_cases hz:ds.length<line
     ·rw [if_pos hz] at h1;obtain ⟨a',vs',e1',_,_,hH',ha'⟩:=m1.ow e2;rw [e1] at e1';cases e1';exact ⟨a,vs',v,rfl,rfl,hH',by rw [ha'.length,←line_eq];exact hz,h1 σ f1 _ k1.sf (m1.upO e2 e1 (ha'.append (.cons hv .nil)))⟩
     ·rw [if_neg hz] at h1;exact h1.elim
    | _=>exact h1.elim
  | _=>exact o'.elim
theorem imp_xfor {i0:Nat} {x:XE} {b:Ss} {Dn σ H} (h:dS L K W (.xfor i0 x b) Dn σ H):tFor (dXI L K W x) (gD K (.nm i0)) (dSs L K W b) Dn σ H:=by
 obtain ⟨f0,H0,f,en,m,o⟩:=h;have e:lx (evX L.G L.c (dflT L.T) x en) (fun d en1=>lf en1 ((intR d).bind fun j=>rngR 0 j) fun ds=>forR (bindT (.nm i0)) (L.ess b) ds en1) =
   lx ((evX L.G L.c (dflT L.T) x en).bind fun x en1=>XR.of en1 ((intR x).bind fun j=>rngR 0 j)) fun ds en1=>forR (bindT (.nm i0)) (L.ess b) ds en1:=by
  cases evX L.G L.c (dflT L.T) x en with
  | ex c e=>rfl
  | no=>rfl
  | ok d en1 =>
   show lf en1 ((intR d).bind fun j=>rngR 0 j) _=lx (XR.of en1 ((intR d).bind fun j=>rngR 0 j)) _;cases ((intR d).bind fun j=>rngR 0 j) <;> rfl
 have o0:OutS L K W f0 H0 f (lx (evX L.G L.c (dflT L.T) x en) (fun d en1=>lf en1 ((intR d).bind fun j=>rngR 0 j) fun ds=>forR (bindT (.nm i0)) (L.ess b) ds en1)) Dn:=o;rw [e] at o0;have o1:=OutS.lx (σ:=σ) o0;refine ⟨f0,H0,f,en,m,o1.imp (Same.refl f) fun ds en1 _ h1 J f1 H1 m1 k1 wk=>?_⟩;have h2:=OutS.mono k1.sf h1;generalize hr:forR (bindT (.nm i0)) (L.ess b) ds en1=r at h2;refine ⟨fun i mm σ' H'=>mm=ds.length-i∧i≤ds.length∧∃fi ei,Same f1 fi∧Mt K f0 H0 fi H' σ' ei∧forR (bindT (.nm i0)) (L.ess b) (ds.drop i) ei=r,⟨_,rfl,Nat.zero_le _,f1,en1,Same.refl f1,m1,hr⟩,?_⟩;rintro i mm σ' H' ⟨rfl,hi,fi,ei,sf,mi,hf⟩;have sm1:Same f1 H':=sf.trans mi.po.sub;by_cases hlt:i<ds.length
 ·refine .inr ⟨wk.go i H' sm1 hlt,fun σ2 H2=>∃f2 e2,Same f1 f2∧Mt K f0 H0 f2 H2 σ2 e2∧forR (bindT (.nm i0)) (L.ess b) (ds.drop (i+1)) e2=r,fun σ2 H2 hn=>⟨_,by omega,rfl,hlt,hn⟩,fun x H2 hy=>?_⟩;obtain ⟨d,hd,hw⟩:=wk.yld i H' x H2 hlt sm1 hy;obtain ⟨f2,q3,hx⟩:=hw fi sf mi.po.sub;have hdrop:ds.drop i=d::ds.drop (i+1):=by
   rw [List.drop_eq_getElem_cons hlt];have:ds[i]=d:=by
    rw [List.getElem?_eq_getElem hlt] at hd;exact Option.some.inj hd
   rw [this]
  rw [hdrop] at hf;have hf':(bindT (.nm i0) d ei).bind (fun e1=>(L.ess b e1).bind (nextFl (forR (bindT (.nm i0)) (L.ess b) (ds.drop (i+1)))))=r:=hf;have rno:∀{α:Type} {x:R α} {g:α→R Fl},x.bind g=r→∃a,x = .ok a∧g a=r:=fun {α x g} z=>by
   cases x with
   | ok a=>exact ⟨a,rfl,z⟩
   | ex c=>rw [←z] at h2;exact h2.elim
   | no=>rw [←z] at h2;exact h2.elim
  obtain ⟨e1,eb,hf2⟩:=rno hf';obtain ⟨fl,ef,hf3⟩:=rno hf2;refine ⟨f0,H0,f2,ei,d,e1,mi.mono q3,hx,eb,fun σ2 m2 _=>⟨f0,H0,f2,e1,m2,?_⟩⟩;rw [ef];have sf2:Same f1 f2:=sf.trans q3.sf;cases fl with
  | nx e=>exact fun σ3 f3 H3 s3 m3=>⟨f3,e,sf2.trans s3,m3,hf3⟩
  | ct e=>exact fun σ3 f3 H3 s3 m3=>⟨f3,e,sf2.trans s3,m3,hf3⟩
  | bk e =>
   rw [←hf3] at h2;exact fun σ3 f3 H3 s3 m3=>(show EndOk L K W f0 H0 f1 (.nx e) Dn from h2) σ3 f3 H3 (sf2.trans s3) m3
  | rt d fr =>
   rw [←hf3] at h2;exact h2
  | rtT d fr =>
   rw [←hf3] at h2;exact h2
  | rtS d fr =>
   rw [←hf3] at h2;exact h2
  | ex c e =>
   rw [←hf3] at h2;exact fun σ3 f3 H3 s3 m3=>(show EndOk L K W f0 H0 f1 (.ex c e) Dn from h2) σ3 f3 H3 (sf2.trans s3) m3
 ·have e:i=ds.length:=by omega
  subst e;refine .inl ⟨wk.stop H' sm1,?_⟩;rw [List.drop_length] at hf;have hf':R.ok (Fl.nx ei)=r:=hf;rw [←hf'] at h2;exact (show EndOk L K W f0 H0 f1 (.nx ei) Dn from h2) σ' fi H' sf mi
theorem imp_parM {i j k:Nat} {a b e:E} {Dn σ H} (h:dS L K W (.parM i j k a b e) Dn σ H):tPar3 i j k (tCons (dV L K W a) (tCons (dV L K W b) (tCons (dV L K W e) tNil))) Dn σ H:=by
 obtain ⟨f0,H0,f,en,m,o⟩:=h;have o1:=OutS.lf m (show OutS L K W f0 H0 f (lf en ((L.ev a en).bind fun x=>(L.ev b en).bind fun y=>(L.ev e en).bind fun z=>R.ok (x,y,z)) fun r=>(match r with
  | ((.list xs,true),(.list ys,true),(.list zs,true)) => .ok (.nx (((en.set i (.ow xs)).set j (.ow ys)).set k (.ow zs)))
  | _ => .no)) Dn from o)
 have o2:=Out.bind o1;refine ⟨f0,H0,f,en,m,o2.imp (Po.refl m.po.sub) fun x _ h1 v f1 H1 q1 hv=>?_⟩;have ma:=m.mono q1;refine ⟨f0,H0,f1,en,ma,h1.bind.imp q1 fun y _ h2 u f2 H2 q2 hu=>?_⟩;refine ⟨f0,H0,f2,en,ma.mono q2,h2.bind.imp (q1.trans q2) fun z _ h3 w f3 H3 q3 hw=>?_⟩;obtain ⟨x,bx⟩:=x;obtain ⟨y,bY⟩:=y;obtain ⟨z,bz⟩:=z;cases bx with
 | false=>cases x <;> exact h3.elim
 | true =>
  cases bY with
  | false=>cases x <;> cases y <;> exact h3.elim
  | true =>
   cases bz with
   | false=>cases x <;> cases y <;> cases z <;> exact h3.elim
   | true =>
    obtain ⟨xs,p1,vs,rfl,rfl,a1,a2,a3,a4⟩:=hv;obtain ⟨ys,p2,us,rfl,rfl,b1,b2,b3,b4⟩:=hu;obtain ⟨zs,p3,ws,rfl,rfl,c1,c2,c3,c4⟩:=hw;have m1:=m.setO (i:=i) q1 a1 a2 a3 a4;have m2:=m1.setO (i:=j) q2 b1 b2 b3 b4;have m3:=m2.setO (i:=k) q3 c1 c2 c3 c4;exact ⟨_,_,_,rfl,(show EndOk L K W f0 H0 f (.nx (((en.set i (.ow xs)).set j (.ow ys)).set k (.ow zs))) Dn from h3) _ f3 H3 ((q1.trans q2).trans q3).sf m3⟩
theorem imp_xpar {i j:Nat} {a b:XE} {Dn σ H} (h:dS L K W (.xpar i j a b) Dn σ H):tPar i j (tCons (dX L K W a) (tCons (dX L K W b) tNil)) Dn σ H:=by
 obtain ⟨f0,H0,f,en,m,o⟩:=h;have o1:=OutX.bind (OutS.lx (σ:=σ) (show OutS L K W f0 H0 f (lx ((evX L.G L.c (dflT L.T) a en).bind fun x en1=>(evX L.G L.c (dflT L.T) b en1).bind fun y en2=>XR.ok (x,y) en2) fun p en1 => .ok (.nx ((en1.set i (.va p.1)).set j (.va p.2)))) Dn from o));refine ⟨f0,H0,f,en,m,o1.imp (Same.refl f) fun x en1 _ h1 v f1 H1 m1 k1 hv=>?_⟩;refine ⟨f0,H0,f1,en1,m1,(OutX.bind h1).imp k1.sf fun y en2 _ h2 u f2 H2 m2 k2 hu=>?_⟩;exact ⟨_,_,rfl,(show EndOk L K W f0 H0 f (.nx ((en2.set i (.va x)).set j (.va y))) Dn from h2) _ f2 H2 (k1.sf.trans k2.sf) ((m2.setV (dp_same k2.sf hv)).setV hu)⟩
theorem pget_list:PGet X (rIxL X.K):=by
 intro pins s σ H x y v u Q I rx ry h;obtain ⟨p,xs,i,z,rfl,rfl,hq,he,q⟩:=h;cases rx;obtain ⟨t,rfl⟩:=ry;obtain ⟨its,r,pl,hz⟩:=I.list hq;obtain ⟨j,h1,h2,h3,h4,h5⟩:=atI_get he;obtain ⟨w,ew,rw'⟩:=r.get h2;have hl:=r.length;have hn:=line63;have fin:EP X pins σ Q w s:=⟨z,H,I,rw',q⟩;by_cases h0:0≤i
 ·have hj:i.toNat=j:=by
   rw [seqIndex_of h0 h5] at h1;exact Option.some.inj h1
  exact wpAny_getItem_list pl.isList h0 (by omega) (by rw [hj];simpa using ew) fin
 ·have hj:(i+(its.toArray.size:Int)).toNat=j:=by
   rw [seqIndex_neg (by omega) h4] at h1;rw [List.size_toArray,←hl];exact Option.some.inj h1
  exact wpAny_getItem_list_neg pl.isList (by omega) (by rw [List.size_toArray] <;> omega) (by omega) (by rw [hj];simpa using ew) fin
end
end AW
namespace AW
open PySem PySem.Spec PyProof.Rows L2
variable [CdT] [StA]
section
variable {L:Lk}
theorem set_self {σ:L2.St} {i:Nat} {o:Option V} (h:σ[i]?=some o):σ.set i o=σ:=by
 refine List.ext_getElem? fun j=>?_;by_cases hj:i=j
 ·subst hj;obtain ⟨hl,_⟩:=List.getElem?_eq_some_iff.mp h;rw [List.getElem?_set_self hl,h]
 ·rw [List.getElem?_set_ne hj]
def ipV (K:PySem.W.Frag) (o:O2):R2:=fun x y H Q=>∃f dx dy p,Same f H∧Vr K f H x dx∧Vr K f H y dy∧((∃i,dx = .int i)∨∃z,dx = .str z)∧sem2 o dx dy = .ok p∧Ac K f H Q p
def isAdd:O2→Prop
 | .add=>True
 | _=>False
def ipA (K:PySem.W.Frag) (o:O2):R2:=fun x y H Q=>ipV K o x y H Q∨(isAdd o∧rExt2 x y H Q)
theorem ip_A {X:Cx} {o:O2} {op:Operator} (hp:PyR X) (h:augOf o op=true):PIp X op (ipA X.K o):=by
 intro pins s σ H x y v u Q I rx ry q;rcases q with q | ⟨ha,q⟩
 ·exact opI_aug hp h pins s σ H x y v u Q I rx ry q
 ·cases o <;> cases op <;> first
   | (cases h;done)
   | exact ha.elim
   | exact iop_ext pins s σ H x y v u Q I rx ry q
theorem sem2_flag {o:O2} {d:D} (hd:(∃i,d = .int i)∨∃z,d = .str z) {op:Operator} (h:augOf o op=true) {b:D} {p:D×Bool} (e:sem2 o d b = .ok p):p.2=false:=by
 have ite_f:∀{c:Prop} [Decidable c] {x:D},(if c then v1 x else .no)=R.ok p→p.2=false:=fun {c} _ {x} z=>by
  by_cases hc:c
  ·rw [if_pos hc] at z;cases z;rfl
  ·rw [if_neg hc] at z;cases z
 have ite_g:∀{c c':Prop} [Decidable c] [Decidable c'] {x:D},(if c then R.no else if c' then v1 x else .no)=R.ok p→p.2=false:=fun {c c'} _ _ {x} z=>by
  by_cases hc:c
  ·rw [if_pos hc] at z;cases z
  ·rw [if_neg hc] at z;exact ite_f z
 have ite_h:∀{c:Prop} [Decidable c] {x:D},(if c then R.no else v1 x)=R.ok p→p.2=false:=fun {c} _ {x} z=>by
  by_cases hc:c
  ·rw [if_pos hc] at z;cases z
  ·rw [if_neg hc] at z;cases z;rfl
 rcases hd with ⟨i,rfl⟩ | ⟨z,rfl⟩ <;> cases o <;> cases op <;> first
  | (cases h;done)
  | (cases b <;> first
    | (cases e;done)
    | (cases e;rfl)
    | exact ite_f e
    | exact ite_g e
    | exact ite_h e)
theorem imp_aug {K:PySem.W.Frag} {W:WX} {i:Nat} {o:O2} {op:Operator} (hop:augOf o op=true) {e:E} {Dn σ H} (h:dS L K W (.aug i o e) Dn σ H):tAug i (dV L K W e) (ipA K o) Dn σ H:=by
 obtain ⟨f0,H0,f,en,m,ot⟩:=h;have ot:OutS L K W f0 H0 f (match en[i]? with
  | some (.va (.int d))=>lf en (L.ev e en) fun x=>(sem2 o (.int d) x.1).bind fun z => .ok (.nx (en.set i (.va z.1)))
  | some (.va (.str d))=>lf en (L.ev e en) fun x=>(sem2 o (.str d) x.1).bind fun z => .ok (.nx (en.set i (.va z.1)))
  | some (.ow ds)=>lf en (L.ev e en) fun x=>(extL o ds x).bind fun ds' => .ok (.nx (en.set i (.ow ds')))
  | _ => .no) Dn:=ot
 have scalar:∀d:D,((∃j,d = .int j)∨∃z,d = .str z)→en[i]?=some (.va d)→OutS L K W f0 H0 f (lf en (L.ev e en) fun x=>(sem2 o d x.1).bind fun z => .ok (.nx (en.set i (.va z.1)))) Dn→tAug i (dV L K W e) (ipA K o) Dn σ H:=fun d hd ei od=>by
  obtain ⟨v,hv,hdv⟩:=m.va ei;refine ⟨v,hv,f0,H0,f,en,m,(OutS.lf m od).imp (Po.refl m.po.sub) fun p _ h1 u f1 H1 q1 hu => .inl ?_⟩;obtain ⟨z,ez,h2⟩:=OutS.bind h1;refine ⟨f1,d,p.1,z,q1.sub,.inl (dp_same q1.sf hdv),hu.read,hd,ez,fun w f2 H2 q2 hw=>?_⟩;rw [sem2_flag hd hop ez] at hw;exact h2 _ f2 H2 (q1.sf.trans q2.sf) (((m.mono q1).mono q2).setV hw)
 cases ei:en[i]? with
 | none=>rw [ei] at ot;exact ot.elim
 | some s =>
  rw [ei] at ot;cases s with
  | un=>exact ot.elim
  | rd d=>exact ot.elim
  | er d=>exact ot.elim
  | fn d=>exact ot.elim
  | fd d=>exact ot.elim
  | dj d=>exact ot.elim
  | st d=>exact ot.elim
  | dk d=>exact ot.elim
  | va d =>
   cases d with
   | int j=>exact scalar _ (.inl ⟨j,rfl⟩) ei ot
   | str j=>exact scalar _ (.inr ⟨j,rfl⟩) ei ot
   | _=>exact ot.elim
  | ow ds =>
   obtain ⟨a,vs,e1,_,_,hH,ha⟩:=m.ow ei;refine ⟨_,e1,f0,H0,f,en,m,(OutS.lf m ot).imp (Po.refl m.po.sub) fun p _ h1 u f1 H1 q1 hu => .inr ?_⟩;obtain ⟨ds',ed,h2⟩:=OutS.bind h1;obtain ⟨d,b⟩:=p;cases o <;> first
    | (cases ed;done)
    | skip
   cases b with
   | false=>cases d <;> cases ed
   | true =>
    obtain ⟨xs,c,ws,rfl,rfl,z1,z2,z3,z4⟩:=hu;have m1:=m.mono q1;obtain ⟨a',vs',e1',_,_,hH',ha'⟩:=m1.ow ei;rw [e1] at e1';cases e1';have ed':(if ds.length+xs.length≤line then R.ok (ds++xs) else .no) = .ok ds':=ed;by_cases hz:ds.length+xs.length≤line
    ·rw [if_pos hz] at ed';cases ed';refine ⟨trivial,a,c,vs',ws,rfl,rfl,hH',z3,by rw [ha'.length,z4.length,←line_eq];exact hz,?_⟩;show Dn.nx (σ.set i (some (.ref a))) _;rw [set_self e1];exact (show EndOk L K W f0 H0 f (.nx (en.set i (.ow (ds++xs)))) Dn from h2) σ f1 _ q1.sf (m1.upO ei e1 (ha'.append z4))
    ·rw [if_neg hz] at ed';cases ed'
theorem imp_augI {K:PySem.W.Frag} {W:WX} {i:Nat} {o:O2} {op:Operator} (hop:augOf o op=true) {k e:E} {Dn σ H} (h:dS L K W (.augI i o k e) Dn σ H):tAugS (tVar i) (dV L K W k) (dV L K W e) (rIxL K) (ipA K o) (rSetLN K) Dn σ H:=by
 obtain ⟨f0,H0,f,en,m,ot⟩:=h;have ot:OutS L K W f0 H0 f (match en[i]? with
  | some (.st ds)=>lf en (L.ev k en) fun kv=>(intR kv.1).bind fun j=>(match L2.atI ds j with
   | some (.int d)=>lf en (L.ev e en) fun x=>(sem2 o (.int d) x.1).bind fun z=>(setD ds j z.1).bind fun ds' => .ok (.nx (en.set i (.st ds')))
   | _ => .no)
  | _ => .no) Dn:=ot
 cases ei:en[i]? with
 | none=>rw [ei] at ot;exact ot.elim
 | some s =>
  rw [ei] at ot;cases s with
  | st ds =>
   obtain ⟨a,vs,e1,hs,_,_,hH,ha⟩:=m.st ei;refine ⟨_,e1,f0,H0,f,en,m,(OutS.lf m ot).imp (Po.refl m.po.sub) fun kv _ h2 kw f3 H3 q3 hkw=>?_⟩;obtain ⟨j,ej,h3⟩:=OutS.bind h2;have hr:=hkw.read;rw [intR_cases ej] at hr;have m3:=m.mono q3;obtain ⟨a',vs',e1',_,_,_,hH',ha'⟩:=m3.st ei;rw [e1] at e1';cases e1';cases eat:atI ds j with
   | none=>rw [eat] at h3;exact h3.elim
   | some d =>
    rw [eat] at h3;cases d with
    | int d =>
     have h3:OutS L K W f0 H0 f (lf en (L.ev e en) fun x=>(sem2 o (.int d) x.1).bind fun z=>(setD ds j z.1).bind fun ds' => .ok (.nx (en.set i (.st ds')))) Dn:=h3;obtain ⟨w,hw,hwd⟩:=atI_all ha' eat;refine ⟨a,vs',j,w,rfl,hr.int,.inl (.inl hH'),hw,f0,H0,f3,en,m3,(OutS.lf m3 (OutS.mono q3.sf h3)).imp (Po.refl m3.po.sub) fun x _ h4 u f4 H4 q4 hu => .inl ?_⟩;obtain ⟨z,ez,h5⟩:=OutS.bind h4;obtain ⟨ds',ed,h6⟩:=OutS.bind h5;refine ⟨f4,.int d,x.1,z,q4.sub,.inl (dp_same q4.sf hwd),hu.read,.inl ⟨d,rfl⟩,ez,fun v f5 H5 q5 hv=>?_⟩;rw [sem2_flag (.inl ⟨d,rfl⟩) hop ez] at hv;have m5:=(m3.mono q4).mono q5;obtain ⟨a5,vs5,e5,_,_,_,hH5,ha5⟩:=m5.st ei;rw [e1] at e5;cases e5;unfold setD at ed;cases ex:ixN ds.length j with
     | none=>rw [ex] at ed;cases ed
     | some n =>
      rw [ex] at ed;cases ed;exact .inl ⟨a,vs5,j,n,rfl,hr.int,hH5,by rw [ha5.length];exact ex,h6 σ f5 _ (q4.sf.trans q5.sf) (m5.upS ei e1 (ha5.set n hv))⟩
    | _=>exact h3.elim
  | _=>exact ot.elim
theorem par_ok {N:List Str} {sc:Nms} {W:WX} {X:Cx} (xc:XC L N sc W X):∀{is:List Nat} {ts:List Expr},parOk N sc is ts=true→ts.length=is.length∧∀(k i:Nat) (t:Expr),is[k]?=some i→ts[k]?=some t→∃x p,t = .Name x p∧X.N[i]?=some x∧X.env.scope.names.lookup x=some .local
 | [],[],_=>⟨rfl,fun k i t h=>by simp at h⟩
 | [],_::_,h=>by cases h
 | _::_,[],h=>by cases h
 | i::is,e::es,h=>by
  cases e with
  | Name x p =>
   obtain ⟨h1,h2⟩:=and2 (show (N[i]?==some x&&sc.lookup x==some .local&&parOk N sc is es)=true from h);obtain ⟨h3,h4⟩:=and2 h1;obtain ⟨i1,i2⟩:=par_ok xc h2;refine ⟨by rw [List.length_cons,List.length_cons,i1],fun k j t e1 e2=>?_⟩;cases k with
   | zero =>
    have e1:=Option.some.inj e1;have e2:=Option.some.inj e2;subst e1 e2;exact ⟨x,p,rfl,by rw [xc.N];exact eq_of_beq h3,xc.nm x _ (eq_of_beq h4)⟩
   | succ k=>exact i2 k j t e1 e2
  | _=>cases h
theorem len2 {α:Type} {l:List α} (h:l.length=2):∃a b,l=[a,b]:=by
 cases l with
 | nil=>cases h
 | cons a l=>cases l with
  | nil=>cases h
  | cons b l=>cases l with
   | nil=>exact ⟨a,b,rfl⟩
   | cons c l=>simp at h
theorem len3 {α:Type} {l:List α} (h:l.length=3):∃a b c,l=[a,b,c]:=by
 cases l with
 | nil=>cases h
 | cons a l =>
  obtain ⟨b,c,rfl⟩:=len2 (l:=l) (by simpa using h);exact ⟨a,b,c,rfl⟩
theorem nd_ne {N:List Str} (h:N.Nodup) {i j:Nat} {x y:Str} (hi:N[i]?=some x) (hj:N[j]?=some y) (hij:i≠j):x≠y:=fun e=>by
 subst e;obtain ⟨h1,e1⟩:=List.getElem?_eq_some_iff.mp hi;obtain ⟨h2,e2⟩:=List.getElem?_eq_some_iff.mp hj;have hp:=List.pairwise_iff_getElem.mp h;rcases Nat.lt_or_gt_of_ne hij with z | z
 ·exact hp i j h1 h2 z (e1.trans e2.symm)
 ·exact hp j i h2 h1 z (e2.trans e1.symm)
theorem par_of {N:List Str} {sc:Nms} {W:WX} {X:Cx} (xc:XC L N sc W X) {is:List Nat} {es:Es} {ts vs:List Expr} {k k2:Nat} {p p2 pos:Pos} (h1:parOk N sc is ts=true) (h2:ckEs L.T L.cons L.clsN N sc es vs=true) (hl:is.length=2∨is.length=3) (hn:is.Nodup) (hv:vs.length=is.length) (hs:sameLine ts=true)
  (hf:vs.all (foldedForSure 8)=false) (hc:vs.all (constantsAlone 8)=false):PS X (.Assign [.Tuple ts k p] (.Tuple vs k2 p2) pos) (dS L X.K W (.par is es)):=by
 obtain ⟨el,hp⟩:=par_ok xc h1;have st:=stars_none h2;rcases hl with hl | hl
 ·obtain ⟨i,j,rfl⟩:=len2 hl;obtain ⟨t,u,rfl⟩:=len2 (el.trans hl);obtain ⟨a,b,rfl⟩:=len2 (hv.trans hl);obtain ⟨x,px,rfl,nx,lx⟩:=hp 0 i t rfl rfl;obtain ⟨y,py,rfl,ny,ly⟩:=hp 1 j u rfl rfl;have hij:i≠j:=fun z=>by subst z;simp at hn
  have hxy:=nd_ne xc.nd nx ny hij;have hline:(py.line==px.line)=true:=by
   simpa [sameLine,Expr.pos] using hs
  exact PS.imp (ps_par xc.calm xc.nd nx ny hij lx ly (sEs es xc _ h2) (swap2 xc lx ly hxy hline st hf hc)) fun Dn σ H q=>imp_par2 q
 ·obtain ⟨i,j,l,rfl⟩:=len3 hl;obtain ⟨t,u,w,rfl⟩:=len3 (el.trans hl);obtain ⟨a,b,c,rfl⟩:=len3 (hv.trans hl);obtain ⟨x,px,rfl,nx,lx⟩:=hp 0 i t rfl rfl;obtain ⟨y,py,rfl,ny,ly⟩:=hp 1 j u rfl rfl;obtain ⟨z,pz,rfl,nz,lz⟩:=hp 2 l w rfl rfl;have hij:i≠j:=fun z=>by subst z;simp at hn
  have hil:i≠l:=fun z=>by subst z;simp at hn
  have hjl:j≠l:=fun z=>by subst z;simp at hn
  have hline:(py.line==px.line)=true∧(pz.line==px.line)=true:=by
   simpa [sameLine,Expr.pos] using hs
  exact PS.imp (ps_par3 xc.calm xc.nd nx ny nz hij hil hjl lx ly lz (sEs es xc _ h2) (swap3 xc lx ly lz (nd_ne xc.nd nx ny hij) (nd_ne xc.nd nx nz hil) (nd_ne xc.nd ny nz hjl) hline.1 hline.2 st hf hc)) fun Dn σ H q=>imp_par3 q
theorem starsX2 {N:List Str} {sc:Nms} {T:List Fn} {cs:List (Str×D)} {cl:List Str} {x y:XE} {a b:Expr} (h1:ckX T cs cl N sc x a=true) (h2:ckX T cs cl N sc y b=true):∀e∈[a,b],∀v p,e ≠ .Starred v p:=by
 have one:∀{x:XE} {a:Expr},ckX T cs cl N sc x a=true→∀v p,a ≠ .Starred v p:=fun {x a} h v p z=>by
  subst z;cases x with
  | pu y=>cases y <;> cases h
  | _=>cases h
 intro e he;rcases List.mem_cons.mp he with rfl | he
 ·exact one h1
 ·cases List.mem_singleton.mp he;exact one h2
theorem stars3 {T:List Fn} {cs:List (Str×D)} {cl:List Str} {N:List Str} {sc:Nms} {a b c:E} {x y z:Expr} (h1:ckE T cs cl N sc a x=true) (h2:ckE T cs cl N sc b y=true) (h3:ckE T cs cl N sc c z=true):∀e∈[x,y,z],∀v p,e ≠ .Starred v p :=
 stars_none (es := .cons a (.cons b (.cons c .nil))) (show (ckE T cs cl N sc a x&&(ckE T cs cl N sc b y&&(ckE T cs cl N sc c z&&true)))=true by rw [h1,h2,h3];rfl)
theorem few_ok {N:List Str} {sc:Nms} {X:Cx} {T:List Fn} {cs:List (Str×D)} {cl:List Str} {x:E} {e:Expr} {cp:Pos} (h:ckE T cs cl N sc x e=true):((backTo cp (starEach (e::[]) X.env)).all (fun x => !x.1)&&(backToKw cp (keywordEach [] X.env)).all (fun x=>x.1.isSome)
   && decide ((e::[]).length+([]:List Keyword).length+(if ([]:List Keyword).isEmpty then 0 else 1)<30))=true:=by
 rw [star_of h []];rfl
theorem fewX_ok {N:List Str} {sc:Nms} {X:Cx} {T:List Fn} {cs:List (Str×D)} {cl:List Str} {x:XE} {e:Expr} {cp:Pos} (h:ckX T cs cl N sc x e=true):((backTo cp (starEach (e::[]) X.env)).all (fun x => !x.1)&&(backToKw cp (keywordEach [] X.env)).all (fun x=>x.1.isSome)
   && decide ((e::[]).length+([]:List Keyword).length+(if ([]:List Keyword).isEmpty then 0 else 1)<30))=true:=by
 rw [starX_of h []];rfl
theorem rai_of {N:List Str} {sc:Nms} {W:WX} {X:Cx} (xc:XC L N sc W X) {k:Nat} {x m:Str} {i:Nat} {p p2 p3 pos:Pos} (h:(L.clsN[k]?==some x)=true) (hx:(x != "")=true) (hg:glOk sc x=true):PS X (.Raise (some (.Call (.Name x p) [.Constant (.str m) i p2] [] p3)) none pos) (dS L X.K W (.rai k)):=by
 obtain ⟨g1,g2,g3⟩:=gl_of xc hg;obtain ⟨C,e1,e2,e3,e4,e5,e6⟩:=xc.lk.exc k x (eq_of_beq h) (bne_ne hx);refine PS.imp (ps_raise xc.calm xc.tk (pmk_own PySem.F.excBase_ValueError e3 e2 e4 (raises_own e5 e6) g1 g2)) fun Dn σ H q=>?_;obtain ⟨f0,H0,f,en,mt,ot⟩:=q;have ot':EndOk L X.K W f0 H0 f (.ex k en) Dn:=ot;have z:=ot' σ f H (Same.refl f) mt;rw [e1] at z;exact z
theorem inv_cmp {T:List Fn} {cs:List (Str×D)} {cl:List Str} {N:List Str} {sc:Nms} {elt:E} {tg:Tg} {it:It} {ifs:Eo} {own:List (Str×Nat)} {elt':Expr} {gs:List Comprehension} {scope:Scope} {q:Pos} (h:ckE T cs cl N sc (.cmp elt tg it ifs own) (.ListComp elt' gs scope q)=true):∃tg' it' ifs',gs=[⟨tg',it',ifs',0⟩]∧ckI T cs cl N sc it it' (isTup tg')=true∧blkOkB N sc scope own=true∧ckT N scope.names tg tg'=true∧(tgSlots tg).all (fun i=>(own.map (·.2)).contains i)=true∧ckIf T cs cl N scope.names ifs ifs'=true∧ckE T cs cl N scope.names elt elt'=true:=by
 unfold ckE at h;split at h
 ·rename_i heq;cases heq;obtain ⟨h,h6⟩:=and2 h;obtain ⟨h,h5⟩:=and2 h;obtain ⟨h,h4⟩:=and2 h;obtain ⟨h,h3⟩:=and2 h;obtain ⟨h1,h2⟩:=and2 h;exact ⟨_,_,_,rfl,h1,h2,h3,h4,h5,h6⟩
 ·cases h
theorem isCmp_inv {e:E} (h:isCmp e=true):∃elt tg it ifs own,e = .cmp elt tg it ifs own:=by
 cases e <;> first
  | (cases h;done)
  | exact ⟨_,_,_,_,_,rfl⟩
theorem inv_asgC {T:List Fn} {cs:List (Str×D)} {cl N:List Str} {sc:Nms} {i:Nat} {o:Bool} {e:E} {st:Stmt} (h:ckS T cs cl N sc (.asgC i o e) st=true):∃x p e' pos,st = .Assign [.Name x p] e' pos∧(N[i]?==some x&&ckE T cs cl N sc e e'&&compNow sc x p e'&&isCmp e)=true:=by
 unfold ckS at h;split at h
 ·exact ⟨_,_,_,_,rfl,h⟩
 ·cases h
theorem inv_asgO {T:List Fn} {cs:List (Str×D)} {cl N:List Str} {sc:Nms} {i:Nat} {e:E} {st:Stmt} (h:ckS T cs cl N sc (.asgO i e) st=true):∃x p e' pos,st = .Assign [.Name x p] e' pos∧(locOk N sc i x&&ckE T cs cl N sc e e'&&stOk sc (.Name x p) e')=true:=by
 unfold ckS at h;split at h
 ·exact ⟨_,_,_,_,rfl,h⟩
 ·cases h
theorem inv_setI {T:List Fn} {cs:List (Str×D)} {cl N:List Str} {sc:Nms} {i:Nat} {k e:E} {st:Stmt} (h:ckS T cs cl N sc (.setI i k e) st=true):∃x px k' pk e' pos,st = .Assign [.Subscript (.Name x px) k' pk] e' pos∧(nmOk N sc i x&&ckE T cs cl N sc k k'&&ckE T cs cl N sc e e'&&plainS e'&&plainE k')=true:=by
 unfold ckS at h;split at h
 ·exact ⟨_,_,_,_,_,_,rfl,h⟩
 ·cases h
theorem inv_popA {T:List Fn} {cs:List (Str×D)} {cl N:List Str} {sc:Nms} {i:Nat} {tg:Tg} {st:Stmt} (h:ckS T cs cl N sc (.popA tg i) st=true):∃tg' x px m ap cp pos,st = .Assign [tg'] (.Call (.Attribute (.Name x px) m ap) [] [] cp) pos∧(ckT N sc tg tg'&&nmOk N sc i x&&m == "pop" && ap.endLine==cp.line)=true:=by
 unfold ckS at h;split at h
 ·exact ⟨_,_,_,_,_,_,_,rfl,h⟩
 ·cases h
mutual
theorem sS:∀(s:S) {N:List Str} {sc:Nms} {W:WX} {X:Cx} (_:XS L N sc W X) (st:Stmt),ckS L.T L.cons L.clsN N sc s st=true→PS X st (dS L X.K W s)
 | .pass,N,sc,W,X,xs,st,h=>by
  unfold ckS at h;split at h
  ·refine PS.imp ps_pass fun Dn σ H q=>?_;obtain ⟨f0,H0,f,en,m,o⟩:=q;exact (show EndOk L X.K W f0 H0 f (.nx en) Dn from o) σ f H (Same.refl f) m
  ·cases h
 | .asg tg e,N,sc,W,X,xs,st,h=>by
  unfold ckS at h;split at h
  ·obtain ⟨h,h3⟩:=and2 h;obtain ⟨h1,h2⟩:=and2 h;obtain ⟨a1,a2,a3⟩:=stOk_ok xs.xc h3 ⟨tg,h1⟩;exact PS.imp (ps_asg (sE e xs.xc _ h2) (sTg xs.xc tg _ h1) a1 a2 a3) fun Dn σ H q=>imp_asg q
  ·cases h
 | .asgO i e,N,sc,W,X,xs,st,h=>by
  obtain ⟨x,p,e',pos,rfl,h⟩:=inv_asgO h;obtain ⟨h,h3⟩:=and2 h;obtain ⟨h1,h2⟩:=and2 h;obtain ⟨b1,b2,b3⟩:=loc_of xs.xc h1;obtain ⟨a1,a2,a3⟩:=stOk_ok (l:=pos.line) xs.xc h3 ⟨.nm i,h1⟩;exact PS.imp (ps_set xs.xc.nd b1 b2 (sE e xs.xc _ h2) a1 b3) fun Dn σ H q=>imp_asgO q
 | .dnew i,N,sc,W,X,xs,st,h=>by
  unfold ckS at h;split at h
  ·obtain ⟨b1,b2,b3⟩:=loc_of xs.xc h;exact PS.imp (ps_set xs.xc.nd b1 b2 pe_dnewN rfl b3) fun Dn σ H q=>imp_dnew q
  ·cases h
 | .jnew i,N,sc,W,X,xs,st,h=>by
  unfold ckS at h;split at h
  ·obtain ⟨b1,b2,b3⟩:=loc_of xs.xc h;exact PS.imp (ps_set xs.xc.nd b1 b2 pe_dnewK rfl b3) fun Dn σ H q=>imp_jnew q
  ·cases h
 | .ins i k e,N,sc,W,X,xs,st,h=>by
  unfold ckS at h;split at h
  ·obtain ⟨h,h5⟩:=and2 h;obtain ⟨h,h4⟩:=and2 h;obtain ⟨h,h3⟩:=and2 h;obtain ⟨h1,h2⟩:=and2 h;obtain ⟨b1,b2,b3,b4⟩:=vis_of xs.xc h1;have em:=str_beq h2;subst em;refine PS.imp (ps_expr (pe_bm PySem.F.plainAttrs_list PySem.F.slot_list_insert PySem.F.type_list_insert mt_insert (pe_var b1 b2 b3 b4) (pa_cons (sE k xs.xc _ h3) (pa_cons (sE e xs.xc _ h4) pa_nil (star_of h4 [])) (star_of h3 [_])) rfl ?_ h5 (star_of h3 [_]) ?_)) fun Dn σ H q=>imp_ins q
   ·rw [star_of h3 [_],star_of h4 []];rfl
   ·rw [star_of h4 []];rfl
  ·cases h
 | .asgC i o e,N,sc,W,X,xs,st,h=>by
  obtain ⟨x,p,e',pos,rfl,h⟩:=inv_asgC h;obtain ⟨h,h4⟩:=and2 h;obtain ⟨h,h3⟩:=and2 h;obtain ⟨h1,h2⟩:=and2 h;obtain ⟨elt',g,scope,q,rfl,hl,hsw⟩:=compNow_ok (l:=pos.line) xs.xc h3;obtain ⟨elt,tg,it,ifs,own,rfl⟩:=isCmp_inv h4;obtain ⟨tg',it',ifs',hg,c1,c2,c3,c4,c5,c6⟩:=inv_cmp h2;cases hg;have ht:∀i∈tgSlots tg,i∈own.map (·.2):=fun i hi=>List.contains_iff_mem.mp (List.all_eq_true.mp c4 i hi);have hi:X.N[i]?=some x:=by rw [xs.xc.N];exact eq_of_beq h1
  refine PS.imp (ps_setLc (te:=dV L X.K W0 elt) (g:=gD X.K tg) (tt:=dB L X.K W0 ifs) xs.xc.calm xs.xc.nd hi hl hsw (sI it xs.xc _ _ c1) (blk_ok xs.xc c2) (fun s H C cl fp=>sTg (xs.xc.blk c2 s H C cl fp) tg _ c3) (fun s H C cl fp=>sIf ifs (xs.xc.blk c2 s H C cl fp) _ c5) (fun s H C cl fp=>sE elt (xs.xc.blk c2 s H C cl fp) _ c6) (sFold it _ _ c1)) fun Dn σ H q=>?_;exact imp_cmp ht (imp_asgC q)
 | .par is es,N,sc,W,X,xs,st,h=>by
  unfold ckS at h;split at h
  ·obtain ⟨h,h8⟩:=and2 h;obtain ⟨h,h7⟩:=and2 h;obtain ⟨h,h6⟩:=and2 h;obtain ⟨h,h5⟩:=and2 h;obtain ⟨h,h4⟩:=and2 h;obtain ⟨h,h3⟩:=and2 h;obtain ⟨h1,h2⟩:=and2 h;exact par_of xs.xc h1 h2 (of_decide_eq_true h3) (of_decide_eq_true h4) (eq_of_beq h5) h6 (not_false h7) (not_false h8)
  ·cases h
 | .parL i j l a b e,N,sc,W,X,xs,st,h=>by
  unfold ckS at h;split at h
  ·obtain ⟨h,h8⟩:=and2 h;obtain ⟨h,h7⟩:=and2 h;obtain ⟨h,h6⟩:=and2 h;obtain ⟨h,h5⟩:=and2 h;obtain ⟨h,h4⟩:=and2 h;obtain ⟨h,h3⟩:=and2 h;obtain ⟨h1,h2⟩:=and2 h;have hn:=of_decide_eq_true h5;obtain ⟨el,hp⟩:=par_ok xs.xc h1;obtain ⟨t,u,w,rfl⟩:=len3 (el.trans (rfl:[i,j,l].length=3));obtain ⟨x,px,rfl,nx,lx⟩:=hp 0 i t rfl rfl;obtain ⟨y,py,rfl,ny,ly⟩:=hp 1 j u rfl rfl;obtain ⟨z,pz,rfl,nz,lz⟩:=hp 2 l w rfl rfl;have hij:i≠j:=fun z=>by subst z;simp at hn
   have hil:i≠l:=fun z=>by subst z;simp at hn
   have hjl:j≠l:=fun z=>by subst z;simp at hn
   have hline:(py.line==px.line)=true∧(pz.line==px.line)=true:=by
    simpa [sameLine,Expr.pos] using h6
   have st:=stars3 h2 h3 h4;exact PS.imp (ps_par3 xs.xc.calm xs.xc.nd nx ny nz hij hil hjl lx ly lz (pa_cons (sE a xs.xc _ h2) (pa_cons (sE b xs.xc _ h3) (pa_cons (sE e xs.xc _ h4) pa_nil (star_of h4 _)) (star_of h3 _)) (star_of h2 _)) (swap3 xs.xc lx ly lz (nd_ne xs.xc.nd nx ny hij) (nd_ne xs.xc.nd nx nz hil) (nd_ne xs.xc.nd ny nz hjl) hline.1 hline.2 st (not_false h7) (not_false h8))) fun Dn σ H q=>imp_parL q
  ·cases h
 | .parM i j l a b e,N,sc,W,X,xs,st,h=>by
  unfold ckS at h;split at h
  ·obtain ⟨h,h8⟩:=and2 h;obtain ⟨h,h7⟩:=and2 h;obtain ⟨h,h6⟩:=and2 h;obtain ⟨h,h5⟩:=and2 h;obtain ⟨h,h4⟩:=and2 h;obtain ⟨h,h3⟩:=and2 h;obtain ⟨h1,h2⟩:=and2 h;have hn:=of_decide_eq_true h5;obtain ⟨el,hp⟩:=par_ok xs.xc h1;obtain ⟨t,u,w,rfl⟩:=len3 (el.trans (rfl:[i,j,l].length=3));obtain ⟨x,px,rfl,nx,lx⟩:=hp 0 i t rfl rfl;obtain ⟨y,py,rfl,ny,ly⟩:=hp 1 j u rfl rfl;obtain ⟨z,pz,rfl,nz,lz⟩:=hp 2 l w rfl rfl;have hij:i≠j:=fun z=>by subst z;simp at hn
   have hil:i≠l:=fun z=>by subst z;simp at hn
   have hjl:j≠l:=fun z=>by subst z;simp at hn
   have hline:(py.line==px.line)=true∧(pz.line==px.line)=true:=by
    simpa [sameLine,Expr.pos] using h6
   have st:=stars3 h2 h3 h4;exact PS.imp (ps_par3 xs.xc.calm xs.xc.nd nx ny nz hij hil hjl lx ly lz (pa_cons (sE a xs.xc _ h2) (pa_cons (sE b xs.xc _ h3) (pa_cons (sE e xs.xc _ h4) pa_nil (star_of h4 _)) (star_of h3 _)) (star_of h2 _)) (swap3 xs.xc lx ly lz (nd_ne xs.xc.nd nx ny hij) (nd_ne xs.xc.nd nx nz hil) (nd_ne xs.xc.nd ny nz hjl) hline.1 hline.2 st (not_false h7) (not_false h8))) fun Dn σ H q=>imp_parM q
  ·cases h
 | .xpar i j a b,N,sc,W,X,xs,st,h=>by
  unfold ckS at h;split at h
  ·obtain ⟨h,h8⟩:=and2 h;obtain ⟨h,h7⟩:=and2 h;obtain ⟨h,h6⟩:=and2 h;obtain ⟨h,h5⟩:=and2 h;obtain ⟨h,h3⟩:=and2 h;obtain ⟨h1,h2⟩:=and2 h;have hn:=of_decide_eq_true h5;obtain ⟨el,hp⟩:=par_ok xs.xc h1;obtain ⟨t,u,rfl⟩:=len2 (el.trans (rfl:[i,j].length=2));obtain ⟨x,px,rfl,nx,lx⟩:=hp 0 i t rfl rfl;obtain ⟨y,py,rfl,ny,ly⟩:=hp 1 j u rfl rfl;have hij:i≠j:=fun z=>by subst z;simp at hn
   have hline:(py.line==px.line)=true:=by
    simpa [sameLine,Expr.pos] using h6
   exact PS.imp (ps_par xs.xc.calm xs.xc.nd nx ny hij lx ly (pa_cons (sX a xs.xc _ h2) (pa_cons (sX b xs.xc _ h3) pa_nil (starX_of h3 _)) (starX_of h2 _)) (swap2 xs.xc lx ly (nd_ne xs.xc.nd nx ny hij) hline (starsX2 h2 h3) (not_false h7) (not_false h8))) fun Dn σ H q=>imp_xpar q
  ·cases h
 | .setI i k e,N,sc,W,X,xs,st,h=>by
  obtain ⟨x,px,k',pk,e',pos,rfl,h⟩:=inv_setI h;obtain ⟨h,h5⟩:=and2 h;obtain ⟨h,h4⟩:=and2 h;obtain ⟨h,h3⟩:=and2 h;obtain ⟨h1,h2⟩:=and2 h;obtain ⟨b1,b2,b3,b4⟩:=vis_of xs.xc h1;have a1:swapsWith e' (some (.Subscript (.Name x px) k' pk)) pos.line X.env=pure false:=plainS_sw h4;refine PS.imp (ps_asg (sE e xs.xc _ h3) (pg_sub (pe_var b1 b2 b3 b4) (sE k xs.xc _ h2) (set_ln xs.xc.units) ?_) a1 ?_ rfl) fun Dn σ H q=>imp_setI q
  ·intro v;cases k' <;> first
    | rfl
    | cases h5
  ·cases e' <;> first
    | rfl
    | cases h4
 | .aug i o e,N,sc,W,X,xs,st,h=>by
  unfold ckS at h;split at h
  ·obtain ⟨h,h3⟩:=and2 h;obtain ⟨h1,h2⟩:=and2 h;obtain ⟨b1,b2,b3⟩:=loc_of xs.xc h1;exact PS.imp (ps_aug xs.xc.nd b1 b2 (sE e xs.xc _ h3) (ip_A xs.xc.py h2) b3) fun Dn σ H q=>imp_aug h2 q
  ·cases h
 | .app i e,N,sc,W,X,xs,st,h=>by
  unfold ckS at h;split at h
  ·obtain ⟨h,h4⟩:=and2 h;obtain ⟨h,h3⟩:=and2 h;obtain ⟨h1,h2⟩:=and2 h;obtain ⟨b1,b2,b3,b4⟩:=vis_of xs.xc h1;have em:=str_beq h2;subst em;exact PS.imp (ps_expr (pe_bm PySem.F.plainAttrs_list PySem.F.slot_list_append PySem.F.type_list_append mt_append (pe_var b1 b2 b3 b4) (pa_cons (sE e xs.xc _ h3) pa_nil (star_of h3 [])) rfl (few_ok h3) h4 (star_of h3 []) rfl)) fun Dn σ H q=>imp_app q
  ·cases h
 | .extT i e,N,sc,W,X,xs,st,h=>by
  unfold ckS at h;split at h
  ·obtain ⟨h,h4⟩:=and2 h;obtain ⟨h,h3⟩:=and2 h;obtain ⟨h1,h2⟩:=and2 h;obtain ⟨b1,b2,b3,b4⟩:=vis_of xs.xc h1;have em:=str_beq h2;subst em;exact PS.imp (ps_expr (pe_bm PySem.F.plainAttrs_list PySem.F.slot_list_extend PySem.F.type_list_extend mt_extT (pe_var b1 b2 b3 b4) (pa_cons (sE e xs.xc _ h3) pa_nil (star_of h3 [])) rfl (few_ok h3) h4 (star_of h3 []) rfl)) fun Dn σ H q=>imp_extT q
  ·cases h
 | .pop i,N,sc,W,X,xs,st,h=>by
  unfold ckS at h;split at h
  ·obtain ⟨h,h4⟩:=and2 h;obtain ⟨h1,h2⟩:=and2 h;obtain ⟨b1,b2,b3,b4⟩:=vis_of xs.xc h1;have em:=str_beq h2;subst em;exact PS.imp (ps_expr (pe_bm0 PySem.F.plainAttrs_list PySem.F.slot_list_pop PySem.F.type_list_pop mt_pop (pe_var b1 b2 b3 b4) rfl h4)) fun Dn σ H q=>imp_pop q
  ·cases h
 | .popA tg i,N,sc,W,X,xs,st,h=>by
  obtain ⟨tg',x,px,m,ap,cp,pos,rfl,h⟩:=inv_popA h;obtain ⟨h,h4⟩:=and2 h;obtain ⟨h,h3⟩:=and2 h;obtain ⟨h1,h2⟩:=and2 h;obtain ⟨b1,b2,b3,b4⟩:=vis_of xs.xc h2;have em:=str_beq h3;subst em;refine PS.imp (ps_asg (pe_bm0 PySem.F.plainAttrs_list PySem.F.slot_list_pop PySem.F.type_list_pop mt_pop (pe_var b1 b2 b3 b4) rfl h4) (sTg xs.xc tg _ h1) rfl ?_ (ck_assign1 h1 [])) fun Dn σ H q=>imp_popA q;cases tg' <;> rfl
 | .minK i k lo t,N,sc,W,X,xs,st,h=>by
  unfold ckS at h;split at h
  ·obtain ⟨h,h5⟩:=and2 h;obtain ⟨h,h4⟩:=and2 h;obtain ⟨h,h3⟩:=and2 h;obtain ⟨h1,h2⟩:=and2 h;obtain ⟨b1,b2,b3,b4⟩:=vis_of xs.xc h2;obtain ⟨k1,k2,k3⟩:=loc_of xs.xc h1;obtain ⟨l1,l2,l3⟩:=loc_of xs.xc h4;obtain ⟨v1,v2,v3,v4⟩:=vis_of xs.xc h5;exact PS.imp (ps_for xs.hp xs.xc.calm (pi_keysN b1 b2 b3 b4) (pg_name xs.xc.nd k1 k2 k3) (pss_one (ps_if (sT t xs.xc _ h3) (pss_one (ps_set xs.xc.nd l1 l2 (pe_var v1 v2 v3 v4) rfl l3)) pss_nil)) fun _=>rfl) fun Dn σ H q=>imp_minK q
  ·cases h
 | .popT f i lo,N,sc,W,X,xs,st,h=>by
  unfold ckS at h;split at h
  ·obtain ⟨h,h10⟩:=and2 h;obtain ⟨h,h9⟩:=and2 h;obtain ⟨h,h8⟩:=and2 h;obtain ⟨h,h7⟩:=and2 h;obtain ⟨h,h6⟩:=and2 h;obtain ⟨h,h5⟩:=and2 h;obtain ⟨h,h4⟩:=and2 h;obtain ⟨h,h3⟩:=and2 h;obtain ⟨h1,h2⟩:=and2 h;obtain ⟨b1,b2,b3,b4⟩:=vis_of xs.xc h1;obtain ⟨c1,c2,c3,c4⟩:=vis_of xs.xc h4;obtain ⟨d1,d2,d3,d4⟩:=vis_of xs.xc h7;obtain ⟨e1,e2,e3,e4⟩:=vis_of xs.xc h10;obtain ⟨g1,g2,g3⟩:=gl_of xs.xc h6;have em:=str_beq h2;subst em;have em:=str_beq h5;subst em;have em:=str_beq h8;subst em;exact PS.imp (ps_expr (pe_bm PySem.F.plainAttrs_list PySem.F.slot_list_append PySem.F.type_list_append mt_append (pe_var b1 b2 b3 b4)
    (pa_cons (pe_tup (pa_cons (pe_var c1 c2 c3 c4) (pa_cons (pe_tupleOf g1 (blt_of xs.xc (by decide +kernel)) (pe_popN xs.xc.units d1 d2 d3 d4 (pa_cons (pe_var e1 e2 e3 e4) pa_nil rfl) rfl h9 rfl)) pa_nil rfl) rfl)) pa_nil rfl) rfl rfl h3 rfl rfl)) fun Dn σ H q=>imp_popT q
  ·cases h
 | .rvs i,N,sc,W,X,xs,st,h=>by
  unfold ckS at h;split at h
  ·obtain ⟨h,h4⟩:=and2 h;obtain ⟨h1,h2⟩:=and2 h;obtain ⟨b1,b2,b3,b4⟩:=vis_of xs.xc h1;have em:=str_beq h2;subst em;exact PS.imp (ps_expr (pe_bm0 PySem.F.plainAttrs_list PySem.F.slot_list_reverse PySem.F.type_list_reverse mt_reverse (pe_var b1 b2 b3 b4) rfl h4)) fun Dn σ H q=>imp_rvs q
  ·cases h
 | .frz i,N,sc,W,X,xs,st,h=>by
  unfold ckS at h;cases h
 | .ite t a b,N,sc,W,X,xs,st,h=>by
  unfold ckS at h;split at h
  ·obtain ⟨h,h3⟩:=and2 h;obtain ⟨h1,h2⟩:=and2 h;exact PS.imp (ps_if (sT t xs.xc _ h1) (sSs a xs _ h2) (sSs b xs _ h3)) fun Dn σ H q=>imp_ite q
  ·cases h
 | .iteR t f i c d e b,N,sc,W,X,xs,st,h=>by
  unfold ckS at h;split at h
  ·obtain ⟨h,h11⟩:=and2 h;obtain ⟨h,h10⟩:=and2 h;obtain ⟨h,h9⟩:=and2 h;obtain ⟨h,h8⟩:=and2 h;obtain ⟨h,h7⟩:=and2 h;obtain ⟨h,h6⟩:=and2 h;obtain ⟨h,h5⟩:=and2 h;obtain ⟨h,h4⟩:=and2 h;obtain ⟨h,h3⟩:=and2 h;obtain ⟨h1,h2⟩:=and2 h;have em:=str_beq h6;subst em;have ec:=str_beq h7;subst ec;have ed:=str_beq h8;subst ed;obtain ⟨l1,l2,l3⟩:=loc_of xs.xc h4;obtain ⟨v1,v2,v3,v4⟩:=vis_of xs.xc h5;exact PS.imp (ps_iteR (ptk_of xs.xc h1 h2 h3) (pst_rpl xs.xc.nd l1 l2 l3 v1 v2 v3 v4 h9 (sE e xs.xc _ h10)) (sSs b xs _ h11)) fun Dn σ H q=>imp_iteR q
  ·cases h
 | .whl t b,N,sc,W,X,xs,st,h=>by
  unfold ckS at h;split at h
  ·obtain ⟨h1,h2⟩:=and2 h;exact PS.imp (ps_while xs.hp (sT t xs.xc _ h1) (sSs b xs _ h2)) fun Dn σ H q=>imp_whl q
  ·cases h
 | .for_ tg it b,N,sc,W,X,xs,st,h=>by
  unfold ckS at h;split at h
  ·obtain ⟨h,h3⟩:=and2 h;obtain ⟨h1,h2⟩:=and2 h;exact PS.imp (ps_for xs.hp xs.xc.calm (sI it xs.xc _ _ h2) (sTg xs.xc tg _ h1) (sSs b xs _ h3) (sFold it _ _ h2)) fun Dn σ H q=>imp_for q
  ·cases h
 | .ret e,N,sc,W,X,xs,st,h=>by
  unfold ckS at h;split at h
  ·exact PS.imp (ps_ret (sE e xs.xc _ h)) fun Dn σ H q=>imp_ret q
  ·cases h
 | .retO i,N,sc,W,X,xs,st,h=>by
  unfold ckS at h;split at h
  ·obtain ⟨b1,b2,b3,b4⟩:=vis_of xs.xc h;exact PS.imp (ps_ret (pe_var b1 b2 b3 b4)) fun Dn σ H q=>imp_retO q
  ·cases h
 | .retT i e,N,sc,W,X,xs,st,h=>by
  obtain ⟨x,px,e',k,p,pos,rfl,h1,h2⟩:=inv_retT h;obtain ⟨b1,b2,b3,b4⟩:=vis_of xs.xc h1;exact PS.imp (ps_ret (pe_tup (pa_cons (pe_var b1 b2 b3 b4) (pa_cons (sE e xs.xc _ h2) pa_nil (star_of h2 _)) rfl))) fun Dn σ H q=>imp_retT q
 | .retL a e,N,sc,W,X,xs,st,h=>by
  obtain ⟨a',e',k,p,pos,rfl,h1,h2⟩:=inv_retL h;exact PS.imp (ps_ret (pe_tup (pa_cons (sE a xs.xc _ h1) (pa_cons (sE e xs.xc _ h2) pa_nil (star_of h2 _)) (star_of h1 _)))) fun Dn σ H q=>imp_retL q
 | .retN,N,sc,W,X,xs,st,h=>by
  unfold ckS at h;split at h
  ·refine PS.imp ps_retN fun Dn σ H q=>?_;obtain ⟨f0,H0,f,en,m,o⟩:=q;exact (show EndOk L X.K W f0 H0 f (.rt .none false) Dn from o) .non f H m.po .non
  ·cases h
 | .brk,N,sc,W,X,xs,st,h=>by
  unfold ckS at h;split at h
  ·refine PS.imp ps_break fun Dn σ H q=>?_;obtain ⟨f0,H0,f,en,m,o⟩:=q;exact (show EndOk L X.K W f0 H0 f (.bk en) Dn from o) σ f H (Same.refl f) m
  ·cases h
 | .cnt,N,sc,W,X,xs,st,h=>by
  unfold ckS at h;split at h
  ·refine PS.imp ps_continue fun Dn σ H q=>?_;obtain ⟨f0,H0,f,en,m,o⟩:=q;exact (show EndOk L X.K W f0 H0 f (.ct en) Dn from o) σ f H (Same.refl f) m
  ·cases h
 | .rai k,N,sc,W,X,xs,st,h=>by
  unfold ckS at h;split at h
  ·obtain ⟨h1,h2⟩:=and2 h;obtain ⟨h1,h3⟩:=and2 h1;exact rai_of xs.xc h1 h3 h2
  ·cases h
 | .exp e,N,sc,W,X,xs,st,h=>by
  unfold ckS at h;split at h
  ·obtain ⟨h1,h2⟩:=and2 h;exact PS.imp (ps_expr (sE e xs.xc _ h1) (plainV_sw h2)) fun Dn σ H q=>imp_exp q
  ·cases h
 | .tryN k i b,N,sc,W,X,xs,st,hc=>by
  unfold ckS at hc;split at hc
  ·obtain ⟨hc,h7⟩:=and2 hc;obtain ⟨hc,h6⟩:=and2 hc;obtain ⟨hc,h5⟩:=and2 hc;obtain ⟨hc,h4⟩:=and2 hc;obtain ⟨hc,h3⟩:=and2 hc;obtain ⟨h1,h2⟩:=and2 hc;have h1:=eq_of_beq h1;have h0:=bne_ne h2;obtain ⟨k1,k2,k3⟩:=cls_at xs.xc.lk h1 h0;obtain ⟨g1,g2,g3⟩:=gl_of xs.xc h3;have hi:=eq_of_beq h5;rw [←xs.xc.N] at hi;have km:=xs.xc.nm _ _ (eq_of_beq h6);refine PS.imp (ps_try_only (tb:=fun W'=>dSs L X.K W' b) (ts:=fun _ _ _=>tAsg (tC .non) (gName i)) xs.st xs.fr ⟨g1,g2,.inl k3⟩ xs.xc.tk (fun W' pn xe tk hp=>sSs b (xs.tr tk hp) _ h7) fun a oe cls d pn hz hd=>?_) fun Dn σ H q=>imp_tryN (by rw [k2];exact erB_self xs.xc.lk.er h4 (mem_of_at h1) h0) q;exact pss_one (ps_set (X:=X.suite a ((a,oe)::pn)) xs.xc.nd hi (.inl km) pe_non rfl (.inr km))
  ·cases hc
 | .tryA h i ks b,N,sc,W,X,xs,st,hc=>by
  unfold ckS at hc;split at hc
  ·obtain ⟨hc,h11⟩:=and2 hc;obtain ⟨hc,h10⟩:=and2 hc;obtain ⟨hc,h9⟩:=and2 hc;obtain ⟨hc,h8⟩:=and2 hc;obtain ⟨hc,h7⟩:=and2 hc;obtain ⟨hc,h6⟩:=and2 hc;obtain ⟨hc,h5⟩:=and2 hc;obtain ⟨hc,h4⟩:=and2 hc;obtain ⟨hc,h3⟩:=and2 hc;obtain ⟨h1,h2⟩:=and2 hc;have h1:=str_beq h1;subst h1;have h9:=str_beq h9;subst h9;have h2:=eq_of_beq h2;obtain ⟨k1,k2,k3⟩:=cls_at xs.xc.lk h2 area_ne;obtain ⟨g1,g2,g3⟩:=gl_of xs.xc h3;obtain ⟨v1,v2,v3,v4⟩:=vis_of xs.xc h5;have hi:=eq_of_beq h6;rw [←xs.xc.N] at hi;have hA:L.clsN.contains "AreaError" = true:=List.contains_iff_mem.mpr (mem_of_at h2);have hne:h≠i:=fun z=>by
    subst z;rw [v1] at hi;exact bne_ne h10 (Option.some.inj hi)
   have kn:=xs.xc.nm _ _ (eq_of_beq h7);have km:=xs.xc.nm _ _ (eq_of_beq h8);refine PS.imp (ps_try_keep (tb:=fun W'=>dSs L X.K W' b) xs.st xs.fr xs.ex xs.xc.nd v1 hi hne kn km v3 v4 ⟨g1,g2,.inl k3⟩ fun W' pn xe tk hp=>sSs b (xs.tr tk hp) _ h11) fun Dn σ H q=>?_;refine imp_try (fun k hk=>?_) hne q;obtain ⟨n,n1,n2⟩:=ks_at h4 hk;obtain ⟨c1,c2,_⟩:=cls_at xs.xc.lk n1 n2;obtain ⟨_,_,_,b4,_⟩:=erB_ne xs.xc.lk.er hA (mem_of_at n1) n2;exact ⟨c2.trans c1.symm,by rw [c2];exact b4⟩
  ·cases hc
 | .xasg tg x,N,sc,W,X,xs,st,h=>by
  unfold ckS at h;split at h
  ·obtain ⟨h,h3⟩:=and2 h;obtain ⟨h1,h2⟩:=and2 h;obtain ⟨a1,a2,a3⟩:=stOk_ok xs.xc h3 ⟨tg,h1⟩;exact PS.imp (ps_asg (sX x xs.xc _ h2) (sTg xs.xc tg _ h1) a1 a2 a3) fun Dn σ H q=>imp_xasg q
  ·cases h
 | .xret x,N,sc,W,X,xs,st,h=>by
  unfold ckS at h;split at h
  ·exact PS.imp (ps_ret (sX x xs.xc _ h)) fun Dn σ H q=>imp_xret q
  ·cases h
 | .xite x a b,N,sc,W,X,xs,st,h=>by
  unfold ckS at h;split at h
  ·obtain ⟨h,h3⟩:=and2 h;obtain ⟨h1,h2⟩:=and2 h;exact PS.imp (ps_if (sXT x xs.xc _ h1) (sSs a xs _ h2) (sSs b xs _ h3)) fun Dn σ H q=>imp_xite q
  ·cases h
 | .xapp i x,N,sc,W,X,xs,st,h=>by
  unfold ckS at h;split at h
  ·obtain ⟨h,h4⟩:=and2 h;obtain ⟨h,h3⟩:=and2 h;obtain ⟨h1,h2⟩:=and2 h;have en:=str_beq h2;subst en;obtain ⟨b1,b2,b3,b4⟩:=vis_of xs.xc h1;exact PS.imp (ps_expr (pe_bm PySem.F.plainAttrs_list PySem.F.slot_list_append PySem.F.type_list_append mt_append (pe_var b1 b2 b3 b4) (pa_cons (sX x xs.xc _ h3) pa_nil (starX_of h3 [])) rfl (fewX_ok h3) h4 (starX_of h3 []) rfl)) fun Dn σ H q=>imp_xapp q
  ·cases h
 | .xfor i x b,N,sc,W,X,xs,st,h=>by
  unfold ckS at h;split at h
  ·rename_i tg' f pf e' pos b' pos';obtain ⟨h,h5⟩:=and2 h;obtain ⟨h,h4⟩:=and2 h;obtain ⟨h,h3⟩:=and2 h;obtain ⟨h1,h2⟩:=and2 h;have en:=str_beq h2;subst en;have pi:PI X tg' (.Call (.Name ("range" : Str) pf) [e'] [] pos) (dXI L X.K W x):=PI.imp (pi_range1 (gl_of xs.xc h3).1 (blt_of xs.xc (by decide +kernel)) (pa_cons (sX x xs.xc _ h4) pa_nil (starX_of h4 [])) (starX_of h4 [])) fun σ H Q q=>impXI (L:=L) (K:=X.K) (W:=W) q;exact PS.imp (ps_for xs.hp xs.xc.calm pi (sTg xs.xc (.nm i) _ h1) (sSs b xs _ h5) (fun _=>rfl)) fun Dn σ H q=>imp_xfor q
  ·cases h
 | .augI i o k e,N,sc,W,X,xs,st,h=>by
  unfold ckS at h;split at h
  ·rename_i y py k' tpos op e' pos;obtain ⟨h,h5⟩:=and2 h;obtain ⟨h,h4⟩:=and2 h;obtain ⟨h,h3⟩:=and2 h;obtain ⟨h1,h2⟩:=and2 h;obtain ⟨b1,b2,b3,b4⟩:=vis_of xs.xc h1;refine PS.imp (ps_augS (pe_var b1 b2 b3 b4) (sE k xs.xc _ h3) pget_list (sE e xs.xc _ h4) (ip_A xs.xc.py h2) (set_ln xs.xc.units) ?_) fun Dn σ H q=>imp_augI h2 q;intro ov iv new;cases k' <;> first
    | rfl
    | cases h5
  ·cases h
 | .dead,N,sc,W,X,xs,st,h=>PS.imp ps_never fun Dn σ H ⟨f0,H0,f,en,m,o⟩=>o
theorem sSs:∀(s:Ss) {N:List Str} {sc:Nms} {W:WX} {X:Cx} (_:XS L N sc W X) (sts:List Stmt),ckSs L.T L.cons L.clsN N sc s sts=true→PSs X sts (dSs L X.K W s)
 | .nil,N,sc,W,X,xs,sts,h=>by
  cases sts with
  | nil =>
   refine PSs.imp pss_nil fun Dn σ H q=>?_;obtain ⟨f0,H0,f,en,m,o⟩:=q;exact (show EndOk L X.K W f0 H0 f (.nx en) Dn from o) σ f H (Same.refl f) m
  | cons s sts=>cases h
 | .cons s r,N,sc,W,X,xs,sts,h=>by
  have seq:∀{Dn:Ends} {f0 H0 f:Hp} {en:En},OutS L X.K W f0 H0 f (L.ess (.cons s r) en) Dn→OutS L X.K W f0 H0 f (L.es s en) { Dn with nx:=fun σ' H'=>dSs L X.K W r Dn σ' H' }:=fun {Dn f0 H0 f en} o=>by
   obtain ⟨fl,ef,o2⟩:=OutS.bind (show OutS L X.K W f0 H0 f ((L.es s en).bind fun fl=>(match fl with | .nx e=>L.ess r e | fl => .ok fl)) Dn from o);rw [ef];cases fl with
   | nx e=>exact fun σ' f' H' s' m'=>⟨f0,H0,f',e,m',OutS.mono s' o2⟩
   | bk e=>exact o2
   | ct e=>exact o2
   | rt d fr=>exact o2
   | rtT d fr=>exact o2
   | rtS d fr=>exact o2
   | ex c e=>exact o2
  by_cases hf:∃i,s = .frz i
  ·obtain ⟨i,rfl⟩:=hf;have h':ckSs L.T L.cons L.clsN N sc r sts=true:=h;refine PSs.imp (sSs r xs sts h') fun Dn σ H q=>?_;obtain ⟨f0,H0,f,en,m,o⟩:=q;have o1:=seq o;have o2:OutS L X.K W f0 H0 f (match en[i]? with
    | some (.ow ds) => .ok (.nx (en.set i (.va (.list ds))))
    | some (.dk kvs) => .ok (.nx (en.set i (.fd kvs)))
    | some (.dj kvs) => .ok (.nx (en.set i (.va (.dict kvs))))
    | _ => .no) { Dn with nx:=fun σ' H'=>dSs L X.K W r Dn σ' H' }:=o1
   cases ei:en[i]? with
   | none=>rw [ei] at o2;exact o2.elim
   | some s =>
    rw [ei] at o2;cases s with
    | ow ds =>
     obtain ⟨f',sm,m'⟩:=m.frz ei;exact (show EndOk L X.K W f0 H0 f (.nx (en.set i (.va (.list ds)))) { Dn with nx:=fun σ' H'=>dSs L X.K W r Dn σ' H' } from o2) σ f' H sm m'
    | dk kvs =>
     obtain ⟨f',sm,m'⟩:=m.frzD ei;exact (show EndOk L X.K W f0 H0 f (.nx (en.set i (.fd kvs))) { Dn with nx:=fun σ' H'=>dSs L X.K W r Dn σ' H' } from o2) σ f' H sm m'
    | dj kvs =>
     obtain ⟨f',sm,m'⟩:=m.frzJ ei;exact (show EndOk L X.K W f0 H0 f (.nx (en.set i (.va (.dict kvs)))) { Dn with nx:=fun σ' H'=>dSs L X.K W r Dn σ' H' } from o2) σ f' H sm m'
    | _=>exact o2.elim
  ·cases sts with
   | nil =>
    exfalso
    cases s <;> first
     | cases h
     | exact hf ⟨_,rfl⟩
   | cons st rest =>
    have h':(ckS L.T L.cons L.clsN N sc s st&&ckSs L.T L.cons L.clsN N sc r rest)=true:=by
     cases s <;> first
      | exact h
      | exact absurd ⟨_,rfl⟩ hf
    obtain ⟨h1,h2⟩:=and2 h';refine PSs.imp (pss_cons (sS s xs st h1) (sSs r xs rest h2)) fun Dn σ H q=>?_;obtain ⟨f0,H0,f,en,m,o⟩:=q;exact ⟨f0,H0,f,en,m,seq o⟩
 | .tok s0 s1 r,N,sc,W,X,xs,sts,h=>tok_ok xs h fun rest h1=>sSs r xs rest h1
 | .rf h0 i0 r0,N,sc,W,X,xs,sts,h=>PSs.imp pss_never fun Dn σ H ⟨f0,H0,f,en,m,o⟩=>o
 | .wks i w j ks es r,N,sc,W,X,xs,sts,h=>by
  have h':(match wkAll L.T L.cons L.clsN N sc i w j ks es sts with
   | some rest=>ckSs L.T L.cons L.clsN N sc r rest
   | none=>false)=true:=h
  cases e:wkAll L.T L.cons L.clsN N sc i w j ks es sts with
  | none=>rw [e] at h';cases h'
  | some rest =>
   rw [e] at h';exact wks_ok xs e (sSs r xs rest h')
 | .spl i j n es t r,N,sc,W,X,xs,sts,h=>by
  obtain ⟨x,p1,fn,p2,a1,as,p3,p4,t',b',p5,p6,p7,k',p8,m,ap,e',cp,p9,rest,x',rfl,h1,hT,hg,hes,ht,hb,hx',hk,hpk,hm,he,hln,hr⟩:=inv_spl h;obtain ⟨b1,b2,b3⟩:=loc_of xs.xc h1;obtain ⟨c1,c2,c3,c4⟩:=vis_of xs.xc hx';obtain ⟨g,eg,eN,eP⟩:=inv_at hT;obtain ⟨fa,fd,dvs,ds,hmm,hkk,F,hv,hd,hbi⟩:=xs.xc.lk.fn j g eg 0 (Nat.zero_le _);obtain ⟨g1,g2,g3⟩:=gl_of xs.xc hg;subst eN;have st0:=stars_spl hes (X:=X) (pos:=p3);have d0:dvs=[]:=by
   have h0:=hd (fun _=>none);have:g.dv 0=[]:=by unfold Fn.dv;exact List.drop_length
   rw [this] at h0;cases h0;rfl
  subst d0;have em:=str_beq hm;subst em;refine PSs.imp (pss_cons (ps_set xs.xc.nd b1 b2 (pe_callSD F xs.xc.room g1 hmm hkk hbi hv (fun σ=>passAt xs.xc.tk σ) (sAs es xs.xc _ hes) g2 st0.1 st0.2) rfl b3)
   (pss_cons (ps_if (sT t xs.xc _ ht) (pss_one (ps_ret (sE (.con (.bool false)) xs.xc _ hb))) pss_nil)
    (pss_cons (ps_expr (pe_bm PySem.F.plainAttrs_list PySem.F.slot_list_append PySem.F.type_list_append mt_append (pe_ix ix_tup (pe_var c1 c2 c3 c4) (sE (.con (.int 0)) xs.xc _ hk) (plain_ix hpk)) (pa_cons (sE (.con .none) xs.xc _ he) pa_nil (star_of he [])) rfl (few_ok he) hln (star_of he []) rfl)) (sSs r xs rest hr)))) fun Dn σ H q=>imp_spl eg eP q
end
end
end AW
namespace AW
open PySem PySem.Spec PyProof.Rows L2
variable [CdT]
def lvl (T:List Fn) (n:Nat):Nat:=n+32+2*(T.take n).countP (·.lm)
theorem lvl_succ {T:List Fn} {j:Nat} {g:Fn} (h:T[j]?=some g):lvl T (j+1)=lvl T j+1+(if g.lm=true then 2 else 0):=by
 unfold lvl;rw [List.take_succ,h];show j+1+32+2*(List.take j T++[g]).countP (·.lm)=_;rw [List.countP_append,List.countP_singleton];split <;> omega
theorem lvl_mono {T:List Fn} {i j:Nat} (h:i≤j):lvl T i≤lvl T j:=by
 unfold lvl;have:(T.take i).countP (·.lm)≤(T.take j).countP (·.lm):=(List.take_sublist_take_left h).countP_le;omega
theorem lvl_32 {T:List Fn} {n:Nat}:32≤lvl T n:=by unfold lvl;omega
noncomputable def lkN (T:List Fn) (cons:List (Str×D)) (cls:Nat→Value) (clsN:List Str) (n:Nat):Lk where
 T:=T
 cons:=cons
 c:=callN (fun x=>((cons[x]?).map (·.2)).getD .none) T n
 lev:=lvl T n
 cls:=cls
 clsN:=clsN
theorem lkN_lev {T:List Fn} {cons:List (Str×D)} {cls:Nat→Value} {clsN:List Str} {n:Nat}:(lkN T cons cls clsN n).lev=lvl T n:=rfl
def dvB:He.Dv→D→Bool
 | .non,.none=>true
 | .bl a,.bool b=>a==b
 | .int i,.int j=>i==j
 | .str x,.str y=>x==y
 | _,_=>false
def dvsB:List He.Dv→List D→Bool
 | [],[]=>true
 | v::vs,d::ds=>dvB v d&&dvsB vs ds
 | _,_=>false
theorem dvB_ok {K:PySem.W.Frag} {H:Hp} {v:He.Dv} {d:D} (h:dvB v d=true):Dp K H (v.v K) d:=by
 cases v <;> cases d <;> first
  | (cases h;done)
  | skip
 ·exact .non
 ·rw [←eq_of_beq (show (_==_)=true from h)];exact .bl _
 ·rw [←eq_of_beq (show (_==_)=true from h)];exact .int _
 ·rw [←str_beq (show (_==_)=true from h)];exact .str _
theorem dvsB_ok {K:PySem.W.Frag} {H:Hp}:∀{vs:List He.Dv} {ds:List D},dvsB vs ds=true→DpAll K H (vs.map (He.Dv.v K)) ds
 | [],[],_ => .nil
 | [],_::_,h=>by cases h
 | _::_,[],h=>by cases h
 | v::vs,d::ds,h=>by
  obtain ⟨h1,h2⟩:=and2 (show (dvB v d&&dvsB vs ds)=true from h);exact .cons (dvB_ok h1) (dvsB_ok h2)
def scB (N ps:List Str) (sc:Scope):Bool :=
 sc.kind == .function && !sc.isCoroutine && !sc.isGenerator&&decide N.Nodup&&N.take ps.length==ps &&
 ps.all (fun x=>sc.names.lookup x==some .local||sc.names.lookup x==some .cell)&&sc.names.all fun y=>y.2 != .free
theorem scB_ok {N ps:List Str} {sc:Scope} (h:scB N ps sc=true):FnScope N ps sc:=by
 unfold scB at h;obtain ⟨h,h7⟩:=and2 h;obtain ⟨h,h6⟩:=and2 h;obtain ⟨h,h5⟩:=and2 h;obtain ⟨h,h4⟩:=and2 h;obtain ⟨h,h3⟩:=and2 h;obtain ⟨h1,h2⟩:=and2 h;refine ⟨eq_of_beq h1,not_false h2,not_false h3,of_decide_eq_true h4,eq_of_beq h5,fun x hx=>?_,fun y hy e=>?_⟩
 ·have z:=List.all_eq_true.mp h6 x hx;rcases Bool.or_eq_true_iff.mp z with z | z
  ·exact .inl (eq_of_beq z)
  ·exact .inr (eq_of_beq z)
 ·have z:=List.all_eq_true.mp h7 y hy;rw [e] at z;cases z
def mkS (b:Bool) (ns:List (Str×NameKind)):List (Str×NameKind):=if b then (mkN,.globalExplicit)::ns else ns
def rfFn (g:Fn) (d:He.DefD):Bool:=match g.body with
 | .rf _ _ _=>g.dfl.isEmpty&&d.qual==d.name&&d.name==g.name&&g.ps.length==1
 | _=>true
def ckFn (T:List Fn) (cs:List (Str×D)) (cl:List Str) (g:Fn) (d:He.DefD):Bool :=
 true&&d.at_==(g.name,none)&&scB g.N g.ps d.scope&&dvsB d.dfl g.dfl&&d.kwd.isEmpty&&ckSs T cs cl g.N (mkS g.lm d.scope.names) g.body d.body&&(rfFn g d && !isMk d.scope.names)
structure BindF (g:Fn) (d:He.DefD):Prop where
 no:g.dfl=[]→∀(kV doc pm:Value) (an:Option Addr) (cdv ct:Value) (us:List Value),us.length=g.ps.length→bindArgs (PySem.W.fnOf d.name d.qual d.params d.body d.scope .none kV doc pm an cdv ct) ⟨us,[]⟩=pure (g.ps.zip us)
 some_:g.dfl≠[]→∀m,m≤g.dfl.length→m≤g.ps.length∧∀(T:Addr) (kV doc pm:Value) (an:Option Addr) (cdv ct:Value) (us its:List Value),us.length=g.ps.length-m→its.length=g.dfl.length →
  ∃k,bindArgs (PySem.W.fnOf d.name d.qual d.params d.body d.scope (.ref T) kV doc pm an cdv ct) ⟨us,[]⟩=seqItems? (.ref T) >>= k∧k (some its.toArray)=pure (g.ps.zip (us++its.drop (g.dfl.length-m)))
theorem dvsB_len:∀{vs:List He.Dv} {ds:List D},dvsB vs ds=true→vs.length=ds.length
 | [],[],_=>rfl
 | [],_::_,h=>by cases h
 | _::_,[],h=>by cases h
 | v::vs,d::ds,h=>congrArg Nat.succ (dvsB_len (and2 (show (dvB v d&&dvsB vs ds)=true from h)).2)
theorem binds_of {K:PySem.W.Frag} {g:Fn} {d:He.DefD} {fd:FuncData} {f:Addr} (F:FunD K d.name d.qual d.params d.body d.scope (d.dvs K) (d.kws K) f fd) (b:BindF g d) (hk:d.kwd=[]) (hd:dvsB d.dfl g.dfl=true) {m:Nat} (hm:m≤g.dfl.length) :
  ∃(dvs:List V) (ds:List Value),Vals dvs ds∧(∀H,DpAll K H dvs (g.dv m))∧Binds K fd g.ps ds:=by
 have hl:=dvsB_len hd;by_cases h0:g.dfl=[]
 ·have e1:d.dvs K=[]:=by
   unfold He.DefD.dvs;rw [h0] at hl;rw [List.eq_nil_of_length_eq_zero hl];rfl
  have e2:d.kws K=[]:=by unfold He.DefD.kws;rw [hk];rfl
  rw [e1,e2] at F;refine ⟨[],[],.nil,fun H=>?_,F.bindsN (b.no h0)⟩;unfold Fn.dv;rw [h0,List.drop_nil];exact .nil
 ·obtain ⟨b1,b2⟩:=b.some_ h0 m hm;have hne:d.dvs K≠[]:=fun z=>h0 (List.eq_nil_of_length_eq_zero (by rw [←hl];unfold He.DefD.dvs at z;simpa using congrArg List.length z));have hlen:(d.dvs K).length=g.dfl.length:=by unfold He.DefD.dvs;rw [List.length_map,hl]
  obtain ⟨ds,hv,hb⟩:=F.binds1 (ps:=g.ps) (g.ps.length-m) (g.dfl.length-m) hne (by rw [hlen];omega) fun T kV doc pm an cdv ct us its h1 h2=>b2 T kV doc pm an cdv ct us its h1 (h2.trans hlen);refine ⟨_,ds,hv,fun H=>?_,hb⟩;unfold Fn.dv;exact (dvsB_ok hd).drop _
theorem args_at {K:PySem.W.Frag} {f H:Hp}:∀{vs:List V} {ss:List Sl} {i:Nat} {s:Sl},ArgsOk K f H vs ss→ss[i]?=some s→∃v,vs[i]?=some v∧ArgOk K f H v s
 | _,_,_,_,.nil,h=>by simp at h
 | _,_,0,_,.cons a _,h=>by
  have e:=Option.some.inj h;subst e;exact ⟨_,rfl,a⟩
 | _,_,i+1,_,.cons _ t,h=>args_at (i:=i) t h
theorem mt_start {K:PySem.W.Frag} {f H:Hp} {N:List Str} {vs:List V} {ss:List Sl} (sm:Same f H) (ct:LamX.Tabs CdT.T H∧∀b ps,f b≠some (.tbl ps)) (h:ArgsOk K f H vs ss):Mt K f H f H (L2.start N vs) (ss++List.replicate (N.length-ss.length) .un):=by
 have hl:=h.length;have now:∀(i:Nat) (t:Sl),(ss++List.replicate (N.length-ss.length) Sl.un)[i]?=some t→t.mu=true→False:=fun i t e ht=>by
  by_cases hi:i<ss.length
  ·rw [List.getElem?_append_left hi] at e;obtain ⟨v,_,a⟩:=args_at h e;cases a <;> cases ht
  ·rw [List.getElem?_append_right (by omega),List.getElem?_replicate] at e;split at e
   ·cases e;cases ht
   ·cases e
 refine ⟨Po.refl sm,ct,?_,fun i s e=>?_,fun i j p s t e _ ht _ _ _=>(now i s e ht).elim⟩
 ·unfold L2.start;simp [hl]
 ·unfold L2.start;by_cases hi:i<ss.length
  ·rw [List.getElem?_append_left hi] at e;obtain ⟨v,hv,a⟩:=args_at h e;refine ⟨some v,?_,?_⟩
   ·rw [List.getElem?_append_left (by rw [List.length_map];omega),List.getElem?_map,hv];rfl
   ·cases a with
    | va h=>exact .va h
    | rd h1 h2=>exact .rd h1 h2
    | er h=>exact .er h
    | fn=>exact .fn
  ·rw [List.getElem?_append_right (by omega),List.getElem?_replicate] at e;split at e
   ·rename_i hlt;cases e;refine ⟨none,?_,.un none⟩;rw [List.getElem?_append_right (by rw [List.length_map];omega),List.getElem?_replicate,List.length_map,if_pos (by omega)]
   ·cases e
theorem mt_startS [StA] {K:PySem.W.Frag} {f H:Hp} {N:List Str} {p:Addr} {us ws:List V} {ds:List D} {ss:List Sl} (hs:StA.p=some p) (sm:Same f H) (ct:LamX.Tabs CdT.T H∧∀b ps,f b≠some (.tbl ps)) (hf:f p=none) (hH:H p=some (.lst us)) (hu:DpAll K f us ds) (h:ArgsOk K f (era p H) ws ss) :
  Mt K f (era p H) f H (L2.start N (.ref p::ws)) (.st ds::ss++List.replicate (N.length-(ss.length+1)) .un):=by
 have hl:=h.length;have e0:∀(i:Nat) (t:Sl),(.st ds::ss++List.replicate (N.length-(ss.length+1)) Sl.un)[i]?=some t→(i=0∧t = .st ds)∨(∃k v,i=k+1∧ws[k]?=some v∧ss[k]?=some t∧ArgOk K f (era p H) v t)∨(t = .un∧ss.length+1≤i∧i<ss.length+1+(N.length-(ss.length+1))):=fun i t e=>by
  cases i with
  | zero=>exact .inl ⟨rfl,(Option.some.inj e).symm⟩
  | succ k =>
   have e:(ss++List.replicate (N.length-(ss.length+1)) Sl.un)[k]?=some t:=e;by_cases hi:k<ss.length
   ·rw [List.getElem?_append_left hi] at e;obtain ⟨v,hv,a⟩:=args_at h e;exact .inr (.inl ⟨k,v,rfl,hv,e,a⟩)
   ·rw [List.getElem?_append_right (by omega),List.getElem?_replicate] at e;split at e
    ·cases e;exact .inr (.inr ⟨rfl,by omega,by omega⟩)
    ·cases e
 have s0:(L2.start N (.ref p::ws))[(0:Nat)]?=some (some (.ref p)):=rfl;have sk:∀k v,ws[k]?=some v→(L2.start N (.ref p::ws))[k+1]?=some (some v):=fun k v hv=>by
  have hk:k<ws.length:=(List.getElem?_eq_some_iff.mp hv).1;unfold L2.start;rw [List.getElem?_append_left (by rw [List.length_map,List.length_cons];omega),List.getElem?_map,List.getElem?_cons_succ,hv];rfl
 refine ⟨Po.era sm hf hH,⟨tabs_era ct.1 hH,ct.2⟩,?_,fun i s e=>?_,fun i j q s t e1 e2 h1 h2 a b=>?_⟩
 ·unfold L2.start;simp [hl]
 ·rcases e0 i s e with ⟨rfl,rfl⟩ | ⟨k,v,rfl,hv,_,a⟩ | ⟨rfl,h1,h2⟩
  ·exact ⟨_,s0,.st hs nw_era hf hH hu⟩
  ·refine ⟨_,sk k v hv,?_⟩;cases a with
   | va h=>exact .va h
   | rd h1 h2=>exact .rd h1 h2
   | er h=>exact .er (era_some h).2
   | fn=>exact .fn
  ·refine ⟨none,?_,.un none⟩;unfold L2.start;rw [List.getElem?_append_right (by rw [List.length_map,List.length_cons];omega),List.getElem?_replicate,List.length_map,List.length_cons,if_pos (by omega)]
 ·have i0:i=0:=by
   rcases e0 i s e1 with ⟨rfl,rfl⟩ | ⟨k,v,rfl,hv,_,ar⟩ | ⟨rfl,_,_⟩
   ·rfl
   ·cases ar <;> cases h1
   ·cases h1
  subst i0;rw [s0] at a;cases a;rcases e0 j t e2 with ⟨rfl,_⟩ | ⟨k,v,rfl,hv,_,ar⟩ | ⟨rfl,_,_⟩
  ·rfl
  ·exfalso
   rw [sk k v hv] at b;cases b;cases ar with
   | er h=>rw [era_at] at h;cases h
   | va h=>cases h2
   | rd h1 h3=>cases h2
   | fn=>cases h2
  ·cases h2
theorem rfN_args {K:PySem.W.Frag} {f H:Hp} {b:Ss} {vs:List V} {ss:List Sl} (h:ArgsOk K f H vs ss):rfN b ss=none:=by
 cases h with
 | nil=>cases b <;> rfl
 | cons a t =>
  cases a <;> cases b <;> rfl
theorem rfN_un {K:PySem.W.Frag} {f H:Hp} {b:Ss} {vs:List V} {ss:List Sl} (h:ArgsOk K f H vs ss):rfN b (.un::ss)=none:=by
 cases h with
 | nil=>cases b <;> rfl
 | cons a t =>
  cases a <;> cases b <;> rfl
theorem callN_no {G:Nat→D} {T:List Fn} {j:Nat} {ss:List Sl}:∀{n:Nat},n≤j→callN G T n j ss = .no
 | 0,_=>rfl
 | k+1,h=>by
  conv=>lhs;unfold callN
  rw [if_neg (by omega)];exact callN_no (by omega)
theorem callN_le {G:Nat→D} {T:List Fn} {j:Nat} {ss:List Sl}:∀{k:Nat},j<k→callN G T k j ss=callN G T (j+1) j ss
 | 0,h=>by omega
 | k+1,h=>by
  by_cases e:j=k
  ·rw [e]
  ·conv=>lhs;unfold callN
   rw [if_neg e];exact callN_le (by omega)
section
variable {T:List Fn} {cons:List (Str×D)} {cls:Nat→Value} {clsN:List Str} {P:Program} {w:World} {K:PySem.W.Frag} {mg:Str→Option Value} {base:Heap}
structure TbOk (T:List Fn) (cons:List (Str×D)) (cls:Nat→Value) (clsN:List Str) (ds:List He.DefD) (K:PySem.W.Frag) (mg:Str→Option Value):Prop where
 fn:∀(j:Nat) (g:Fn),T[j]?=some g→∃d,ds[j]?=some d∧ckFn T cons clsN g d=true∧BindF g d
 df:∀(j:Nat) (d:He.DefD),ds[j]?=some d→(∃fd,FunD K d.name d.qual d.params d.body d.scope (d.dvs K) (d.kws K) (He.fAd K d.at_) fd)∧mg d.at_.1=some (.ref (He.ga K d.at_.1))
 con:∀(x:Nat) (n:Str) (d:D),cons[x]?=some (n,d)→∃(v:V) (u:Value),mg n=some u∧RelV v u∧∀H,Dp K H v d
 blt:∀n∈blts,mg n=none
 see:seeB K=true
 ga:∀(k:Nat) (n:Str),clsN[k]?=some n→n ≠ "" → cls k = .ref (He.ga K n)∧errN[k]?=some n
 er:erB K clsN=true
 exc:∀(k:Nat) (n:Str),clsN[k]?=some n→n ≠ "" → ∃C:Addr,cls k = .ref C∧mg n=some (.ref C)∧PySem.W.excIn K C [.type "ValueError", .type "Exception", .type "BaseException", .type "object"] "ValueError.__new__" = true ∧
  PySem.W.keepIn K (.ref C)=true∧PySem.W.subIn K (.ref C) (.type "BaseException")=some true∧PySem.W.typeIn K (.ref C)=some (.type "type")
theorem nm_body {CX':CXT} {N:List Str} {qual:Str} {scope:Scope} {f:Addr} {cd:Value} {A:Around} {outer:List Env} {s:Shared} {H:Hp} {E:XK}:∀x k,scope.names.lookup x=some k→NmOk (cxOf CX' P w K mg base N qual scope f cd A outer s H E) x k:=by
 intro x k h;cases k with
 | «local» => exact h
 | cell=>exact ⟨h,rfl⟩
 | free=>exact .inr h
 | globalImplicit=>exact h
 | globalExplicit=>trivial
theorem nm_mk {CX':CXT} {N:List Str} {qual:Str} {scope:Scope} {f:Addr} {cd:Value} {A:Around} {outer:List Env} {s:Shared} {H:Hp} {E:XK} {b:Bool}:∀x k,(mkS b scope.names).lookup x=some k→NmOk (cxOf CX' P w K mg base N qual scope f cd A outer s H E) x k:=by
 intro x k h;unfold mkS at h;split at h
 ·rw [List.lookup_cons] at h;split at h
  ·cases h;trivial
  ·exact nm_body x k h
 ·exact nm_body x k h
theorem mkS_mk {b:Bool} {sc:Scope} (hs:isMk sc.names=false) (h:isMk (mkS b sc.names)=true):b=true:=by
 cases b with
 | true=>rfl
 | false =>
  have h:isMk sc.names=true:=h;rw [hs] at h;cases h
def lamQ (q:Str):Str:=(q++(".<locals>." : Str))++("<lambda>" : Str)
def LmOk (T:List Fn) (ds:List He.DefD) (K:PySem.W.Frag) (mg:Str→Option Value) (base:Heap):Prop :=
 ∀(j:Nat) (g:Fn) (d:He.DefD),T[j]?=some g→ds[j]?=some d→g.lm=true→∀(oc:Value) (od:Option Addr) (fd:FuncData) (osl:Array (Option Value)),K.lookup (He.fAd K d.at_)=some ⟨oc,od,.func fd,osl⟩ →
  ∃c P,fd.code = .ref c∧LamX.TabB base mg c P∧(P,lamQ d.qual)∈CdT.T∧∀p∈CdT.T,p.1=P→p.2=lamQ d.qual
theorem mkOk_cx {L:Lk} {CX':CXT} {N:List Str} {q:Str} {scope:Scope} {f c P':Addr} {A:Around} {outer:List Env} {s:Shared} {H:Hp} {E:XK} (hr:Room (L.lev+2) (A.deeper (envOfC q scope s.heap.objs.size f (.ref c)))) (h32:32≤L.lev)
  (e2:LamX.TabB base mg c P') (e3:(P',lamQ q)∈CdT.T) (e4:∀p∈CdT.T,p.1=P'→p.2=lamQ q):LmMk L (cxOf CX' P w K mg base N q scope f (.ref c) A outer s H E):=⟨hr,h32,c,P',e2,rfl,e3,e4⟩
theorem pyr_body {CX':CXT} {N ps:List Str} {qual:Str} {scope:Scope} {f:Addr} {cd:Value} {A:Around} {outer:List Env} {s:Shared} {H:Hp} {E:XK} {n:Nat} (h32:32≤n) (hk:seeB K=true) (ht:P.given.tree=none) (S:FnScope N ps scope)
  (hr:Room n (A.deeper (envOfC qual scope s.heap.objs.size f cd))):PyR (cxOf CX' P w K mg base N qual scope f cd A outer s H E):=by
 intro hfr M s' hk';have hN:s'.heap.NoSeer:=(seeB_ok hk M).keeps hk';refine PylongRoom.of (M.nolimit.keeps hk') ?_ (SeerAt.of hN ht hfr S.gen S.co rfl rfl);have z:=hr.dp;show (A.deeper (envOfC qual scope s.heap.objs.size f cd)).depth+100<recursionLimit;omega
def stOut (K:PySem.W.Frag) (f H:Hp) (p:Addr) (ds:List D) (r:R (D×Bool)) (Q:VK) (E:XK) (cls:Nat→Value):Prop:=match r with
 | .ok (.tuple [.list ds',d],_)=>∀v f' H' us',Po f (era p H) f' H'→f' p=none→H' p=some (.lst us')→DpAll K f' us' ds'→Dp K f' v d→Q v H'
 | .ex k=>∀f' H' us',Po f (era p H) f' H'→f' p=none→H' p=some (.lst us')→DpAll K f' us' ds→E (cls k) none H'
 | _=>False
theorem fn_step {ds:List He.DefD} {j:Nat} {g:Fn} {d:He.DefD} {f:Addr} {fd:FuncData} (hlm:LmOk T ds K mg base) (hd:ds[j]?=some d) (hfa:He.fAd K d.at_=f) (hg:T[j]?=some g) (hc:ckFn T cons clsN g d=true) (F:FunD K d.name d.qual d.params d.body d.scope (d.dvs K) (d.kws K) f fd) (ih:LkOk (lkN T cons cls clsN j) P w K mg base) :
  FnOk P w K mg base (L2.CX P w) (lvl T (j+1)) f fd g.ps ((lkN T cons cls clsN (j+1)).sp K j):=by
 unfold ckFn at hc;obtain ⟨hc,c7⟩:=and2 hc;obtain ⟨hc,c6⟩:=and2 hc;obtain ⟨hc,c5⟩:=and2 hc;obtain ⟨hc,c4⟩:=and2 hc;obtain ⟨hc,c3⟩:=and2 hc;have nmk:isMk d.scope.names=false:=not_false (and2 c7).2;have S:=scB_ok c3;have spE:∀{f H:Hp} {vs:List V} {ss:List Sl} {Q:VK} {E:XK},ArgsOk K f H vs ss→((match (lkN T cons cls clsN (j+1)).c j ss with
  | .ok p=>Ac K f H Q p
  | .ex k=>∀f' H',Po f H f' H'→E (cls k) none H'
  | .no=>False) ∨
  (∃g ds r,T[j]?=some g∧ss.length=g.ps.length∧(lkN T cons cls clsN (j+1)).c j (.un::ss) = .ok (.tuple (.list ds::r),true)∧∀v f' H',Po f H f' H'→VfT K H f' H' v ds r→Q v H'))→ss.length=g.ps.length ∧
  ((match (match evSs (lkN T cons cls clsN j).G (lkN T cons cls clsN j).c (dflT T) g.body (ss++List.replicate (g.N.length-ss.length) .un) with
    | .ok (.rt d fr)=>R.ok (d,fr)
    | .ok (.nx _) => .ok (.none,false)
    | .ok (.ex c _) => .ex c
    | _ => .no) with
  | .ok p=>Ac K f H Q p
  | .ex k=>∀f' H',Po f H f' H'→E (cls k) none H'
  | .no=>False)∨∃ds r,evSs (lkN T cons cls clsN j).G (lkN T cons cls clsN j).c (dflT T) g.body (ss++List.replicate (g.N.length-ss.length) .un) = .ok (.rtT ds r)∧∀v f' H',Po f H f' H'→VfT K H f' H' v ds r→Q v H'):=fun {f H vs ss Q E} ha h=>by
  rcases h with h | ⟨g',ds,r,hg',hl,he,hq⟩
  ·change (match callN (lkN T cons cls clsN j).G T (j+1) j ss with
    | .ok p=>Ac K f H Q p
    | .ex k=>∀f' H',Po f H f' H'→E (cls k) none H'
    | .no=>False) at h
   unfold callN at h;rw [if_pos rfl,hg] at h;by_cases hl:ss.length=g.ps.length
   ·refine ⟨hl,.inl ?_⟩;simp only [if_pos hl] at h;cases ha with
    | nil=>exact h
    | cons a t=>cases a <;> exact h
   ·exfalso
    simp only [if_neg hl,rfN_args ha] at h;cases ha with
    | nil=>exact h
    | cons a _=>cases a <;> exact h
  ·rw [hg] at hg';cases hg';refine ⟨hl,.inr ⟨ds,r,?_,hq⟩⟩;change callN (lkN T cons cls clsN j).G T (j+1) j (.un::ss)=_ at he
   unfold callN at he;rw [if_pos rfl,hg] at he;have hn:¬(Sl.un::ss).length=g.ps.length:=by rw [List.length_cons];omega
   simp only [if_neg hn,rfN_un ha] at he;change (match evSs (lkN T cons cls clsN j).G (lkN T cons cls clsN j).c (dflT T) g.body (ss++List.replicate (g.N.length-ss.length) .un) with
    | .ok (.rtT ds r)=>R.ok (PyData.tuple (.list ds::r),true)
    | _ => .no)=_ at he
   cases ev:evSs (lkN T cons cls clsN j).G (lkN T cons cls clsN j).c (dflT T) g.body (ss++List.replicate (g.N.length-ss.length) .un) with
   | no=>rw [ev] at he;cases he
   | ex k=>rw [ev] at he;cases he
   | ok fl =>
    rw [ev] at he;cases fl <;> first
     | (cases he;done)
     | (cases he;rfl)
 have spS:∀{f H:Hp} {p:Addr} {ws:List V} {ds:List D} {ss:List Sl} {Q:VK} {E:XK},ArgsOk K f (era p H) ws ss→stOut K f H p ds ((lkN T cons cls clsN (j+1)).c j (.ow ds::ss)) Q E cls→(Sl.rd ds::ss).length=g.ps.length ∧
   stOut K f H p ds (stE ds (evSs (lkN T cons cls clsN j).G (lkN T cons cls clsN j).c (dflT T) g.body (.st ds::ss++List.replicate (g.N.length-(ss.length+1)) .un))) Q E cls:=fun {f H p ws ds ss Q E} ha h=>by
  change stOut K f H p ds (callN (lkN T cons cls clsN j).G T (j+1) j (.ow ds::ss)) Q E cls at h
  unfold callN at h;rw [if_pos rfl,hg] at h;by_cases hl:(Sl.ow ds::ss).length=g.ps.length
  ·refine ⟨hl,?_⟩;simp only [if_pos hl] at h;exact h
  ·exfalso
   simp only [if_neg hl] at h;have e:rfN g.body (.ow ds::ss)=none:=by
    unfold rfN;split
    ·rename_i e1 e2;cases e2
    ·rfl
   rw [e] at h;exact h
 obtain ⟨oc,od,dV,kV,doc,pm,an,cdv,ct,osl,rfl,lk,hcd,_,_⟩:=F.ex;have hlv:lvl T (j+1)=lvl T j+(if g.lm=true then 2 else 0)+1:=by rw [lvl_succ hg];omega
 rw [hlv];refine fn_of (CX:=L2.CX P w) (k:=lvl T j+(if g.lm=true then 2 else 0)) lk hcd S (fun vs H Q E hsp=>?_) fun A outer s H vs Q E hr2 hsp=>?_
 ·obtain ⟨f,ss,sm,ct,ha,hm⟩:=hsp;rw [ha.length];rcases hm with hm | hm | hm
  ·exact (spE ha (.inl hm)).1
  ·exact (spE (E:=E) ha (.inr hm)).1
  ·obtain ⟨p,us,ds,ws,ss',rfl,rfl,_,_,_,ha',hm⟩:=hm;exact (spS ha' hm).1
 ·obtain ⟨f,ss,sm,ct,ha,hm⟩:=hsp;have hr:=hr2.mono (show lvl T j≤lvl T j+(if g.lm=true then 2 else 0) by omega);have hrL:=hr2.mono (show (lkN T cons cls clsN j).lev≤lvl T j+(if g.lm=true then 2 else 0) by rw [lkN_lev];omega);have hm':=hm;rcases hm' with hm' | hm' | hm'
  ·have hm:=(spE ha (.inl hm')).2;refine ⟨dSs (lkN T cons cls clsN j) K (fun c dd _ H'=>E c dd H') g.body,?_,?_⟩
   ·refine sSs (L:=lkN T cons cls clsN j) g.body (N:=g.N) (sc:=mkS g.lm d.scope.names) (W:=fun c dd _ H'=>E c dd H') ⟨⟨ih,rfl,S.nd,S.kind,nm_mk,rfl,hrL,takes_of rfl rfl rfl rfl,pyr_body lvl_32 ih.see.1 ih.see.2 S hr,fun z=>?_⟩,passes_of rfl,rfl,rfl,rfl⟩ d.body c6;have hb:=mkS_mk nmk z;subst hfa;obtain ⟨c,P',e1,e2,e3,e4⟩:=hlm j g d hg hd hb _ _ _ _ lk;have e1':cdv = .ref c:=e1;subst e1';exact mkOk_cx (hr2.mono (show (lkN T cons cls clsN j).lev+2≤_ by rw [lkN_lev,if_pos hb];exact Nat.le_refl _)) lvl_32 e2 e3 e4
   ·refine ⟨f,H,f,_,mt_start sm ct ha,?_⟩;change OutS _ K _ f H f (evSs (lkN T cons cls clsN j).G (lkN T cons cls clsN j).c (dflT T) g.body (ss++List.replicate (g.N.length-ss.length) .un)) _
    rcases hm with hm | ⟨ds,r,ev,hq⟩
    ·cases ev:evSs (lkN T cons cls clsN j).G (lkN T cons cls clsN j).c (dflT T) g.body (ss++List.replicate (g.N.length-ss.length) .un) with
     | no=>rw [ev] at hm;exact hm.elim
     | ex k=>rw [ev] at hm;exact hm.elim
     | ok fl =>
      rw [ev] at hm;cases fl with
      | nx en=>exact fun σ' f' H' _ m'=>hm .non f' H' m'.po .non
      | bk en=>exact hm.elim
      | ct en=>exact hm.elim
      | rt dd fr=>exact fun v f' H' q hv=>hm v f' H' q hv
      | ex k en=>exact fun σ' f' H' _ m'=>hm f' H' m'.po
      | rtT ds r=>exact hm.elim
      | rtS ds r=>exact hm.elim
    ·rw [ev];exact hq
  ·have hm:=(spE (E:=E) ha (.inr hm')).2;refine ⟨dSs (lkN T cons cls clsN j) K (fun c dd _ H'=>E c dd H') g.body,?_,?_⟩
   ·refine sSs (L:=lkN T cons cls clsN j) g.body (N:=g.N) (sc:=mkS g.lm d.scope.names) (W:=fun c dd _ H'=>E c dd H') ⟨⟨ih,rfl,S.nd,S.kind,nm_mk,rfl,hrL,takes_of rfl rfl rfl rfl,pyr_body lvl_32 ih.see.1 ih.see.2 S hr,fun z=>?_⟩,passes_of rfl,rfl,rfl,rfl⟩ d.body c6;have hb:=mkS_mk nmk z;subst hfa;obtain ⟨c,P',e1,e2,e3,e4⟩:=hlm j g d hg hd hb _ _ _ _ lk;have e1':cdv = .ref c:=e1;subst e1';exact mkOk_cx (hr2.mono (show (lkN T cons cls clsN j).lev+2≤_ by rw [lkN_lev,if_pos hb];exact Nat.le_refl _)) lvl_32 e2 e3 e4
   ·refine ⟨f,H,f,_,mt_start sm ct ha,?_⟩;change OutS _ K _ f H f (evSs (lkN T cons cls clsN j).G (lkN T cons cls clsN j).c (dflT T) g.body (ss++List.replicate (g.N.length-ss.length) .un)) _
    rcases hm with hm | ⟨ds,r,ev,hq⟩
    ·cases ev:evSs (lkN T cons cls clsN j).G (lkN T cons cls clsN j).c (dflT T) g.body (ss++List.replicate (g.N.length-ss.length) .un) with
     | no=>rw [ev] at hm;exact hm.elim
     | ex k=>rw [ev] at hm;exact hm.elim
     | ok fl =>
      rw [ev] at hm;cases fl with
      | nx en=>exact fun σ' f' H' _ m'=>hm .non f' H' m'.po .non
      | bk en=>exact hm.elim
      | ct en=>exact hm.elim
      | rt dd fr=>exact fun v f' H' q hv=>hm v f' H' q hv
      | ex k en=>exact fun σ' f' H' _ m'=>hm f' H' m'.po
      | rtT ds r=>exact hm.elim
      | rtS ds r=>exact hm.elim
    ·rw [ev];exact hq
  ·obtain ⟨p,us,ds,ws,ss',rfl,rfl,hf,hH,hu,ha',hm⟩:=hm';have hm:=(spS ha' hm).2;letI:StA:=⟨some p⟩
   refine ⟨dSs (lkN T cons cls clsN j) K (fun c dd _ H'=>E c dd H') g.body,?_,?_⟩
   ·refine sSs (L:=lkN T cons cls clsN j) g.body (N:=g.N) (sc:=mkS g.lm d.scope.names) (W:=fun c dd _ H'=>E c dd H') ⟨⟨ih,rfl,S.nd,S.kind,nm_mk,rfl,hrL,takes_of rfl rfl rfl rfl,pyr_body lvl_32 ih.see.1 ih.see.2 S hr,fun z=>?_⟩,passes_of rfl,rfl,rfl,rfl⟩ d.body c6;have hb:=mkS_mk nmk z;subst hfa;obtain ⟨c,P',e1,e2,e3,e4⟩:=hlm j g d hg hd hb _ _ _ _ lk;have e1':cdv = .ref c:=e1;subst e1';exact mkOk_cx (hr2.mono (show (lkN T cons cls clsN j).lev+2≤_ by rw [lkN_lev,if_pos hb];exact Nat.le_refl _)) lvl_32 e2 e3 e4
   ·refine ⟨f,era p H,f,_,mt_startS rfl sm ct hf hH hu ha',?_⟩;change OutS _ K _ f (era p H) f (evSs (lkN T cons cls clsN j).G (lkN T cons cls clsN j).c (dflT T) g.body (.st ds::ss'++List.replicate (g.N.length-(ss'.length+1)) .un)) _
    cases ev:evSs (lkN T cons cls clsN j).G (lkN T cons cls clsN j).c (dflT T) g.body (.st ds::ss'++List.replicate (g.N.length-(ss'.length+1)) .un) with
    | no=>rw [ev] at hm;exact hm.elim
    | ex k=>rw [ev] at hm;exact hm.elim
    | ok fl =>
     rw [ev] at hm;cases fl with
     | bk en=>exact hm.elim
     | ct en=>exact hm.elim
     | rt dd fr=>exact hm.elim
     | rtT ds r=>exact hm.elim
     | rtS d' ds' =>
      intro v f' H' p' us' hs q hf' hH' hu' hv;cases (show some p=some p' from hs);exact hm v f' H' us' q hf' hH' hu' hv
     | nx en =>
      intro σ' f' H' s' m';have hm:stOut K f H p ds (match en[(0:Nat)]? with
       | some (.st ds')=>R.ok (PyData.tuple [.list ds',.none],false)
       | _ => .no) Q E cls:=hm
      cases e:en[(0:Nat)]? with
      | none=>rw [e] at hm;exact hm.elim
      | some sl =>
       rw [e] at hm;cases sl with
       | st ds' =>
        obtain ⟨p',us',_,hs,_,hf',hH',hu'⟩:=m'.st e;cases (show some p=some p' from hs);exact hm .non f' H' us' m'.po hf' hH' hu' .non
       | _=>exact hm.elim
     | ex k en =>
      intro σ' f' H' s' m';have hm:stOut K f H p ds (open Classical in if en[(0:Nat)]?=some (.st ds) then R.ex k else .no) Q E cls:=hm;by_cases e:en[(0:Nat)]?=some (.st ds)
      ·rw [if_pos e] at hm;obtain ⟨p',us',_,hs,_,hf',hH',hu'⟩:=m'.st e;cases (show some p=some p' from hs);exact hm f' H' us' m'.po hf' hH' hu'
      ·rw [if_neg e] at hm;exact hm.elim
theorem rest_w {n j h i:Nat} {g:Fn} {r:Ss} {sc:Scope} {a:Str} {rest:List Stmt} (ih:∀m,m<n→LkOk (lkN T cons cls clsN m) P w K mg base) (hg:T[j]?=some g) (hb:g.body = .rf h i r) (hp:g.ps=[a])
  (hc:ckSs T cons clsN g.N sc.names r rest=true) (hN:i<g.N.length):RestW P w K mg base (lkN T cons cls clsN n).lev g.N sc.names i rest fun s=>(lkN T cons cls clsN n).c j [.un,.un,s]:=by
 intro Y x1;obtain ⟨eP,ew,eK,em,eb,_⟩:=id x1;subst eP ew eK em eb;by_cases hj:j<n
 ·have lk:=ih j hj;have xc:XC (lkN T cons cls clsN j) g.N sc.names W0 Y:=x1.xc lk (by rw [lkN_lev,lkN_lev];exact lvl_mono (Nat.le_of_lt hj));refine ⟨_,sSs (L:=lkN T cons cls clsN j) r ⟨xc,x1.hp,x1.st,x1.fr,x1.ex⟩ rest hc,fun s v σ f H Q sm ct ha hs hl h1 hm=>?_⟩;refine ⟨f,H,f,(List.replicate g.N.length .un).set i s,⟨Po.refl sm,ct,by rw [List.length_set,List.length_replicate,hl],fun k t e=>?_,fun k l p t t' e _ hmu _ _ _=>?_⟩,?_⟩
  ·rw [List.getElem?_set] at e;split at e
   ·rename_i hk;subst hk;split at e
    ·cases e;refine ⟨_,h1,?_⟩;rcases hs with ⟨k,rfl⟩ | rfl
     ·cases ha with
      | er hH=>exact .er hH
     ·cases ha with
      | va h=>exact .va h
    ·cases e
   ·rw [List.getElem?_replicate] at e;split at e
    ·cases e;exact ⟨σ[k]'(by omega),List.getElem?_eq_getElem (by omega),.un _⟩
    ·cases e
  ·exfalso
   rw [List.getElem?_set] at e;split at e
   ·split at e
    ·cases e;rcases hs with ⟨k,rfl⟩ | rfl <;> cases hmu
    ·cases e
   ·rw [List.getElem?_replicate] at e;split at e
    ·cases e;cases hmu
    ·cases e
  ·change OutS _ Y.K _ f H f (evSs (lkN T cons cls clsN j).G (lkN T cons cls clsN j).c (dflT T) r ((List.replicate g.N.length .un).set i s)) _
   have hm:(match callN (lkN T cons cls clsN j).G T n j [.un,.un,s] with
    | .ok p=>Ac Y.K f H Q p
    | _=>False):=hm
   rw [callN_le hj] at hm;unfold callN at hm;rw [if_pos rfl,hg] at hm;have h3:¬[Sl.un,Sl.un,s].length=g.ps.length:=by rw [hp];simp
   have h4:rfN g.body [Sl.un,Sl.un,s]=some (i,r,s):=by rw [hb];rfl
   simp only [if_neg h3,h4] at hm;have hm:(match (match evSs (lkN T cons cls clsN j).G (lkN T cons cls clsN j).c (dflT T) r ((List.replicate g.N.length .un).set i s) with
    | .ok (.rt d fr)=>R.ok (d,fr)
    | .ok (.nx _) => .ok (.none,false)
    | .ok (.ex c _) => .ex c
    | _ => .no) with
    | .ok p=>Ac Y.K f H Q p
    | _=>False):=hm
   cases ev:evSs (lkN T cons cls clsN j).G (lkN T cons cls clsN j).c (dflT T) r ((List.replicate g.N.length .un).set i s) with
   | no=>rw [ev] at hm;exact hm.elim
   | ex k=>rw [ev] at hm;exact hm.elim
   | ok fl =>
    rw [ev] at hm;cases fl with
    | nx en=>exact fun σ' f' H' _ m'=>hm .non f' H' m'.po .non
    | rt dd fr=>exact fun v f' H' q hv=>hm v f' H' q hv
    | _=>exact hm.elim
 ·refine ⟨_,pss_never,fun s v σ f H Q sm ct ha hs hl h1 hm=>?_⟩;have hm:(match callN (lkN T cons cls clsN n).G T n j [.un,.un,s] with
    | .ok p=>Ac Y.K f H Q p
    | _=>False):=hm
  rw [callN_no (by omega)] at hm;exact hm.elim
theorem rf_of {ds:List He.DefD} (t:TbOk T cons cls clsN ds K mg) {n:Nat} (ih:∀m,m<n→LkOk (lkN T cons cls clsN m) P w K mg base) {j h i:Nat} {r:Ss} {g:Fn} (hg:T[j]?=some g) (hb:g.body = .rf h i r) :
  ∃(fa:Addr) (params:Arguments) (s1 s2:Stmt) (rest:List Stmt) (scope:Scope) (a:Str) (oc:Value) (od:Option Addr) (dV kV doc pm:Value) (an:Option Addr) (cdv ct:Value) (osl:Array (Option Value)),
  mg g.name=some (.ref fa)∧PySem.W.keepIn K (.ref fa)=true∧K.lookup fa=some ⟨oc,od,.func (PySem.W.fnOf g.name g.name params (s1::s2::rest) scope dV kV doc pm an cdv ct),osl⟩∧PySem.W.codeIn K cdv g.name=true ∧
  g.ps=[a]∧Binds K (PySem.W.fnOf g.name g.name params (s1::s2::rest) scope dV kV doc pm an cdv ct) [a] []∧FnScope g.N [a] scope∧rfOk clsN g.N scope.names h i s1 s2=true ∧
  RestW P w K mg base (lkN T cons cls clsN n).lev g.N scope.names i rest fun s=>(lkN T cons cls clsN n).c j [.un,.un,s]:=by
 obtain ⟨d,hd,hc,hbf⟩:=t.fn _ g hg;unfold ckFn at hc;obtain ⟨hc,c7⟩:=and2 hc;obtain ⟨hc,c6⟩:=and2 hc;obtain ⟨hc,c5⟩:=and2 hc;obtain ⟨hc,c4⟩:=and2 hc;obtain ⟨hc,c3⟩:=and2 hc;obtain ⟨c1,c2⟩:=and2 hc;obtain ⟨⟨fd,F⟩,hmg⟩:=t.df _ d hd;have c2:=eq_of_beq c2;have S:=scB_ok c3;obtain ⟨c7,c8⟩:=and2 c7;unfold rfFn at c7;rw [hb] at c7 c6;obtain ⟨c7,z3⟩:=and2 c7;obtain ⟨c7,c1'⟩:=and2 c7;obtain ⟨z1,z2⟩:=and2 c7;have z1:=List.isEmpty_iff.mp z1;have z2:=str_beq z2;have c1:=str_beq c1';have z3:g.ps.length=1:=eq_of_beq z3;obtain ⟨a,ha⟩:=List.length_eq_one_iff.mp z3;have e1:d.dvs K=[]:=by
  have hl:=dvsB_len c4;unfold He.DefD.dvs;rw [z1] at hl;rw [List.eq_nil_of_length_eq_zero hl];rfl
 have e2:d.kws K=[]:=by unfold He.DefD.kws;rw [List.isEmpty_iff.mp c5];rfl
 rw [e1,e2] at F;have hB:=F.bindsN (hbf.no z1);obtain ⟨oc,od,dV,kV,doc,pm,an,cdv,ct,osl,rfl,lk,hcd,_,_⟩:=F.ex;rw [c2] at hmg;rw [ha] at hB S;have z4:d.qual=g.name:=by rw [z2,c1]
 obtain ⟨s1,s2,rest,eB,sc1,sc2⟩:∃s1 s2 rest,d.body=s1::s2::rest∧rfOk clsN g.N (mkS g.lm d.scope.names) h i s1 s2=true∧ckSs T cons clsN g.N (mkS g.lm d.scope.names) r rest=true:=by
  have c6:(match d.body with
   | s1::s2::rest=>rfOk clsN g.N (mkS g.lm d.scope.names) h i s1 s2&&ckSs T cons clsN g.N (mkS g.lm d.scope.names) r rest
   | _=>false)=true:=c6
  cases q:d.body with
  | nil=>rw [q] at c6;cases c6
  | cons s1 q1 =>
   cases q1 with
   | nil=>rw [q] at c6;cases c6
   | cons s2 rest =>
    rw [q] at c6;obtain ⟨k1,k2⟩:=and2 c6;exact ⟨s1,s2,rest,rfl,k1,k2⟩
 obtain ⟨x1,x2,x3,R⟩:=rfOk_h sc1;have lmf:mkS g.lm d.scope.names=d.scope.names:=by
  have q:=R.nmk;unfold mkS at q ⊢;split
  ·rename_i h;rw [if_pos h] at q;cases q
  ·rfl
 rw [lmf] at sc1 sc2;have hiN:i<g.N.length:=by
  have ne:=R.ne;unfold nmOk at ne;obtain ⟨ne,_⟩:=and2 ne;obtain ⟨ne,_⟩:=and2 ne;obtain ⟨ne,_⟩:=and2 ne;exact (List.getElem?_eq_some_iff.mp (eq_of_beq ne)).1
 rw [c1,z4,eB] at lk hB;rw [z4] at hcd;have ea:He.fAd K d.at_=He.ga K g.name:=by rw [c2];rfl
 exact ⟨_,d.params,s1,s2,rest,d.scope,a,oc,od,dV,kV,doc,pm,an,cdv,ct,osl,hmg,by rw [←ea];exact F.kp,by rw [←ea];exact lk,hcd,ha,hB,S,sc1,rest_w ih hg hb ha sc2 hiN⟩
theorem lk_step {ds:List He.DefD} (hlm:LmOk T ds K mg base) (t:TbOk T cons cls clsN ds K mg) {n:Nat} (ihs:∀m,m<n+1→LkOk (lkN T cons cls clsN m) P w K mg base):LkOk (lkN T cons cls clsN (n+1)) P w K mg base:=by
 have ih:=ihs n (Nat.lt_succ_self n);refine ⟨fun j g hg m hm=>?_,t.con,ih.fga,t.blt,ih.see,t.ga,t.er,t.exc,fun j h i r g hg hb=>rf_of t ihs hg hb⟩;obtain ⟨fa,fd0,dvs,vs0,h1,h2,h3,h4,h5,h6⟩:=ih.fn j g hg m hm;by_cases hj:j=n
 ·subst hj;obtain ⟨d,hd,hc,hb⟩:=t.fn _ g hg;have hcc:=hc;unfold ckFn at hc;obtain ⟨hc,c7⟩:=and2 hc;obtain ⟨hc,c6⟩:=and2 hc;obtain ⟨hc,c5⟩:=and2 hc;obtain ⟨hc,c4⟩:=and2 hc;obtain ⟨hc,c3⟩:=and2 hc;obtain ⟨c1,c2⟩:=and2 hc;obtain ⟨⟨fd,F⟩,hmg⟩:=t.df _ d hd;have c2:=eq_of_beq c2;have hk:d.kwd=[]:=List.isEmpty_iff.mp c5;obtain ⟨dvs,vs,hv,hdp,hbn⟩:=binds_of F hb hk c4 hm;have ea:He.fAd K d.at_=He.ga K g.name:=by rw [c2];rfl
  rw [c2] at hmg;rw [ea] at F;exact ⟨_,fd,dvs,vs,hmg,F.kp,fn_step hlm hd ea hg hcc F ih,hv,hdp,hbn⟩
 ·have ec:∀ss,(lkN T cons cls clsN (n+1)).c j ss=(lkN T cons cls clsN n).c j ss:=fun ss=>by
   show callN _ T (n+1) j ss=callN _ T n j ss;conv=>lhs;unfold callN
   rw [if_neg hj]
  refine ⟨fa,fd0,dvs,vs0,h1,h2,(h3.mono (lvl_mono (Nat.le_succ n))).imp fun vs H Q E ⟨f,ss,sm,ct,ha,hm⟩=>⟨f,ss,sm,ct,ha,?_⟩,h4,h5,h6⟩;rcases hm with hm | ⟨g',ds,r,e1,e2,e3,e4⟩ | ⟨p,us,ds,ws,ss',e1,e2,e3,e4,e5,e6,hm⟩
  ·rw [ec ss] at hm;exact .inl hm
  ·rw [ec (.un::ss)] at e3;exact .inr (.inl ⟨g',ds,r,e1,e2,e3,e4⟩)
  ·rw [ec (.ow ds::ss')] at hm;exact .inr (.inr ⟨p,us,ds,ws,ss',e1,e2,e3,e4,e5,e6,hm⟩)
theorem lk_zero {ds:List He.DefD} (hlm:LmOk T ds K mg base) (ht:P.given.tree=none) (t:TbOk T cons cls clsN ds K mg):LkOk (lkN T cons cls clsN 0) P w K mg base:=by
  refine ⟨fun j g hg m hm=>?_,t.con,fun j g hg=>?_,t.blt,⟨t.see,ht⟩,t.ga,t.er,t.exc,fun j h i r g hg hb=>rf_of t (fun m hm=>absurd hm (Nat.not_lt_zero m)) hg hb⟩;rotate_left
  ·obtain ⟨d,hd,hc,hb⟩:=t.fn _ g hg;unfold ckFn at hc;obtain ⟨hc,c7⟩:=and2 hc;obtain ⟨hc,c6⟩:=and2 hc;obtain ⟨hc,c5⟩:=and2 hc;obtain ⟨hc,c4⟩:=and2 hc;obtain ⟨hc,c3⟩:=and2 hc;obtain ⟨c1,c2⟩:=and2 hc;have z:=(t.df _ d hd).2;rw [eq_of_beq c2] at z;exact z
  obtain ⟨d,hd,hc,hb⟩:=t.fn _ g hg;unfold ckFn at hc;obtain ⟨hc,c7⟩:=and2 hc;obtain ⟨hc,c6⟩:=and2 hc;obtain ⟨hc,c5⟩:=and2 hc;obtain ⟨hc,c4⟩:=and2 hc;obtain ⟨hc,c3⟩:=and2 hc;obtain ⟨c1,c2⟩:=and2 hc;obtain ⟨⟨fd,F⟩,hmg⟩:=t.df _ d hd;have c2:=eq_of_beq c2;obtain ⟨dvs,vs,hv,hdp,hbn⟩:=binds_of F hb (List.isEmpty_iff.mp c5) c4 hm;have ea:He.fAd K d.at_=He.ga K g.name:=by rw [c2];rfl
  rw [c2] at hmg;rw [ea] at F;have no:∀vs H Q E,¬(lkN T cons cls clsN 0).sp K j vs H Q E:=fun vs H Q E ⟨f,ss,sm,ct,ha,hm⟩=>by
   rcases hm with hm | ⟨_,_,_,_,_,e,_⟩ | ⟨_,_,_,_,_,_,_,_,_,_,_,hm⟩
   ·exact hm
   ·cases e
   ·exact hm
  exact ⟨_,fd,dvs,vs,hmg,F.kp,⟨fun vs H Q E h=>(no _ _ _ _ h).elim,fun _ _ _ _ _ _ _ _ _ _ _ _ _ h=>(no _ _ _ _ h).elim⟩,hv,hdp,hbn⟩
theorem lk_upto {ds:List He.DefD} (hlm:LmOk T ds K mg base) (ht:P.given.tree=none) (t:TbOk T cons cls clsN ds K mg):∀n m,m<n+1→LkOk (lkN T cons cls clsN m) P w K mg base
 | 0,m,h=>by
  obtain rfl:m=0:=by omega
  exact lk_zero hlm ht t
 | n+1,m,h=>by
  by_cases e:m=n+1
  ·subst e;exact lk_step hlm t (lk_upto hlm ht t n)
  ·exact lk_upto hlm ht t n m (by omega)
theorem lk_all {ds:List He.DefD} (hlm:LmOk T ds K mg base) (ht:P.given.tree=none) (t:TbOk T cons cls clsN ds K mg) (n:Nat):LkOk (lkN T cons cls clsN n) P w K mg base:=lk_upto hlm ht t n n (Nat.lt_succ_self n)
end
end AW
namespace AW
open PySem PySem.Spec PyProof.Rows L2
variable [CdT]
mutual
def kB (K:PySem.W.Frag):D→Value→Bool
 | .none,u=>(match u with
  | .none=>true
  | _=>false)
 | .bool b,u=>(match u with
  | .bool c=>b==c
  | _=>false)
 | .int i,u=>(match u with
  | .int j _=>decide (i=j)
  | _=>false)
 | .str x,u=>(match u with
  | .str y _=>decide (x=y)
  | _=>false)
 | .tuple ds,u=>(match u with
  | .ref a=>(match K.lookup a with
   | some ⟨.type c,_,.seq its _,_⟩=>decide (c = "tuple")&&(decide (its.size≤sizeLine)&&ksB K ds its.toList)
   | _=>false)
  | _=>false)
 | _,_=>false
def ksB (K:PySem.W.Frag):List D→List Value→Bool
 | [],us=>us.isEmpty
 | d::ds,us=>(match us with
  | u::us=>kB K d u&&ksB K ds us
  | []=>false)
end
mutual
theorem kB_ok {K:PySem.W.Frag}:∀(d:D) (u:Value),kB K d u=true→∃v,RelV v u∧∀H,Dp K H v d
 | .none,u,h=>by
  cases u <;> first
   | (cases h;done)
   | exact ⟨.non,rfl,fun H => .non⟩
 | .bool b,u,h=>by
  cases u <;> first
   | (cases h;done)
   | skip
  case bool c =>
   have e:b=c:=eq_of_beq (show (b==c)=true from h);subst e;exact ⟨.bl b,rfl,fun H => .bl b⟩
 | .int i,u,h=>by
  cases u <;> first
   | (cases h;done)
   | skip
  case int j t =>
   have e:i=j:=of_decide_eq_true h;subst e;exact ⟨.int i,⟨t,rfl⟩,fun H => .int i⟩
 | .str x,u,h=>by
  cases u <;> first
   | (cases h;done)
   | skip
  case str y t =>
   have e:x=y:=of_decide_eq_true h;subst e;exact ⟨.str x,⟨t,rfl⟩,fun H => .str x⟩
 | .tuple ds,u,h=>by
  cases u <;> first
   | (cases h;done)
   | skip
  case ref a =>
   have h:(match K.lookup a with
    | some ⟨.type c,_,.seq its _,_⟩=>decide (c = "tuple")&&(decide (its.size≤sizeLine)&&ksB K ds its.toList)
    | _=>false)=true:=by
    unfold kB at h;exact h
   cases q:K.lookup a with
   | none =>
    rw [q] at h;cases h
   | some o =>
    obtain ⟨oc,od,dt,osl⟩:=o;rw [q] at h;cases oc with
    | type c =>
     cases dt with
     | seq its n =>
      obtain ⟨h1,h2⟩:=and2 (show (decide (c = "tuple")&&(decide (its.size≤sizeLine)&&ksB K ds its.toList))=true from h);obtain ⟨h3,h4⟩:=and2 h2;obtain ⟨vs,hv,hd⟩:=ksB_ok ds its.toList h4;exact ⟨.ref a,rfl,fun H => .tup (.inr ⟨_,its,n,q,congrArg Value.type (of_decide_eq_true h1),rfl,of_decide_eq_true h3,hv⟩) (hd H)⟩
     | _=>cases h
    | _=>cases dt <;> cases h
 | .list _,u,h=>by unfold kB at h;cases h
 | .dict _,u,h=>by unfold kB at h;cases h
theorem ksB_ok {K:PySem.W.Frag}:∀(ds:List D) (us:List Value),ksB K ds us=true→∃vs,Vals vs us∧∀H,DpAll K H vs ds
 | [],us,h=>by
  unfold ksB at h;rw [List.isEmpty_iff.mp h];exact ⟨[],.nil,fun H => .nil⟩
 | d::ds,us,h=>by
  cases us with
  | nil=>unfold ksB at h;cases h
  | cons u us =>
   obtain ⟨h1,h2⟩:=and2 (show (kB K d u&&ksB K ds us)=true by unfold ksB at h;exact h);obtain ⟨v,r,hv⟩:=kB_ok d u h1;obtain ⟨vs,rs,hvs⟩:=ksB_ok ds us h2;exact ⟨v::vs,.cons r rs,fun H => .cons (hv H) (hvs H)⟩
end
def conB (K:PySem.W.Frag) (c:Str×D):Bool:=match PySem.W.nsIn K mainGlobals c.1 with
 | some (some u)=>kB K c.2 u
 | _=>false
structure Fx where
 fa:List He.Fa
 cons:List (Str×D)
 er:List Str
 fn:List He.DefD
 lm:List He.DefD
def obsA (x:Fx) (K:PySem.W.Frag):He.AlD:=(((seeB K&&erB K x.er)&&x.fa.all fun f=>f.ok K)&&((x.cons.all fun c=>conB K c)&&x.fn.all fun d=>d.ok K),x.fn.map fun d=>He.fnW K d.at_)
def asA (g:Addr→Option Obj):Nat→List Addr
 | 0=>[mainGlobals,cStatics,sysModules]
 | n+1=>He.growD g (asA g n)
def SaysA (x:Fx) (K:PySem.W.Frag):Prop:=obsA x K=He.valD x.fn
def tabOf (K:PySem.W.Frag) (f:Str×Option Str):Option (Addr×Addr):=match K.lookup (He.fAd K f) with
 | some ⟨_,_,.func fd,_⟩=>(match fd.code with
  | .ref c=>(match K.lookup c with
   | some ⟨_,_,.fields vs,_⟩=>(match (vs[11]?:Option Value) with
    | some (.ref P)=>some (c,P)
    | _=>none)
   | _=>none)
  | _=>none)
 | _=>none
def isTab:Option Obj→Bool
 | some ⟨.none,none,.fields vs,sl⟩=>vs.isEmpty&&sl.isEmpty
 | _=>false
def tabL (ls:List He.DefD) (K:PySem.W.Frag):List (Addr×Addr×Str):=ls.filterMap fun d=>(tabOf K d.at_).map fun p=>(p.1,p.2,lamQ d.qual)
def tabsB (ls:List He.DefD) (K:PySem.W.Frag) (g:Addr→Option Obj):Bool :=
 (ls.all fun d=>match tabOf K d.at_ with
  | some (c,P)=>PySem.W.codeHdIn K c P&&((K.lookup P).isNone&&isTab (g P))
  | none=>false)&&(tabL ls K).all fun p=>(tabL ls K).all fun q=>decide (p.2.1≠q.2.1)||decide (p.2.2=q.2.2)
structure TabsSay (ls:List He.DefD) (K:PySem.W.Frag) (h:Heap):Prop where
 at_:∀d∈ls,∃c P,tabOf K d.at_=some (c,P)∧PySem.W.codeHdIn K c P=true∧K.lookup P=none∧h.get? P=some { cls := .none,data := .fields #[] }
 un:∀p∈tabL ls K,∀q∈tabL ls K,p.2.1=q.2.1→p.2.2=q.2.2
theorem isTab_ok {o:Option Obj} (h:isTab o=true):o=some { cls := .none,data := .fields #[] }:=by
 unfold isTab at h;split at h
 ·obtain ⟨h1,h2⟩:=and2 h;have h1:=Array.isEmpty_iff.mp h1;have h2:=Array.isEmpty_iff.mp h2;rw [h1,h2]
 ·cases h
theorem tabsB_ok {ls:List He.DefD} {K:PySem.W.Frag} {h:Heap} (c:tabsB ls K h.get?=true):TabsSay ls K h:=by
 obtain ⟨c1,c2⟩:=and2 c;refine ⟨fun d hd=>?_,fun p hp q hq e=>?_⟩
 ·have z:=List.all_eq_true.mp c1 d hd;cases e:tabOf K d.at_ with
  | none=>rw [e] at z;cases z
  | some p =>
   obtain ⟨c,P⟩:=p;rw [e] at z;obtain ⟨z1,z2⟩:=and2 z;obtain ⟨z2,z3⟩:=and2 z2;exact ⟨c,P,rfl,z1,Option.isNone_iff_eq_none.mp z2,isTab_ok z3⟩
 ·have z:=List.all_eq_true.mp (List.all_eq_true.mp c2 p hp) q hq;rcases Bool.or_eq_true_iff.mp z with z | z
  ·exact absurd e (of_decide_eq_true z)
  ·exact of_decide_eq_true z
def obsAG (n:Nat) (x:Fx) (g:Addr→Option Obj):He.AlD:=((obsA x (He.frG g (asA g n))).1&&tabsB x.lm (He.frG g (asA g n)) g,(obsA x (He.frG g (asA g n))).2)
theorem of_obs {n:Nat} {x:Fx} {h:Heap} (e:obsAG n x h.get?=He.valD x.fn):∃K:PySem.W.Frag,K.In h∧SaysA x K∧TabsSay x.lm K h:=by
 have e1:((obsA x (He.frG h.get? (asA h.get? n))).1&&tabsB x.lm (He.frG h.get? (asA h.get? n)) h.get?)=true:=congrArg (fun z:He.AlD=>z.1) e;have e0:(((obsA x (He.frG h.get? (asA h.get? n))).1&&tabsB x.lm (He.frG h.get? (asA h.get? n)) h.get?,(obsA x (He.frG h.get? (asA h.get? n))).2):He.AlD)=He.valD x.fn:=e;have e2:(obsA x (He.frG h.get? (asA h.get? n))).2=(He.valD x.fn).2:=(Prod.ext_iff.mp e0).2;obtain ⟨a1,a2⟩:=and2 e1;exact ⟨_,He.frG_in,Prod.ext a1 e2,tabsB_ok a2⟩
def hookA (n:Nat) (x:Fx):PySem.W.Hook where
 α:=He.AlD
 obs:=fun s=>obsAG n x s.heap.get?
 val:=fun _=>He.valD x.fn
 says:=fun _ h=>∃K:PySem.W.Frag,K.In h∧SaysA x K∧TabsSay x.lm K h
 of:=fun _ _ e=>of_obs e
 keeps:=fun _ _ _ ⟨K,hK,c,t⟩ k=>⟨K,PySem.W.Frag.In.keeps hK k,c,⟨fun d hd=>by
  obtain ⟨a,P,e1,e2,e3,e4⟩:=t.at_ d hd;exact ⟨a,P,e1,e2,e3,k _ _ e4⟩,t.un⟩⟩
theorem obsAG_eq {n:Nat} {x:Fx} {g:Addr→Option Obj} {s:Shared} (h:∀a,g a=s.heap.get? a):obsAG n x g=(hookA n x).obs s:=by
 have e:g=s.heap.get?:=funext h;rw [e] <;> rfl
section
variable {x:Fx} {K:PySem.W.Frag}
theorem SaysA.all (c:SaysA x K):(seeB K=true∧erB K x.er=true)∧(∀f∈x.fa,f.ok K=true)∧(∀q∈x.cons,conB K q=true)∧∀d∈x.fn,d.ok K=true:=by
 have c1:(((seeB K&&erB K x.er)&&x.fa.all fun f=>f.ok K)&&((x.cons.all fun c=>conB K c)&&x.fn.all fun d=>d.ok K))=true:=congrArg (fun z:He.AlD=>z.1) c;obtain ⟨h1,h2⟩:=and2 c1;obtain ⟨h2,h3⟩:=and2 h2;obtain ⟨h0,h1⟩:=and2 h1;exact ⟨and2 h0,List.all_eq_true.mp h1,List.all_eq_true.mp h2,List.all_eq_true.mp h3⟩
theorem SaysA.def_ (c:SaysA x K) {i:Nat} {d:He.DefD} (h:x.fn[i]?=some d):∃fd,FunD K d.name d.qual d.params d.body d.scope (d.dvs K) (d.kws K) (He.fAd K d.at_) fd:=by
 have e:x.fn.map (fun d=>He.fnW K d.at_)=x.fn.map He.DefD.val:=congrArg (fun z:He.AlD=>z.2) c;have e2:(x.fn.map fun d=>He.fnW K d.at_)[i]?=(x.fn.map He.DefD.val)[i]?:=by rw [e]
 rw [List.getElem?_map,List.getElem?_map,h] at e2;exact He.DefD.funD (Option.some.inj e2) (c.all.2.2.2 d (List.mem_of_getElem? h))
end
structure Tb where
 T:List Fn
 cons:List (Str×D)
 clsN:List Str
 ds:List He.DefD
def Tb.fx (t:Tb):Fx:=⟨blts.map He.Fa.free++((t.clsN.filter fun (n:Str)=>n != "").flatMap fun n=>[He.Fa.glo n,He.Fa.exc n])++t.ds.map fun d=>He.Fa.glo d.at_.1,t.cons,t.clsN,t.ds,((t.T.zip t.ds).filter fun p=>p.1.lm).map (·.2)⟩
def Tb.cls (t:Tb) (K:PySem.W.Frag) (k:Nat):Value:=match t.clsN[k]? with
 | some n => .ref (He.ga K n)
 | none => .none
def ckAll (T:List Fn) (cs:List (Str×D)) (cl:List Str):List Fn→List He.DefD→Bool
 | [],[]=>true
 | g::gs,d::ds=>ckFn T cs cl g d&&ckAll T cs cl gs ds
 | _,_=>false
def BindAll:List Fn→List He.DefD→Prop
 | g::gs,d::ds=>BindF g d∧BindAll gs ds
 | _,_=>True
theorem ckAll_at {T:List Fn} {cs:List (Str×D)} {cl:List Str}:∀{gs:List Fn} {ds:List He.DefD} {j:Nat} {g:Fn},ckAll T cs cl gs ds=true→BindAll gs ds→gs[j]?=some g→∃d,ds[j]?=some d∧ckFn T cs cl g d=true∧BindF g d
 | [],_,_,_,_,_,h=>by simp at h
 | _::_,[],_,_,h,_,_=>by cases h
 | g::gs,d::ds,0,_,h,b,e=>by
  have e:=Option.some.inj e;subst e;exact ⟨d,rfl,(and2 (show (ckFn T cs cl g d&&ckAll T cs cl gs ds)=true from h)).1,b.1⟩
 | g::gs,d::ds,j+1,_,h,b,e=>ckAll_at (j:=j) (and2 (show (ckFn T cs cl g d&&ckAll T cs cl gs ds)=true from h)).2 b.2 e
def clsB (ns:List Str):Bool:=(List.range ns.length).all fun k=>ns[k]?==some "" || ns[k]?==errN[k]?
structure TbSays (t:Tb):Prop where
 cl:clsB t.clsN=true
 ck:ckAll t.T t.cons t.clsN t.T t.ds=true
 bd:BindAll t.T t.ds
section
variable {t:Tb} {K:PySem.W.Frag} {h:Heap} {mg:Str→Option Value}
theorem tb_ok (y:TbSays t) (X:K.In h) (G:h.Ns mainGlobals mg) (c:SaysA t.fx K):TbOk t.T t.cons (t.cls K) t.clsN t.ds K mg:=by
 obtain ⟨⟨c0,c4⟩,c1,c2,c3⟩:=c.all;have hglo:∀n,He.Fa.glo n∈t.fx.fa→mg n=some (.ref (He.ga K n)):=fun n hn=>He.glo_ok X G (c1 _ hn);refine ⟨fun j g hg=>ckAll_at y.ck y.bd hg,fun j d hd=>⟨c.def_ hd,hglo _ ?_⟩,fun x n d hx=>?_,fun n hn=>He.free_ok X G (c1 _ ?_),c0,fun k n hk hn=>⟨?_,?_⟩,c4,fun k n hk hn=>?_⟩
 ·exact List.mem_append_right _ (List.mem_map.mpr ⟨d,List.mem_of_getElem? hd,rfl⟩)
 ·have z:(match PySem.W.nsIn K mainGlobals n with
   | some (some u)=>kB K d u
   | _=>false)=true:=c2 _ (List.mem_of_getElem? hx)
  cases e:PySem.W.nsIn K mainGlobals n with
  | none=>rw [e] at z;cases z
  | some o =>
   rw [e] at z;cases o with
   | none=>cases z
   | some u =>
    obtain ⟨v,r,hv⟩:=kB_ok d u z;exact ⟨v,u,PySem.W.mg_of X G e,r,hv⟩
 ·exact List.mem_append_left _ (List.mem_append_left _ (List.mem_map.mpr ⟨n,hn,rfl⟩))
 ·unfold Tb.cls;rw [hk]
 ·have z:=List.all_eq_true.mp (show (List.range t.clsN.length).all _=true from y.cl) k (List.mem_range.mpr (List.getElem?_eq_some_iff.mp hk).1);rw [hk] at z;rcases Bool.or_eq_true_iff.mp z with z | z
  ·exact absurd (Option.some.inj (eq_of_beq z)) hn
  ·exact (eq_of_beq z).symm
 ·have hm:n∈t.clsN.filter fun (n:Str)=>n != "" := List.mem_filter.mpr ⟨List.mem_of_getElem? hk,bne_iff_ne.mpr hn⟩;have m1:He.Fa.glo n∈t.fx.fa:=List.mem_append_left _ (List.mem_append_right _ (List.mem_flatMap.mpr ⟨n,hm,List.mem_cons_self⟩));have m2:He.Fa.exc n∈t.fx.fa:=List.mem_append_left _ (List.mem_append_right _ (List.mem_flatMap.mpr ⟨n,hm,List.mem_cons_of_mem _ List.mem_cons_self⟩));obtain ⟨e1,e2,e3,e4⟩:=He.exc_ok (c1 _ m2);refine ⟨He.ga K n,?_,hglo n m1,e1,e2,e3,e4⟩;unfold Tb.cls;rw [hk]
def noT (H:Hp):Hp:=fun b=>match H b with
 | some (.tbl _)=>none
 | o=>o
theorem noT_at {H:Hp} {b:Addr} {o:HO} (h:H b=some o) (n:∀ps,o ≠ .tbl ps):noT H b=some o:=by
 unfold noT;rw [h];cases o <;> first
  | rfl
  | exact absurd rfl (n _)
theorem noT_of {H:Hp} {b:Addr} {o:HO} (h:noT H b=some o):H b=some o∧∀ps,o ≠ .tbl ps:=by
 unfold noT at h;split at h
 ·cases h
 ·rename_i q;exact ⟨h,fun ps z=>q ps (by rw [h,z])⟩
theorem sql_hide {K:PySem.W.Frag} {H:Hp} {a:Addr} {xs:List V} (h:SqL K H a xs):SqL K (noT H) a xs:=by
 rcases h with h | h
 ·refine .inl ?_;rcases h with h | ⟨o,h⟩
  ·exact .inl (noT_at h (by intro _ z;cases z))
  ·exact .inr ⟨o,noT_at h (by intro _ z;cases z)⟩
 ·exact .inr h
theorem law_ok {l:PySem.W.OpenLaw} {w:World} {fa:Addr} {j:Nat} {g:Fn} {d:He.DefD} {x:Str} (ht:l.prog.given.tree=none) (y:TbSays t) (hj:t.T[j]?=some g) (hd:t.ds[j]?=some d) (hps:g.ps=[x]) (h0:g.dfl=[]) (X:K.In h) (G:h.Ns mainGlobals mg) (c:SaysA t.fx K) (tS:TabsSay t.fx.lm K h) (hmg:mg g.name=some (.ref fa))
  {lim:Nat} (run:∀ns:List Int,ns.length≤lim→callN (fun x=>((t.cons[x]?).map (·.2)).getD .none) t.T (j+1) j [.va (.list (ns.map .int))] = .ok (.bool true,false))
  {k:Nat} (hk:lvl t.T (j+1)=k):LamX.LawAtS l w K (L2.CX l.prog w) k lim x mg fa h:=by
 subst hk;have tb:=tb_ok y X G c;obtain ⟨d',hd',hc,hb⟩:=tb.fn j g hj;rw [hd] at hd';cases hd';obtain ⟨⟨fd,F⟩,hm⟩:=tb.df j d hd;have hcc:=hc;unfold ckFn at hc;obtain ⟨hc,_⟩:=and2 hc;obtain ⟨hc,_⟩:=and2 hc;obtain ⟨hc,k5⟩:=and2 hc;obtain ⟨hc,k4⟩:=and2 hc;obtain ⟨hc,_⟩:=and2 hc;obtain ⟨_,k2⟩:=and2 hc;have k2:=eq_of_beq k2;rw [k2] at hm;have ea:He.fAd K d.at_=He.ga K g.name:=by rw [k2];rfl
 rw [ea] at F;rw [hmg] at hm;cases hm;have e1:d.dvs K=[]:=by
  have hl:=dvsB_len k4;unfold He.DefD.dvs;rw [h0] at hl;rw [List.eq_nil_of_length_eq_zero hl];rfl
 have e2:d.kws K=[]:=by unfold He.DefD.kws;rw [List.isEmpty_iff.mp k5];rfl
 have F0:=F;rw [e1,e2] at F0;have mL:∀{p:Addr×Addr×Str},p∈tabL t.fx.lm K→∃d∈t.fx.lm,tabOf K d.at_=some (p.1,p.2.1)∧p.2.2=lamQ d.qual:=fun {p} hp=>by
  obtain ⟨d,hd,e⟩:=List.mem_filterMap.mp hp;cases q:tabOf K d.at_ with
  | none=>rw [q] at e;cases e
  | some z=>rw [q] at e;cases e;exact ⟨d,hd,q,rfl⟩
 letI:CdT:=⟨(tabL t.fx.lm K).map (·.2)⟩
 refine ⟨fd,(tabL t.fx.lm K).map fun p=>(p.1,p.2.1),(lkN t.T t.cons (t.cls K) t.clsN (j+1)).sp K j,fun q hq=>?_,fun q hq=>?_,fun q hq=>?_,fun s u=>?_,fun H a ns hn _ hT hS=>?_,fun base kb gb hTB=>?_⟩
 ·obtain ⟨p,hp,rfl⟩:=List.mem_map.mp hq;obtain ⟨d,hd,e,_⟩:=mL hp;obtain ⟨c',P',f1,f2,f3,f4⟩:=tS.at_ d hd;rw [e] at f1;cases f1;exact f4
 ·obtain ⟨p,hp,rfl⟩:=List.mem_map.mp hq;obtain ⟨d,hd,e,_⟩:=mL hp;obtain ⟨c',P',f1,f2,f3,f4⟩:=tS.at_ d hd;rw [e] at f1;cases f1;exact f3
 ·obtain ⟨p,hp,rfl⟩:=List.mem_map.mp hq;obtain ⟨d,hd,e,_⟩:=mL hp;obtain ⟨c',P',f1,f2,f3,f4⟩:=tS.at_ d hd;rw [e] at f1;cases f1;exact PySem.W.codeHd_of_K X f2
 ·have z:=FunD.bindsA (ps:=g.ps) F0 (hb.no h0) s [u] (by rw [hps];rfl);rw [hps] at z;exact z
 ·refine ⟨noT H,[.va (.list (ns.map .int))],fun b o e=>(noT_of e).1,⟨fun p hp=>?_,fun b ps e=>(noT_of e).2 ps rfl⟩,.cons (.va (.lst (sql_hide hS) (DpAll.ints ns))) .nil,.inl ?_⟩
  ·obtain ⟨z,hz,rfl⟩:=List.mem_map.mp hp;exact LamX.TabS.nil (hT (z.1,z.2.1) (List.mem_map.mpr ⟨z,hz,rfl⟩))
  ·change (match callN (fun x=>((t.cons[x]?).map (·.2)).getD .none) t.T (j+1) j [.va (.list (ns.map .int))] with
    | .ok p=>Ac K _ H (fun v _=>v = .bl true) p
    | .ex k=>∀f' H',Po _ H f' H'→False
    | .no=>False)
   rw [run ns hn];intro v f' H' q hv;cases (show Dp K f' v (.bool true) from hv);rfl
 ·have lm:LmOk t.T t.ds K mg base:=fun i gi di hi hdi hl oc od fd osl hlk=>by
   have hmem:di∈t.fx.lm:=List.mem_map.mpr ⟨(gi,di),List.mem_filter.mpr ⟨List.mem_of_getElem? (i:=i) (by rw [List.getElem?_zip_eq_some];exact ⟨hi,hdi⟩),hl⟩,rfl⟩;obtain ⟨c',P',f1,f2,f3,f4⟩:=tS.at_ di hmem;have m1:(c',P',lamQ di.qual)∈tabL t.fx.lm K:=List.mem_filterMap.mpr ⟨di,hmem,by rw [f1];rfl⟩;refine ⟨c',P',?_,hTB (c',P') (List.mem_map.mpr ⟨_,m1,rfl⟩),List.mem_map.mpr ⟨_,m1,rfl⟩,fun p hp e=>?_⟩
   ·unfold tabOf at f1;rw [hlk] at f1;have f1:(match fd.code with
     | .ref c=>(match K.lookup c with
      | some ⟨_,_,.fields vs,_⟩=>(match (vs[11]?:Option Value) with
       | some (.ref P)=>some (c,P)
       | _=>none)
      | _=>none)
     | _=>none)=some (c',P'):=f1
    split at f1
    ·rename_i cc hcc;rw [hcc];split at f1
     ·split at f1
      ·cases f1;rfl
      ·cases f1
     ·cases f1
    ·cases f1
   ·obtain ⟨z,hz,rfl⟩:=List.mem_map.mp hp;exact tS.un z hz _ m1 e
  have z:=fn_step (P:=l.prog) (w:=w) (base:=base) lm hd ea hj hcc F (lk_all lm ht (tb_ok y kb gb c) j);rw [hps] at z;exact z
end
theorem nocx {P:Program} {w:World} {H:Hp} {s:Shared} {e:Value} {s':Shared} (h:L2.CX P w [] H s (fun _ _ _=>False) e s'):False:=by
 obtain ⟨a,B,H',cls,d,_,_,_,_,_,_,_,z⟩:=h;exact z
end AW
namespace AW
open PySem PySem.Spec PyProof.Rows
section
variable {G:Nat→D} {c:Nat→List Sl→R (D×Bool)} {dfl:Nat→Nat→List D} {en:En}
@[simp] theorem ev_var (i:Nat):evF G c dfl (.var i) en=(val en i).bind v1:=rfl
@[simp] theorem ev_emp:evF G c dfl .emp en=v1 (.dict []):=rfl
@[simp] theorem ev_con (d:D):evF G c dfl (.con d) en=v1 d:=rfl
@[simp] theorem ev_glb (x:Nat):evF G c dfl (.glb x) en=v1 (G x):=rfl
@[simp] theorem ev_tup (es:Es):evF G c dfl (.tup es) en=(evs G c dfl es en).bind fun ds=>if ds.length≤line then v1 (.tuple ds) else .no:=rfl
@[simp] theorem ev_lst (es:Es):evF G c dfl (.lst es) en=(evs G c dfl es en).bind fun ds=>if ds.length≤line then .ok (.list ds,true) else .no:=rfl
@[simp] theorem ev_rep (es:Es) (n:E):evF G c dfl (.rep es n) en=(evs G c dfl es en).bind fun ds=>if ds.length≤line then (evF G c dfl n en).bind fun x=>(intR x.1).bind fun k=>if -1000000≤k∧k≤1000000∧ds.length*k.toNat≤line then .ok (.list (List.replicate k.toNat ds).flatten,true) else .no else .no:=rfl
@[simp] theorem ev_op1 (o:O1) (a:E):evF G c dfl (.op1 o a) en=(rd1 a en (evF G c dfl a en)).bind (sem1 o):=rfl
@[simp] theorem ev_op2 (o:O2) (a b:E):evF G c dfl (.op2 o a b) en=(rd1 a en (evF G c dfl a en)).bind fun x=>(rd1 b en (evF G c dfl b en)).bind fun y=>sem2 o x y:=rfl
@[simp] theorem ev_chn (o p:O2) (a b z:E):evF G c dfl (.chn o p a b z) en=(rd1 a en (evF G c dfl a en)).bind fun x=>(rd1 b en (evF G c dfl b en)).bind fun y=>(sem2 o x y).bind fun r=>(match r.1 with
  | .bool true=>(rd1 z en (evF G c dfl z en)).bind fun w=>sem2 p y w
  | .bool false=>v1 (.bool false)
  | _ => .no):=rfl
@[simp] theorem ev_and (a b:E):evF G c dfl (.and a b) en=(evF G c dfl a en).bind fun x=>(truR x.1).bind fun t=>if t then evF G c dfl b en else v1 x.1:=rfl
@[simp] theorem ev_or (a b:E):evF G c dfl (.or a b) en=(evF G c dfl a en).bind fun x=>(truR x.1).bind fun t=>if t then .ok x else evF G c dfl b en:=rfl
@[simp] theorem ev_not (a:E):evF G c dfl (.not a) en=(rd1 a en (evF G c dfl a en)).bind fun x=>(truR x).bind fun t=>v1 (.bool (!t)):=rfl
@[simp] theorem ev_ife (t a b:E):evF G c dfl (.ife t a b) en=(rd1 t en (evF G c dfl t en)).bind fun x=>(truR x).bind fun t=>if t then evF G c dfl a en else evF G c dfl b en:=rfl
@[simp] theorem ev_slc (a:E) (lo hi:Eo):evF G c dfl (.slc a lo hi) en=(rd1 a en (evF G c dfl a en)).bind fun x=>(evO G c dfl lo en).bind fun l=>(evO G c dfl hi en).bind fun h=>semSl x l h:=rfl
@[simp] theorem ev_revs (a:E):evF G c dfl (.revs a) en=(rd1 a en (evF G c dfl a en)).bind semRev:=rfl
@[simp] theorem ev_tx1 (o:Tm1) (a b:E):evF G c dfl (.tx1 o a b) en=(evF G c dfl a en).bind fun x=>(strR x.1).bind fun u=>(rd1 b en (evF G c dfl b en)).bind fun y=>semT1 o u y:=rfl
@[simp] theorem ev_tx2 (o:Tm2) (a b z:E):evF G c dfl (.tx2 o a b z) en=(evF G c dfl a en).bind fun x=>(strR x.1).bind fun u=>(evF G c dfl b en).bind fun y=>(evF G c dfl z en).bind fun w=>semT2 o u y.1 w.1:=rfl
@[simp] theorem ev_stp (a:E) (lo hi st:Eo):evF G c dfl (.stp a lo hi st) en=(rd1 a en (evF G c dfl a en)).bind fun x=>(listR x).bind fun u=>(evO G c dfl lo en).bind fun l=>(evO G c dfl hi en).bind fun h=>(evO G c dfl st en).bind fun s=>semSt u l h s:=rfl
@[simp] theorem ev_lrng (a:E):evF G c dfl (.lrng a) en=(evF G c dfl a en).bind fun x=>(intR x.1).bind fun j=>if small j=true∧j≤line then .ok (.list (rngD 0 j.toNat),true) else .no:=rfl
@[simp] theorem ev_rplE (i:Nat) (c' d:Str):evF G c dfl (.rplE i c' d) en=((val en i).bind strR).bind fun x=>if (c'==d)=false∧x.length+(x.length+1)*d.length≤line then v1 (.str (Txt.replace x c' d)) else .no:=rfl
@[simp] theorem ev_jmax (i:Nat):evF G c dfl (.jmax i) en=(jdict en i).bind fun kvs=>(match jints kvs with
  | some ks=>(match maxL ks with
   | some n=>v1 (.int n)
   | none => .no)
  | none => .no):=rfl
@[simp] theorem ev_ditl (i:Nat):evF G c dfl (.ditl i) en=(match en[i]? with
  | some (.dk kvs) => .ok (.list (kvs.map fun x => .tuple [x.1,x.2]),true)
  | _ => .no):=by first | (rw [evF];done) | (rw [evF];rfl)
@[simp] theorem ev_lset (a:E):evF G c dfl (.lset a) en=(rd1 a en (evF G c dfl a en)).bind fun x=>(listR x).bind fun xs=>if lsetOk xs=true then v1 (.int xs.length) else .no:=by rw [evF]
@[simp] theorem ev_dpix (a k:E):evF G c dfl (.dpix a k) en=(rd1 a en (evF G c dfl a en)).bind fun x=>(listR x).bind fun xs=>(match kpairs xs with
  | some kvs=>(evF G c dfl k en).bind fun kd=>if keyOk kd.1=true then (match dlook (dmerge [] kvs) kd.1 with
   | some d=>v1 d
   | none => .no) else .no
  | none => .no):=by first | (rw [evF];done) | (rw [evF];rfl)
@[simp] theorem ev_dofP (a:E):evF G c dfl (.dofP a) en=(rd1 a en (evF G c dfl a en)).bind fun x=>(listR x).bind fun xs=>(match jpairs xs with
  | some kvs=>v1 (.dict (jmerge [] kvs))
  | none => .no):=rfl
@[simp] theorem evI_txt (a:E):evI G c dfl (.txt a) en=(evF G c dfl a en).bind fun x=>(strR x.1).bind fun z => .ok (z.cps.toList.map fun c => .str ⟨#[c]⟩):=rfl
@[simp] theorem ev_trev (a:E):evF G c dfl (.trev a) en=(rd1 a en (evF G c dfl a en)).bind semTrev:=rfl
@[simp] theorem ev_repE (a n:E):evF G c dfl (.repE a n) en=(evF G c dfl a en).bind fun x=>(evF G c dfl n en).bind fun y=>(intR y.1).bind fun k=>semRep x k:=rfl
@[simp] theorem ev_call (j:Nat) (es:Es) (m:Nat):evF G c dfl (.call j es m) en=(evAs G c dfl es en).bind fun ss=>c j (ss++(dfl j m).map .va):=rfl
@[simp] theorem ev_srt (a:E):evF G c dfl (.srt a) en=(rd1 a en (evF G c dfl a en)).bind semSrt:=rfl
@[simp] theorem ev_dsrt (i:Nat):evF G c dfl (.dsrt i) en=(kdict en i).bind fun kvs=>if srtOk (kvs.map (·.1))=true then .ok (.list (srtD (kvs.map (·.1))),true) else .no:=rfl
@[simp] theorem ev_dix (i:Nat) (k:E):evF G c dfl (.dix i k) en=(kdict en i).bind fun kvs=>(evF G c dfl k en).bind fun kd=>if keyOk kd.1=true then (match dlook kvs kd.1 with
  | some d=>v1 d
  | none => .no) else .no:=rfl
@[simp] theorem ev_jget (i:Nat) (k x:E):evF G c dfl (.jget i k x) en=(jdict en i).bind fun kvs=>(evF G c dfl k en).bind fun kd=>(evF G c dfl x en).bind fun xd=>if jkB kd.1=true then (match jlook kvs kd.1 with
  | some d=>v1 d
  | none=>v1 xd.1) else .no:=rfl
@[simp] theorem ev_jix (i:Nat) (k:E):evF G c dfl (.jix i k) en=(jdict en i).bind fun kvs=>(evF G c dfl k en).bind fun kd=>if jkB kd.1=true then (match jlook kvs kd.1 with
  | some d=>v1 d
  | none => .no) else .no:=rfl
@[simp] theorem ev_jin (i:Nat) (k:E) (g:Bool):evF G c dfl (.jin i k g) en=(jdict en i).bind fun kvs=>(evF G c dfl k en).bind fun kd=>if jkB kd.1=true then v1 (.bool ((jlook kvs kd.1).isSome != g)) else .no:=rfl
@[simp] theorem ev_jlen (i:Nat):evF G c dfl (.jlen i) en=(jdict en i).bind fun kvs=>v1 (.int kvs.length):=rfl
@[simp] theorem ev_jsrt (i:Nat):evF G c dfl (.jsrt i) en=(jdict en i).bind fun kvs=>(match jints kvs with
  | some ks=>if ks.length<64 then .ok (.list ((ks.mergeSort fun a b=>decide (a≤b)).map .int),true) else .no
  | none => .no):=rfl
@[simp] theorem ev_max4 (a b z w:E):evF G c dfl (.max4 a b z w) en=(evF G c dfl a en).bind fun x=>(evF G c dfl b en).bind fun y=>(evF G c dfl z en).bind fun u=>(evF G c dfl w en).bind fun v=>(intR x.1).bind fun i=>(intR y.1).bind fun j=>(intR u.1).bind fun k=>(intR v.1).bind fun l=>v1 (.int (maxI (maxI (maxI i j) k) l)):=rfl
@[simp] theorem ev_callv (j:Nat) (es:Es) (m:Nat):evF G c dfl (.callv j es m) en=(evAs G c dfl es en).bind fun ss=>(c j (asV ss++(dfl j m).map .va)).bind fun p=>if p.2=false∧noL p.1=true then .ok p else .no:=rfl
@[simp] theorem ev_mth (o:M1) (a b:E):evF G c dfl (.mth o a b) en=(rd1 a en (evF G c dfl a en)).bind fun x=>(listR x).bind fun xs=>(rd1 b en (evF G c dfl b en)).bind fun y=>semM o xs y:=rfl
@[simp] theorem ev_rfd (j:Nat) (ks:List Nat) (e:E):evF G c dfl (.rfd j ks e) en=rfR ks (evF G c dfl e en) fun s=>c j [.un,.un,s]:=rfl
@[simp] theorem ev_isE (i:Nat) (ks:List Nat) (ts:List Te):evF G c dfl (.isE i ks ts) en=(match en[i]? with
  | some (.va .none)=>v1 (.bool false)
  | some (.er c)=>if ks.contains c then v1 (.bool (ts.any (erTy c))) else .no
  | _ => .no):=rfl
@[simp] theorem ev_isN (i:Nat) (g:Bool):evF G c dfl (.isN i g) en=(match en[i]? with
  | some (.va d)=>(isD d .none).bind fun b=>v1 (.bool (b != g))
  | some (.er _)=>v1 (.bool g)
  | _ => .no):=rfl
@[simp] theorem ev_isi (a:E) (ts:List Ty):evF G c dfl (.isi a ts) en=(rd1 a en (evF G c dfl a en)).bind fun x=>v1 (.bool (ts.any fun t=>isTy x t)):=rfl
theorem ev_cmp (elt:E) (tg:Tg) (it:It) (ifs:Eo) (own:List (Str×Nat)):evF G c dfl (.cmp elt tg it ifs own) en=(evI G c dfl it en).bind fun ds=>(compL (fun d=>(bindT tg d (wipe en (own.map (·.2)))).bind fun en'=>(evB G c dfl ifs en').nox.bind fun b =>
   if b then (evF G c dfl elt en').nox.bind fun y => .ok (some y.1) else .ok none) ds).bind fun ys=>if ds.length≤line then .ok (.list ys,true) else .no:=rfl
@[simp] theorem evs_nl:evs G c dfl .nil en = .ok []:=rfl
@[simp] theorem evs_cs (e:E) (r:Es):evs G c dfl (.cons e r) en=(evF G c dfl e en).bind fun x=>(evs G c dfl r en).bind fun xs => .ok (x.1::xs):=rfl
@[simp] theorem evAs_nl:evAs G c dfl .nil en = .ok []:=rfl
@[simp] theorem evAs_cs (e:E) (r:Es):evAs G c dfl (.cons e r) en=(arg1 e en (evF G c dfl e en)).bind fun x=>(evAs G c dfl r en).bind fun xs => .ok (x::xs):=rfl
@[simp] theorem evO_none:evO G c dfl .none en = .ok none:=rfl
@[simp] theorem evO_some (e:E):evO G c dfl (.some e) en=(evF G c dfl e en).bind fun x=>(intR x.1).bind fun i => .ok (some i):=rfl
@[simp] theorem evB_none:evB G c dfl .none en = .ok true:=rfl
@[simp] theorem evB_some (e:E):evB G c dfl (.some e) en=(rd1 e en (evF G c dfl e en)).bind fun x=>truR x:=rfl
@[simp] theorem evI_seq (a:E):evI G c dfl (.seq a) en=(evF G c dfl a en).bind fun x=>seqR x.1:=rfl
@[simp] theorem evI_rng1 (a:E):evI G c dfl (.rng1 a) en=(evF G c dfl a en).bind fun x=>(intR x.1).bind fun j=>rngR 0 j:=rfl
@[simp] theorem evI_rng2 (a b:E):evI G c dfl (.rng2 a b) en=(evF G c dfl a en).bind fun x=>(evF G c dfl b en).bind fun y=>(intR x.1).bind fun i=>(intR y.1).bind fun j=>rngR i j:=rfl
@[simp] theorem evI_rng3 (a b z:E):evI G c dfl (.rng3 a b z) en=(evF G c dfl a en).bind fun x=>(evF G c dfl b en).bind fun y=>(evF G c dfl z en).bind fun w=>(intR x.1).bind fun i=>(intR y.1).bind fun j=>(intR w.1).bind fun k=>rngR3 i j k:=rfl
@[simp] theorem evI_rev (a:E):evI G c dfl (.rev a) en=(evF G c dfl a en).bind fun x=>(seqR x.1).bind fun xs => .ok xs.reverse:=rfl
@[simp] theorem evI_revr (a:E):evI G c dfl (.revr a) en=(evF G c dfl a en).bind fun x=>(intR x.1).bind fun j=>(rngR 0 j).bind fun xs => .ok xs.reverse:=rfl
@[simp] theorem evI_enum (a:E):evI G c dfl (.enum a) en=(evF G c dfl a en).bind fun x=>(seqR x.1).bind fun xs => .ok (enumD xs):=rfl
@[simp] theorem evI_ditems (i:Nat):evI G c dfl (.ditems i) en=(match en[i]? with
  | some (.fd kvs) => .ok (kvs.map fun x => .tuple [x.1,x.2])
  | _ => .no):=rfl
@[simp] theorem evI_zip (a b:E):evI G c dfl (.zip a b) en=(evF G c dfl a en).bind fun x=>(evF G c dfl b en).bind fun y=>zipR x.1 y.1:=rfl
@[simp] theorem evT_eq (x:E):evT G c dfl x en=(rd1 x en (evF G c dfl x en)).bind truR:=rfl
variable {r:R (D×Bool)}
@[simp] theorem rd1_var (i:Nat):rd1 (.var i) en r=r.bind fun p => .ok p.1:=rfl
@[simp] theorem rd1_emp:rd1 .emp en r=r.bind fun p => .ok p.1:=rfl
@[simp] theorem rd1_con (d:D):rd1 (.con d) en r=r.bind fun p => .ok p.1:=rfl
@[simp] theorem rd1_glb (d:Nat):rd1 (.glb d) en r=r.bind fun p => .ok p.1:=rfl
@[simp] theorem rd1_tup (d:Es):rd1 (.tup d) en r=r.bind fun p => .ok p.1:=rfl
@[simp] theorem rd1_lst (d:Es):rd1 (.lst d) en r=r.bind fun p => .ok p.1:=rfl
@[simp] theorem rd1_rep (d:Es) (n:E):rd1 (.rep d n) en r=r.bind fun p => .ok p.1:=rfl
@[simp] theorem rd1_op1 (o:O1) (a:E):rd1 (.op1 o a) en r=r.bind fun p => .ok p.1:=rfl
@[simp] theorem rd1_op2 (o:O2) (a b:E):rd1 (.op2 o a b) en r=r.bind fun p => .ok p.1:=rfl
@[simp] theorem rd1_chn (o p:O2) (a b z:E):rd1 (.chn o p a b z) en r=r.bind fun p => .ok p.1:=rfl
@[simp] theorem rd1_and (a b:E):rd1 (.and a b) en r=r.bind fun p => .ok p.1:=rfl
@[simp] theorem rd1_or (a b:E):rd1 (.or a b) en r=r.bind fun p => .ok p.1:=rfl
@[simp] theorem rd1_not (a:E):rd1 (.not a) en r=r.bind fun p => .ok p.1:=rfl
@[simp] theorem rd1_ife (t a b:E):rd1 (.ife t a b) en r=r.bind fun p => .ok p.1:=rfl
@[simp] theorem rd1_slc (a:E) (lo hi:Eo):rd1 (.slc a lo hi) en r=r.bind fun p => .ok p.1:=rfl
@[simp] theorem rd1_tx1 (o:Tm1) (a b:E):rd1 (.tx1 o a b) en r=r.bind fun p => .ok p.1:=rfl
@[simp] theorem rd1_tx2 (o:Tm2) (a b z:E):rd1 (.tx2 o a b z) en r=r.bind fun p => .ok p.1:=rfl
@[simp] theorem rd1_stp (a:E) (lo hi st:Eo):rd1 (.stp a lo hi st) en r=r.bind fun p => .ok p.1:=rfl
@[simp] theorem rd1_lrng (a:E):rd1 (.lrng a) en r=r.bind fun p => .ok p.1:=rfl
@[simp] theorem rd1_rplE (i:Nat) (c' d:Str):rd1 (.rplE i c' d) en r=r.bind fun p => .ok p.1:=rfl
@[simp] theorem rd1_jmax (i:Nat):rd1 (.jmax i) en r=r.bind fun p => .ok p.1:=rfl
@[simp] theorem rd1_ditl (i:Nat):rd1 (.ditl i) en r=r.bind fun p => .ok p.1:=rfl
@[simp] theorem rd1_lset (a:E):rd1 (.lset a) en r=r.bind fun p => .ok p.1:=rfl
@[simp] theorem rd1_dpix (a k:E):rd1 (.dpix a k) en r=r.bind fun p => .ok p.1:=rfl
@[simp] theorem rd1_dofP (a:E):rd1 (.dofP a) en r=r.bind fun p => .ok p.1:=rfl
@[simp] theorem rd1_trev (a:E):rd1 (.trev a) en r=r.bind fun p => .ok p.1:=rfl
@[simp] theorem rd1_revs (a:E):rd1 (.revs a) en r=r.bind fun p => .ok p.1:=rfl
@[simp] theorem rd1_repE (a n:E):rd1 (.repE a n) en r=r.bind fun p => .ok p.1:=rfl
@[simp] theorem rd1_call (j:Nat) (es:Es) (m:Nat):rd1 (.call j es m) en r=r.bind fun p => .ok p.1:=rfl
@[simp] theorem rd1_callv (j:Nat) (es:Es) (m:Nat):rd1 (.callv j es m) en r=r.bind fun p => .ok p.1:=rfl
@[simp] theorem rd1_dne (i:Nat):rd1 (.dne i) en r=r.bind fun p => .ok p.1:=rfl
@[simp] theorem rd1_srt (a:E):rd1 (.srt a) en r=r.bind fun p => .ok p.1:=rfl
@[simp] theorem rd1_dsrt (i:Nat):rd1 (.dsrt i) en r=r.bind fun p => .ok p.1:=rfl
@[simp] theorem rd1_dix (i:Nat) (k:E):rd1 (.dix i k) en r=r.bind fun p => .ok p.1:=rfl
@[simp] theorem rd1_jget (i:Nat) (k x:E):rd1 (.jget i k x) en r=r.bind fun p => .ok p.1:=rfl
@[simp] theorem rd1_jix (i:Nat) (k:E):rd1 (.jix i k) en r=r.bind fun p => .ok p.1:=rfl
@[simp] theorem rd1_jin (i:Nat) (k:E) (g:Bool):rd1 (.jin i k g) en r=r.bind fun p => .ok p.1:=rfl
@[simp] theorem rd1_jlen (i:Nat):rd1 (.jlen i) en r=r.bind fun p => .ok p.1:=rfl
@[simp] theorem rd1_jsrt (i:Nat):rd1 (.jsrt i) en r=r.bind fun p => .ok p.1:=rfl
@[simp] theorem rd1_max4 (a b z w:E):rd1 (.max4 a b z w) en r=r.bind fun p => .ok p.1:=rfl
@[simp] theorem rd1_cmpP (elt:E) (tg:Tg) (i:Nat) (ifs:Eo) (own:List (Str×Nat)):rd1 (.cmpP elt tg i ifs own) en r=r.bind fun p => .ok p.1:=rfl
@[simp] theorem rd1_dkeys (i:Nat):rd1 (.dkeys i) en r=r.bind fun p => .ok p.1:=rfl
@[simp] theorem rd1_dvals (i:Nat):rd1 (.dvals i) en r=r.bind fun p => .ok p.1:=rfl
@[simp] theorem rd1_dget (i:Nat) (k x:E):rd1 (.dget i k x) en r=r.bind fun p => .ok p.1:=rfl
@[simp] theorem rd1_callL (i:Nat) (cs:List (Str×Nat)) (es:Es):rd1 (.callL i cs es) en r=r.bind fun p => .ok p.1:=rfl
@[simp] theorem rd1_mth (o:M1) (a b:E):rd1 (.mth o a b) en r=r.bind fun p => .ok p.1:=rfl
@[simp] theorem rd1_rfd (j:Nat) (ks:List Nat) (e:E):rd1 (.rfd j ks e) en r=r.bind fun p => .ok p.1:=rfl
@[simp] theorem rd1_isE (i:Nat) (ks:List Nat) (ts:List Te):rd1 (.isE i ks ts) en r=r.bind fun p => .ok p.1:=rfl
@[simp] theorem rd1_isN (i:Nat) (g:Bool):rd1 (.isN i g) en r=r.bind fun p => .ok p.1:=rfl
@[simp] theorem rd1_isi (a:E) (ts:List Ty):rd1 (.isi a ts) en r=r.bind fun p => .ok p.1:=rfl
@[simp] theorem rd1_cmp (elt:E) (tg:Tg) (it:It) (ifs:Eo) (own:List (Str×Nat)):rd1 (.cmp elt tg it ifs own) en r=r.bind fun p => .ok p.1:=rfl
@[simp] theorem rd1_peek (i:Nat):rd1 (.peek i) en r=(match en[i]? with
  | some (.ow ds) => .ok (.list ds)
  | some (.rd ds) => .ok (.list ds)
  | some (.st ds) => .ok (.list ds)
  | _ => .no):=rfl
@[simp] theorem arg1_var (i:Nat):arg1 (.var i) en r=r.bind fun p => .ok (.va p.1):=rfl
@[simp] theorem arg1_emp:arg1 .emp en r=r.bind fun p => .ok (.va p.1):=rfl
@[simp] theorem arg1_con (d:D):arg1 (.con d) en r=r.bind fun p => .ok (.va p.1):=rfl
@[simp] theorem arg1_glb (d:Nat):arg1 (.glb d) en r=r.bind fun p => .ok (.va p.1):=rfl
@[simp] theorem arg1_tup (d:Es):arg1 (.tup d) en r=r.bind fun p => .ok (.va p.1):=rfl
@[simp] theorem arg1_lst (d:Es):arg1 (.lst d) en r=r.bind fun p => .ok (.va p.1):=rfl
@[simp] theorem arg1_rep (d:Es) (n:E):arg1 (.rep d n) en r=r.bind fun p => .ok (.va p.1):=rfl
@[simp] theorem arg1_op1 (o:O1) (a:E):arg1 (.op1 o a) en r=r.bind fun p => .ok (.va p.1):=rfl
@[simp] theorem arg1_op2 (o:O2) (a b:E):arg1 (.op2 o a b) en r=r.bind fun p => .ok (.va p.1):=rfl
@[simp] theorem arg1_chn (o p:O2) (a b z:E):arg1 (.chn o p a b z) en r=r.bind fun p => .ok (.va p.1):=rfl
@[simp] theorem arg1_and (a b:E):arg1 (.and a b) en r=r.bind fun p => .ok (.va p.1):=rfl
@[simp] theorem arg1_or (a b:E):arg1 (.or a b) en r=r.bind fun p => .ok (.va p.1):=rfl
@[simp] theorem arg1_not (a:E):arg1 (.not a) en r=r.bind fun p => .ok (.va p.1):=rfl
@[simp] theorem arg1_ife (t a b:E):arg1 (.ife t a b) en r=r.bind fun p => .ok (.va p.1):=rfl
@[simp] theorem arg1_slc (a:E) (lo hi:Eo):arg1 (.slc a lo hi) en r=r.bind fun p => .ok (.va p.1):=rfl
@[simp] theorem arg1_tx1 (o:Tm1) (a b:E):arg1 (.tx1 o a b) en r=r.bind fun p => .ok (.va p.1):=rfl
@[simp] theorem arg1_tx2 (o:Tm2) (a b z:E):arg1 (.tx2 o a b z) en r=r.bind fun p => .ok (.va p.1):=rfl
@[simp] theorem arg1_stp (a:E) (lo hi st:Eo):arg1 (.stp a lo hi st) en r=r.bind fun p => .ok (.va p.1):=rfl
@[simp] theorem arg1_lrng (a:E):arg1 (.lrng a) en r=r.bind fun p => .ok (.va p.1):=rfl
@[simp] theorem arg1_rplE (i:Nat) (c' d:Str):arg1 (.rplE i c' d) en r=r.bind fun p => .ok (.va p.1):=rfl
@[simp] theorem arg1_jmax (i:Nat):arg1 (.jmax i) en r=r.bind fun p => .ok (.va p.1):=rfl
@[simp] theorem arg1_ditl (i:Nat):arg1 (.ditl i) en r=r.bind fun p => .ok (.va p.1):=rfl
@[simp] theorem arg1_lset (a:E):arg1 (.lset a) en r=r.bind fun p => .ok (.va p.1):=rfl
@[simp] theorem arg1_dpix (a k:E):arg1 (.dpix a k) en r=r.bind fun p => .ok (.va p.1):=rfl
@[simp] theorem arg1_dofP (a:E):arg1 (.dofP a) en r=r.bind fun p => .ok (.va p.1):=rfl
@[simp] theorem arg1_trev (a:E):arg1 (.trev a) en r=r.bind fun p => .ok (.va p.1):=rfl
@[simp] theorem arg1_revs (a:E):arg1 (.revs a) en r=r.bind fun p => .ok (.va p.1):=rfl
@[simp] theorem arg1_repE (a n:E):arg1 (.repE a n) en r=r.bind fun p => .ok (.va p.1):=rfl
@[simp] theorem arg1_call (j:Nat) (es:Es) (m:Nat):arg1 (.call j es m) en r=r.bind fun p => .ok (.va p.1):=rfl
@[simp] theorem arg1_callv (j:Nat) (es:Es) (m:Nat):arg1 (.callv j es m) en r=r.bind fun p => .ok (.va p.1):=rfl
@[simp] theorem arg1_fnv (n:Str):arg1 (.fnv n) en r = .ok (.fn n):=rfl
@[simp] theorem arg1_callL (i:Nat) (cs:List (Str×Nat)) (es:Es):arg1 (.callL i cs es) en r=r.bind fun p => .ok (.va p.1):=rfl
@[simp] theorem arg1_dne (i:Nat):arg1 (.dne i) en r=r.bind fun p => .ok (.va p.1):=rfl
@[simp] theorem arg1_srt (a:E):arg1 (.srt a) en r=r.bind fun p => .ok (.va p.1):=rfl
@[simp] theorem arg1_dsrt (i:Nat):arg1 (.dsrt i) en r=r.bind fun p => .ok (.va p.1):=rfl
@[simp] theorem arg1_dix (i:Nat) (k:E):arg1 (.dix i k) en r=r.bind fun p => .ok (.va p.1):=rfl
@[simp] theorem arg1_jget (i:Nat) (k x:E):arg1 (.jget i k x) en r=r.bind fun p => .ok (.va p.1):=rfl
@[simp] theorem arg1_jix (i:Nat) (k:E):arg1 (.jix i k) en r=r.bind fun p => .ok (.va p.1):=rfl
@[simp] theorem arg1_jin (i:Nat) (k:E) (g:Bool):arg1 (.jin i k g) en r=r.bind fun p => .ok (.va p.1):=rfl
@[simp] theorem arg1_jlen (i:Nat):arg1 (.jlen i) en r=r.bind fun p => .ok (.va p.1):=rfl
@[simp] theorem arg1_jsrt (i:Nat):arg1 (.jsrt i) en r=r.bind fun p => .ok (.va p.1):=rfl
@[simp] theorem arg1_max4 (a b z w:E):arg1 (.max4 a b z w) en r=r.bind fun p => .ok (.va p.1):=rfl
@[simp] theorem arg1_cmpP (elt:E) (tg:Tg) (i:Nat) (ifs:Eo) (own:List (Str×Nat)):arg1 (.cmpP elt tg i ifs own) en r=r.bind fun p => .ok (.va p.1):=rfl
@[simp] theorem arg1_dkeys (i:Nat):arg1 (.dkeys i) en r=r.bind fun p => .ok (.va p.1):=rfl
@[simp] theorem arg1_dvals (i:Nat):arg1 (.dvals i) en r=r.bind fun p => .ok (.va p.1):=rfl
@[simp] theorem arg1_dget (i:Nat) (k x:E):arg1 (.dget i k x) en r=r.bind fun p => .ok (.va p.1):=rfl
@[simp] theorem arg1_mth (o:M1) (a b:E):arg1 (.mth o a b) en r=r.bind fun p => .ok (.va p.1):=rfl
@[simp] theorem arg1_rfd (j:Nat) (ks:List Nat) (e:E):arg1 (.rfd j ks e) en r=r.bind fun p => .ok (.va p.1):=rfl
@[simp] theorem arg1_isE (i:Nat) (ks:List Nat) (ts:List Te):arg1 (.isE i ks ts) en r=r.bind fun p => .ok (.va p.1):=rfl
@[simp] theorem arg1_isN (i:Nat) (g:Bool):arg1 (.isN i g) en r=r.bind fun p => .ok (.va p.1):=rfl
@[simp] theorem arg1_erv (i:Nat):arg1 (.erv i) en r=(match en[i]? with
  | some (.er c) => .ok (.er c)
  | some (.va .none) => .ok (.va .none)
  | _ => .no):=rfl
@[simp] theorem arg1_isi (a:E) (ts:List Ty):arg1 (.isi a ts) en r=r.bind fun p => .ok (.va p.1):=rfl
@[simp] theorem arg1_cmp (elt:E) (tg:Tg) (it:It) (ifs:Eo) (own:List (Str×Nat)):arg1 (.cmp elt tg it ifs own) en r=r.bind fun p => .ok (.va p.1):=rfl
@[simp] theorem arg1_peek (i:Nat):arg1 (.peek i) en r=(match en[i]? with
  | some (.ow ds) => .ok (.rd ds)
  | some (.rd ds) => .ok (.rd ds)
  | _ => .no):=rfl
@[simp] theorem ess_nil:evSs G c dfl .nil en = .ok (.nx en):=rfl
@[simp] theorem ess_cons (s:S) (r:Ss):evSs G c dfl (.cons s r) en=(evS G c dfl s en).bind fun fl=>(match fl with
  | .nx e=>evSs G c dfl r e
  | fl => .ok fl):=rfl
@[simp] theorem es_pass:evS G c dfl .pass en = .ok (.nx en):=rfl
@[simp] theorem es_asg (tg:Tg) (e:E):evS G c dfl (.asg tg e) en=lf en (evF G c dfl e en) fun x=>(bindT tg x.1 en).bind fun en' => .ok (.nx en'):=rfl
@[simp] theorem es_dnew (i:Nat):evS G c dfl (.dnew i) en = .ok (.nx (en.set i (.dk []))):=rfl
@[simp] theorem es_jnew (i:Nat):evS G c dfl (.jnew i) en = .ok (.nx (en.set i (.dj []))):=rfl
@[simp] theorem es_ins (i:Nat) (k e:E):evS G c dfl (.ins i k e) en=lf en (owR en i) fun ds=>lf en ((evF G c dfl k en).bind fun x=>(evF G c dfl e en).bind fun y => .ok (x.1,y.1)) fun p=>(match p with
  | (.int j,y)=>if 0≤j∧j≤ds.length∧ds.length<line then .ok (.nx (en.set i (.ow (ds.take j.toNat++[y]++ds.drop j.toNat)))) else .no
  | _ => .no):=rfl
@[simp] theorem es_asgO (i:Nat) (e:E):evS G c dfl (.asgO i e) en=lf en (evF G c dfl e en) fun x=>(match x with
  | (.list ds,true) => .ok (.nx (en.set i (.ow ds)))
  | _ => .no):=rfl
@[simp] theorem es_asgC (i:Nat) (o:Bool) (e:E):evS G c dfl (.asgC i o e) en=lf en (evF G c dfl e en) fun x=>(match x with
  | (.list ds,true) => .ok (.nx (en.set i (if o then .ow ds else .va (.list ds))))
  | _ => .no):=rfl
@[simp] theorem es_par (is:List Nat) (es:Es):evS G c dfl (.par is es) en=lf en (evs G c dfl es en) fun ds=>if ds.length=is.length then .ok (.nx ((is.zip ds).foldl (fun e p=>e.set p.1 (.va p.2)) en)) else .no:=rfl
@[simp] theorem es_parL (i j k:Nat) (a b e:E):evS G c dfl (.parL i j k a b e) en=lf en ((evF G c dfl a en).bind fun x=>(evF G c dfl b en).bind fun y=>(evF G c dfl e en).bind fun z => .ok (x.1,y.1,z)) fun r=>(match r with
  | (x,y,(.list ds,true)) => .ok (.nx (((en.set i (.va x)).set j (.va y)).set k (.ow ds)))
  | _ => .no):=rfl
@[simp] theorem es_parM (i j k:Nat) (a b e:E):evS G c dfl (.parM i j k a b e) en=lf en ((evF G c dfl a en).bind fun x=>(evF G c dfl b en).bind fun y=>(evF G c dfl e en).bind fun z => .ok (x,y,z)) fun r=>(match r with
  | ((.list xs,true),(.list ys,true),(.list zs,true)) => .ok (.nx (((en.set i (.ow xs)).set j (.ow ys)).set k (.ow zs)))
  | _ => .no):=rfl
@[simp] theorem es_xpar (i j:Nat) (a b:XE):evS G c dfl (.xpar i j a b) en=lx ((evX G c dfl a en).bind fun x en1=>(evX G c dfl b en1).bind fun y en2 => .ok (x,y) en2) fun p en1 => .ok (.nx ((en1.set i (.va p.1)).set j (.va p.2))):=rfl
@[simp] theorem es_setI (i:Nat) (k e:E):evS G c dfl (.setI i k e) en=lf en (evF G c dfl e en) fun x=>(match en[i]? with
  | some (.ow ds)=>lf en (evF G c dfl k en) fun kv=>(intR kv.1).bind fun j=>(setD ds j x.1).bind fun ds' => .ok (.nx (en.set i (.ow ds')))
  | some (.st ds)=>lf en (evF G c dfl k en) fun kv=>(intR kv.1).bind fun j=>(setD ds j x.1).bind fun ds' => .ok (.nx (en.set i (.st ds')))
  | some (.dk kvs)=>lf en (evF G c dfl k en) fun kv=>if keyOk kv.1=true∧kvs.length<line then .ok (.nx (en.set i (.dk (dput kvs kv.1 x.1)))) else .no
  | some (.dj kvs)=>lf en (evF G c dfl k en) fun kv=>if jkB kv.1=true∧kvs.length<line then .ok (.nx (en.set i (.dj (jput kvs kv.1 x.1)))) else .no
  | _ => .no):=rfl
@[simp] theorem es_aug (i:Nat) (o:O2) (e:E):evS G c dfl (.aug i o e) en=(match en[i]? with
  | some (.va (.int d))=>lf en (evF G c dfl e en) fun x=>(sem2 o (.int d) x.1).bind fun z => .ok (.nx (en.set i (.va z.1)))
  | some (.va (.str d))=>lf en (evF G c dfl e en) fun x=>(sem2 o (.str d) x.1).bind fun z => .ok (.nx (en.set i (.va z.1)))
  | some (.ow ds)=>lf en (evF G c dfl e en) fun x=>(extL o ds x).bind fun ds' => .ok (.nx (en.set i (.ow ds')))
  | _ => .no):=rfl
@[simp] theorem es_app (i:Nat) (e:E):evS G c dfl (.app i e) en=(match en[i]? with
  | some (.ow ds)=>lf en (evF G c dfl e en) fun x=>if ds.length<line then .ok (.nx (en.set i (.ow (ds++[x.1])))) else .no
  | _ => .no):=rfl
@[simp] theorem es_extT (i:Nat) (e:E):evS G c dfl (.extT i e) en=(match en[i]? with
  | some (.ow ds)=>lf en (evF G c dfl e en) fun x=>(match x.1 with
   | .tuple xs=>if ds.length+xs.length<line then .ok (.nx (en.set i (.ow (ds++xs)))) else .no
   | _ => .no)
  | _ => .no):=rfl
@[simp] theorem es_pop (i:Nat):evS G c dfl (.pop i) en=(match en[i]? with
  | some (.ow ds)=>if ds=[] then .no else .ok (.nx (en.set i (.ow ds.dropLast)))
  | _ => .no):=rfl
@[simp] theorem es_popA (tg:Tg) (i:Nat):evS G c dfl (.popA tg i) en=(match en[i]? with
  | some (.ow ds)=>(match ds.getLast? with
   | some d=>(bindT tg d (en.set i (.ow ds.dropLast))).bind fun en' => .ok (.nx en')
   | none => .no)
  | _ => .no):=rfl
@[simp] theorem es_rvs (i:Nat):evS G c dfl (.rvs i) en=(match en[i]? with
  | some (.ow ds) => .ok (.nx (en.set i (.ow ds.reverse)))
  | _ => .no):=rfl
@[simp] theorem es_frz (i:Nat):evS G c dfl (.frz i) en=(match en[i]? with
  | some (.ow ds) => .ok (.nx (en.set i (.va (.list ds))))
  | some (.dk kvs) => .ok (.nx (en.set i (.fd kvs)))
  | some (.dj kvs) => .ok (.nx (en.set i (.va (.dict kvs))))
  | _ => .no):=rfl
theorem ess_wks (i w j:Nat) (ks:List Nat) (es:Es) (r:Ss):evSs G c dfl (.wks i w j ks es r) en=if i<en.length∧w<en.length then (match wksR G c dfl j ks (en.set i .un) es with
  | .ok ds=>if ds.length<line then (match sem2 .inn (.bool false) (.list ds) with
   | .ok (.bool true,_) => .ok (.rt (.bool false) false)
   | .ok (.bool false,_)=>evSs G c dfl r (en.set i .un)
   | _ => .no) else .no
  | _ => .no) else .no:=rfl
@[simp] theorem es_retT (i:Nat) (e:E):evS G c dfl (.retT i e) en=(match en[i]? with
  | some (.ow ds)=>lf en (evF G c dfl e en) fun x => .ok (.rtT ds [x.1])
  | _ => .no):=rfl
@[simp] theorem es_retL (a e:E):evS G c dfl (.retL a e) en=lf en ((evF G c dfl a en).bind fun x=>(evF G c dfl e en).bind fun y => .ok (x,y.1)) fun p=>(match p with
  | ((.list ds,true),y) => .ok (.rtT ds [y])
  | _ => .no):=rfl
@[simp] theorem es_ite (t:E) (a b:Ss):evS G c dfl (.ite t a b) en=lf en (evT G c dfl t en) fun k=>if k then evSs G c dfl a en else evSs G c dfl b en:=rfl
theorem es_whl (t:E) (b:Ss):evS G c dfl (.whl t b) en=whileR (evT G c dfl t) (evSs G c dfl b) en:=rfl
theorem es_for (tg:Tg) (it:It) (b:Ss):evS G c dfl (.for_ tg it b) en=lf en (evI G c dfl it en) fun ds=>forR (bindT tg) (evSs G c dfl b) ds en:=rfl
@[simp] theorem es_ret (e:E):evS G c dfl (.ret e) en=lf en (evF G c dfl e en) fun x => .ok (.rt x.1 x.2):=rfl
@[simp] theorem es_retO (i:Nat):evS G c dfl (.retO i) en=(match en[i]? with
  | some (.ow ds) => .ok (.rt (.list ds) true)
  | _ => .no):=rfl
@[simp] theorem es_retN:evS G c dfl .retN en = .ok (.rt .none false):=rfl
@[simp] theorem es_brk:evS G c dfl .brk en = .ok (.bk en):=rfl
@[simp] theorem es_cnt:evS G c dfl .cnt en = .ok (.ct en):=rfl
@[simp] theorem es_rai (k:Nat):evS G c dfl (.rai k) en = .ok (.ex k en):=rfl
@[simp] theorem es_try (h i:Nat) (ks:List Nat) (b:Ss):evS G c dfl (.tryA h i ks b) en=(evSs G c dfl b en).bind fun fl=>(match fl with
  | .ex c e=>if ks.contains c then .ok (.nx ((e.set h .un).set i (.er c))) else .no
  | fl => .ok fl):=rfl
@[simp] theorem es_tryN (k i:Nat) (b:Ss):evS G c dfl (.tryN k i b) en=(evSs G c dfl b en).bind fun fl=>(match fl with
  | .ex c e=>if c==k then .ok (.nx (e.set i (.va .none))) else .no
  | fl => .ok fl):=rfl
@[simp] theorem es_iteR (t:E) (f i:Nat) (c' d:Str) (e:E) (b:Ss):evS G c dfl (.iteR t f i c' d e b) en=lf en (evT G c dfl t en) fun k=>if k then lf en ((val en i).bind strR) fun x=>if (c'==d)=false∧x.length+(x.length+1)*d.length≤line then lf en (evF G c dfl e en) fun y=>(match y.1 with
   | .str z=>if (Txt.replace x c' d).length+z.length≤line then .ok (.nx (en.set f (.va (.str (Txt.replace x c' d++z))))) else .no
   | _ => .no) else .no else evSs G c dfl b en:=rfl
@[simp] theorem es_exp (e:E):evS G c dfl (.exp e) en=lf en (evF G c dfl e en) fun _ => .ok (.nx en):=rfl
end
@[simp] theorem bindT_nm (i:Nat) (d:D) (en:En):bindT (.nm i) d en = .ok (en.set i (.va d)):=rfl
@[simp] theorem bindT_tpt (ts:Tgs) (ds:List D) (en:En):bindT (.tp ts) (.tuple ds) en=bindTs ts ds en:=rfl
@[simp] theorem bindT_tpl (ts:Tgs) (ds:List D) (en:En):bindT (.tp ts) (.list ds) en=bindTs ts ds en:=rfl
@[simp] theorem bindTs_nil (en:En):bindTs .nil [] en = .ok en:=rfl
@[simp] theorem bindTs_cons (t:Tg) (r:Tgs) (d:D) (ds:List D) (en:En):bindTs (.cons t r) (d::ds) en=(bindT t d en).bind fun en'=>bindTs r ds en':=rfl
@[simp] theorem v1_bind {α:Type} (d:D) (f:D×Bool→R α):(v1 d).bind f=f (d,false):=rfl
@[simp] theorem lf_v1 (en:En) (d:D) (f:D×Bool→R Fl):lf en (v1 d) f=f (d,false):=rfl
@[simp] theorem v1_nox (d:D):(v1 d).nox=v1 d:=rfl
@[simp] theorem intR_int (i:Int):intR (.int i) = .ok i:=rfl
@[simp] theorem seqR_list (xs:List D):seqR (.list xs) = .ok xs:=rfl
@[simp] theorem seqR_tuple (xs:List D):seqR (.tuple xs) = .ok xs:=rfl
@[simp] theorem truR_bool (b:Bool):truR (.bool b) = .ok b:=rfl
@[simp] theorem truR_int (i:Int):truR (.int i) = .ok (i != 0):=rfl
@[simp] theorem truR_none:truR .none = .ok false:=rfl
@[simp] theorem truR_list (xs:List D):truR (.list xs) = .ok (!xs.isEmpty):=rfl
@[simp] theorem truR_tuple (xs:List D):truR (.tuple xs) = .ok (!xs.isEmpty):=rfl
@[simp] theorem strR_s (x:Str):strR (.str x) = .ok x:=rfl
@[simp] theorem listR_l (x:List D):listR (.list x) = .ok x:=rfl
@[simp] theorem s1_lens (x:Str):sem1 .len (.str x)=if x.length≤line then v1 (.int x.length) else .no:=rfl
@[simp] theorem s2_adds (x y:Str):sem2 .add (.str x) (.str y)=if x.length+y.length≤line then v1 (.str (x++y)) else .no:=rfl
@[simp] theorem s2_idxs (x:Str) (i:Int):sem2 .idx (.str x) (.int i)=sgnAt x i:=rfl
@[simp] theorem s2_inns (x z:Str):sem2 .inn (.str x) (.str z)=inS false x z:=rfl
@[simp] theorem s2_nins (x z:Str):sem2 .nin (.str x) (.str z)=inS true x z:=rfl
@[simp] theorem semSl_s (z:Str) (lo hi:Option Int):semSl (.str z) lo hi=if z.length≤line then v1 (.str (L2.cutS z lo hi)) else .no:=rfl
@[simp] theorem s1_neg (i:Int):sem1 .neg (.int i)=v1 (.int (-i)):=rfl
theorem s1_abs0 (i:Int):sem1 .abs (.int i)=v1 (.int (if i<0 then -i else i)):=rfl
@[simp] theorem s1_abs (i:Int):sem1 .abs (.int i)=v1 (.int (i.natAbs:Int)):=by
 rw [s1_abs0];by_cases h:i<0
 ·rw [if_pos h,show -i=(i.natAbs:Int) by omega]
 ·rw [if_neg h,show (i.natAbs:Int)=i by omega]
@[simp] theorem s1_lenl (xs:List D):sem1 .len (.list xs)=v1 (.int xs.length):=rfl
@[simp] theorem s1_lent (xs:List D):sem1 .len (.tuple xs)=v1 (.int xs.length):=rfl
@[simp] theorem s1_listl (xs:List D):sem1 .list (.list xs) = .ok (.list xs,true):=rfl
@[simp] theorem s1_listt (xs:List D):sem1 .list (.tuple xs) = .ok (.list xs,true):=rfl
@[simp] theorem s1_tuplel (xs:List D):sem1 .tuple (.list xs)=v1 (.tuple xs):=rfl
@[simp] theorem s1_tuplet (xs:List D):sem1 .tuple (.tuple xs)=v1 (.tuple xs):=rfl
@[simp] theorem s1_intB (b:Bool):sem1 .intB (.bool b)=v1 (.int (if b then 1 else 0)):=rfl
@[simp] theorem s1_intI (i:Int):sem1 .intB (.int i)=v1 (.int i):=rfl
@[simp] theorem asV_nil:asV []=[]:=rfl
@[simp] theorem asV_rd (ds:List D) (ss:List Sl):asV (.rd ds::ss) = .va (.list ds)::asV ss:=rfl
@[simp] theorem asV_va (d:D) (ss:List Sl):asV (.va d::ss) = .va d::asV ss:=rfl
@[simp] theorem noL_b (b:Bool):noL (.bool b)=true:=rfl
@[simp] theorem noL_i (i:Int):noL (.int i)=true:=rfl
@[simp] theorem noL_n:noL .none=true:=rfl
@[simp] theorem noL_s (x:Str):noL (.str x)=true:=rfl
@[simp] theorem noL_t (xs:List D):noL (.tuple xs)=noLs xs:=rfl
@[simp] theorem noLs_n:noLs []=true:=rfl
@[simp] theorem noLs_c (d:D) (ds:List D):noLs (d::ds)=(noL d&&noLs ds):=rfl
@[simp] theorem semTrev_l (xs:List D):semTrev (.list xs)=v1 (.tuple xs.reverse):=rfl
@[simp] theorem semRev_l (xs:List D):semRev (.list xs) = .ok (.list xs.reverse,true):=rfl
@[simp] theorem semRev_t (xs:List D):semRev (.tuple xs)=v1 (.tuple xs.reverse):=rfl
@[simp] theorem semRep_l (ds:List D) (k:Int):semRep (.list ds,true) k=if -1000000≤k∧k≤1000000∧ds.length*k.toNat≤line then .ok (.list (List.replicate k.toNat ds).flatten,true) else .no:=rfl
@[simp] theorem s2_mult (xs:List D) (n:Int):sem2 .mul (.tuple xs) (.int n)=if -1000000≤n∧n≤1000000∧xs.length*n.toNat≤line then v1 (.tuple (List.replicate n.toNat xs).flatten) else .no:=rfl
@[simp] theorem s1_all (xs:List D):sem1 .all (.list xs)=(allB xs).bind fun b=>v1 (.bool b):=rfl
@[simp] theorem s2_addi (i j:Int):sem2 .add (.int i) (.int j)=v1 (.int (i+j)):=rfl
@[simp] theorem s2_addl (xs ys:List D):sem2 .add (.list xs) (.list ys)=if xs.length+ys.length≤line then .ok (.list (xs++ys),true) else .no:=rfl
@[simp] theorem s2_addt (xs ys:List D):sem2 .add (.tuple xs) (.tuple ys)=if xs.length+ys.length≤line then v1 (.tuple (xs++ys)) else .no:=rfl
@[simp] theorem s2_sub (i j:Int):sem2 .sub (.int i) (.int j)=v1 (.int (i-j)):=rfl
@[simp] theorem s2_mul (i j:Int):sem2 .mul (.int i) (.int j)=if mulOk i j then v1 (.int (i*j)) else .no:=rfl
@[simp] theorem s2_fdiv (i j:Int):sem2 .fdiv (.int i) (.int j)=if j=0 then .no else v1 (.int (i.fdiv j)):=rfl
@[simp] theorem s2_mod (i j:Int):sem2 .mod (.int i) (.int j)=if j=0 then .no else v1 (.int (i.fmod j)):=rfl
@[simp] theorem s2_pow (i j:Int):sem2 .pow (.int i) (.int j)=if 0≤j∧j≤1000000∧i.natAbs<2^64 then v1 (.int (i^j.toNat)) else .no:=rfl
@[simp] theorem s2_lt (i j:Int):sem2 .lt (.int i) (.int j)=v1 (.bool (decide (i<j))):=rfl
@[simp] theorem s2_le (i j:Int):sem2 .le (.int i) (.int j)=v1 (.bool (decide (i≤j))):=rfl
@[simp] theorem s2_gt (i j:Int):sem2 .gt (.int i) (.int j)=v1 (.bool (decide (j<i))):=rfl
@[simp] theorem s2_ge (i j:Int):sem2 .ge (.int i) (.int j)=v1 (.bool (decide (j≤i))):=rfl
@[simp] theorem s2_idxl (xs:List D) (i:Int):sem2 .idx (.list xs) (.int i)=atD xs i:=rfl
@[simp] theorem s2_idxt (xs:List D) (i:Int):sem2 .idx (.tuple xs) (.int i)=atD xs i:=rfl
@[simp] theorem s2_max (i j:Int):sem2 .max2 (.int i) (.int j)=v1 (.int (max i j)):=by
 show v1 (.int (if j>i then j else i))=_;rw [Int.max_def];split <;> split <;> first | rfl | (congr 2;omega)
@[simp] theorem s2_min (i j:Int):sem2 .min2 (.int i) (.int j)=v1 (.int (min i j)):=by
 show v1 (.int (if j<i then j else i))=_;rw [Int.min_def];split <;> split <;> first | rfl | (congr 2;omega)
theorem s2_eq (a b:D):sem2 .eq a b=if SeqAt.shaped a=true∧SeqAt.shaped b=true then v1 (.bool (a.eqv b)) else .no:=by cases a <;> cases b <;> rfl
theorem s2_ne (a b:D):sem2 .ne a b=if SeqAt.shaped a=true∧SeqAt.shaped b=true then v1 (.bool (!a.eqv b)) else .no:=by cases a <;> cases b <;> rfl
@[simp] theorem s2_eqi (i j:Int):sem2 .eq (.int i) (.int j)=v1 (.bool (i==j)):=by rw [s2_eq];rfl
@[simp] theorem s2_nei (i j:Int):sem2 .ne (.int i) (.int j)=v1 (.bool (!(i==j))):=by rw [s2_ne];rfl
mutual
theorem eqv_self:∀d:D,d.canLay0=true→d.eqv d=true
 | .none,_=>rfl
 | .bool b,_=>by cases b <;> rfl
 | .int i,_=>by show (i==i)=true;simp
 | .str x,_=>by show (x==x)=true;simp
 | .list xs,h=>eqvAll_self xs (by simpa [PyData.canLay0] using h)
 | .tuple xs,h=>eqvAll_self xs (by simpa [PyData.canLay0] using h)
 | .dict kvs,h=>by simp [PyData.canLay0] at h
theorem eqvAll_self:∀ds:List D,PyData.canLayAll0 ds=true→PyData.eqvAll ds ds=true
 | [],_=>rfl
 | d::ds,h=>by
  have h':d.canLay0=true∧PyData.canLayAll0 ds=true:=by simpa [PyData.canLayAll0] using h
  show (d.eqv d&&PyData.eqvAll ds ds)=true;rw [eqv_self d h'.1,eqvAll_self ds h'.2];rfl
end
section
variable {t:En→R Bool} {b:En→R Fl}
theorem nextFl_mono {k k':En→R Fl} (h:∀e,k e ≠ .no→k' e=k e):∀fl,nextFl k fl ≠ .no→nextFl k' fl=nextFl k fl
 | .nx e,z=>h e z
 | .ct e,z=>h e z
 | .bk e,_=>rfl
 | .rt d f,_=>rfl
 | .ex c e,_=>rfl
 | .rtT d r,_=>rfl
 | .rtS d r,_=>rfl
theorem whileN_succ:∀n en,whileN t b n en ≠ .no→whileN t b (n+1) en=whileN t b n en
 | 0,en,h=>absurd rfl h
 | n+1,en,h=>by
  unfold whileN at h ⊢;cases ht:t en with
  | no=>rfl
  | ex c=>rfl
  | ok k =>
   rw [ht] at h;cases k with
   | false=>rfl
   | true =>
    have h:(b en).bind (nextFl (whileN t b n)) ≠ .no:=h;show (b en).bind (nextFl (whileN t b (n+1)))=(b en).bind (nextFl (whileN t b n));cases hb:b en with
    | no=>rfl
    | ex c=>rfl
    | ok fl =>
     rw [hb] at h;exact nextFl_mono (fun e z=>whileN_succ n e z) fl h
theorem whileN_le {n m:Nat} (h:n≤m) {en:En} (z:whileN t b n en ≠ .no):whileN t b m en=whileN t b n en:=by
 induction h with
 | refl=>rfl
 | step h ih=>rw [whileN_succ _ _ (by rw [ih];exact z),ih]
theorem whileR_of {n:Nat} {en:En} (z:whileN t b n en ≠ .no):whileR t b en=whileN t b n en:=by
 have h:∃n,whileN t b n en ≠ .no:=⟨n,z⟩;unfold whileR;rw [dif_pos h];have e1:=whileN_le (Nat.le_max_left h.choose n) h.choose_spec;have e2:=whileN_le (Nat.le_max_right h.choose n) z;rw [←e1,e2]
theorem whileR_no {en:En} (z:∀n,whileN t b n en = .no):whileR t b en = .no:=by
 unfold whileR;rw [dif_neg fun ⟨n,h⟩=>h (z n)]
theorem whileR_stop {en:En} (h:t en = .ok false):whileR t b en = .ok (.nx en):=by
 have e:whileN t b 1 en = .ok (.nx en):=by unfold whileN;rw [h];rfl
 rw [whileR_of (n:=1) (by rw [e];exact fun z=>by cases z),e]
theorem whileR_step {en:En} (h:t en = .ok true):whileR t b en=(b en).bind (nextFl (whileR t b)):=by
 have e:∀n,whileN t b (n+1) en=(b en).bind (nextFl (whileN t b n)):=fun n=>by
  conv=>lhs;unfold whileN
  rw [h];rfl
 by_cases z:∃n,whileN t b n en ≠ .no
 ·obtain ⟨n,z⟩:=z;cases n with
  | zero=>exact absurd rfl z
  | succ n =>
   rw [whileR_of z,e n];rw [e n] at z;cases hb:b en with
   | no=>rfl
   | ex c=>rfl
   | ok fl =>
    rw [hb] at z;have z:nextFl (whileN t b n) fl ≠ .no:=z;show nextFl (whileN t b n) fl=nextFl (whileR t b) fl;exact (nextFl_mono (fun e he=>whileR_of he) fl z).symm
 ·have z':∀n,whileN t b n en = .no:=fun n=>Classical.byContradiction fun q=>z ⟨n,q⟩;rw [whileR_no z'];cases hb:b en with
  | no=>rfl
  | ex c=>have q:=z' 1;rw [e 0,hb] at q;cases q
  | ok fl =>
   have q:∀n,nextFl (whileN t b n) fl = .no:=fun n=>by have q:=z' (n+1);rw [e n,hb] at q;exact q
   cases fl with
   | nx e1=>exact (whileR_no q).symm
   | ct e1=>exact (whileR_no q).symm
   | bk e1=>have:=q 0;cases this
   | rt d f=>have:=q 0;cases this
   | rtT d f=>have:=q 0;cases this
   | rtS d f=>have:=q 0;cases this
   | ex c e1=>have:=q 0;cases this
@[simp] theorem forR_nil {g:D→En→R En} (en:En):forR g b [] en = .ok (.nx en):=rfl
theorem forR_cons {g:D→En→R En} (d:D) (ds:List D) (en:En):forR g b (d::ds) en=(g d en).bind fun e1=>(b e1).bind (nextFl (forR g b ds)):=rfl
end
def outF:R Fl→R (D×Bool)
 | .ok (.rt d fr) => .ok (d,fr)
 | .ok (.nx _) => .ok (.none,false)
 | .ok (.ex c _) => .ex c
 | _ => .no
@[simp] theorem rfR_ok (ks:List Nat) (p:D×Bool) (k:Sl→R (D×Bool)):rfR ks (.ok p) k=(k (.va .none)).nox:=rfl
@[simp] theorem rfR_ex (ks:List Nat) (n:Nat) (k:Sl→R (D×Bool)):rfR ks (.ex n) k=if ks.contains n then (k (.er n)).nox else .no:=rfl
@[simp] theorem rfR_no (ks:List Nat) (k:Sl→R (D×Bool)):rfR ks .no k = .no:=rfl
@[simp] theorem outF_rt (d:D) (fr:Bool):outF (.ok (.rt d fr)) = .ok (d,fr):=rfl
@[simp] theorem outF_nx (en:En):outF (.ok (.nx en)) = .ok (.none,false):=rfl
@[simp] theorem outF_ex (c:Nat) (en:En):outF (.ok (.ex c en)) = .ex c:=rfl
theorem callN_lt {G:Nat→D} {T:List Fn} {j:Nat} {ss:List Sl}:∀{k:Nat},j<k→callN G T k j ss=callN G T (j+1) j ss
 | 0,h=>by omega
 | k+1,h=>by
  by_cases e:j=k
  ·rw [e]
  ·conv=>lhs;unfold callN
   rw [if_neg e];exact callN_lt (by omega)
def noOw:List Sl→Bool
 | .ow _::_=>false
 | _=>true
theorem callN_at {G:Nat→D} {T:List Fn} {j:Nat} {f:Fn} {ss:List Sl} (h:T[j]?=some f) (hl:ss.length=f.ps.length) (hs:noOw ss=true) :
  callN G T (j+1) j ss=outF (evSs G (callN G T j) (dflT T) f.body (ss++List.replicate (f.N.length-ss.length) .un)):=by
 conv=>lhs;unfold callN
 rw [if_pos rfl,h];simp only [if_pos hl];cases ss with
 | nil=>rfl
 | cons s r=>cases s <;> first
  | rfl
  | cases hs
@[simp] theorem stE_rt (ds:List D) (d:D) (ds':List D):stE ds (.ok (.rtS d ds')) = .ok (.tuple [.list ds',d],false):=rfl
@[simp] theorem stE_nx (ds ds':List D) (en:En):stE ds (.ok (.nx (.st ds'::en))) = .ok (.tuple [.list ds',.none],false):=rfl
@[simp] theorem stE_ex (ds:List D) (c:Nat) (en:En):stE ds (.ok (.ex c (.st ds::en))) = .ex c:=by
 show (open Classical in if (Sl.st ds::en)[(0:Nat)]?=some (.st ds) then R.ex c else .no)=_;exact if_pos rfl
@[simp] theorem XR.bind_ok {α β:Type} (a:α) (en:En) (f:α→En→XR β):(XR.ok a en).bind f=f a en:=rfl
@[simp] theorem XR.bind_ex {α β:Type} (c:Nat) (en:En) (f:α→En→XR β):(XR.ex c en:XR α).bind f = .ex c en:=rfl
@[simp] theorem XR.of_ok {α:Type} (a:α) (en:En):XR.of en (R.ok a) = .ok a en:=rfl
@[simp] theorem XR.of_ex {α:Type} (c:Nat) (en:En):(XR.of en (R.ex c):XR α) = .ex c en:=rfl
@[simp] theorem lx_ok {α:Type} (a:α) (en:En) (f:α→En→R Fl):lx (.ok a en) f=f a en:=rfl
@[simp] theorem lx_ex {α:Type} (c:Nat) (en:En) (f:α→En→R Fl):lx (.ex c en) f = .ok (.ex c en):=rfl
section
variable {G:Nat→D} {c:Nat→List Sl→R (D×Bool)} {dfl:Nat→Nat→List D} {en:En}
@[simp] theorem ex_pu (e:E):evX G c dfl (.pu e) en=XR.of en ((evF G c dfl e en).bind fun p => .ok p.1):=rfl
@[simp] theorem ex_st (j i:Nat) (xs:Xs):evX G c dfl (.st j i xs) en=if isL en i=true then (evXs G c dfl xs en).bind fun rs en1=>(match xSls en1 i rs with
  | some ss=>(match en1[i]? with
   | some (.ow ds)=>stR ss (c j (.ow ds::asV ss)) (fun ds' d => .ok d (en1.set i (.ow ds'))) fun n => .ex n en1
   | some (.st ds)=>stR ss (c j (.ow ds::asV ss)) (fun ds' d => .ok d (en1.set i (.st ds'))) fun n => .ex n en1
   | _ => .no)
  | none => .no) else .no:=rfl
@[simp] theorem ex_not (a:XE):evX G c dfl (.not a) en=(evX G c dfl a en).bind fun x en1=>(XR.of en1 (truR x)).bind fun t en1 => .ok (.bool (!t)) en1:=rfl
@[simp] theorem ex_op2 (o:O2) (a b:XE):evX G c dfl (.op2 o a b) en=(evX G c dfl a en).bind fun x en1=>(evX G c dfl b en1).bind fun y en2=>XR.of en2 ((sem2 o x y).bind fun p => .ok p.1):=rfl
@[simp] theorem ex_tup (xs:Xs):evX G c dfl (.tup xs) en=(evXs G c dfl xs en).bind fun rs en1=>(match xVs rs with
  | some ds=>if ds.length≤line then .ok (.tuple ds) en1 else .no
  | none => .no):=rfl
@[simp] theorem ex_lst (xs:Xs):evX G c dfl (.lst xs) en=(evXs G c dfl xs en).bind fun rs en1=>(match xVs rs with
  | some ds=>if ds.length≤line then .ok (.list ds) en1 else .no
  | none => .no):=rfl
@[simp] theorem ex_call (j m:Nat) (xs:Xs):evX G c dfl (.call j xs m) en=(evXs G c dfl xs en).bind fun rs en1=>(match xVs rs with
  | some ds=>XR.of en1 ((c j (ds.map .va++(dfl j m).map .va)).bind fun p => .ok p.1)
  | none => .no):=rfl
@[simp] theorem ex_and (a b:XE):evX G c dfl (.and a b) en=(evX G c dfl a en).bind fun x en1=>(XR.of en1 (truR x)).bind fun t en1=>if t then evX G c dfl b en1 else .ok x en1:=rfl
@[simp] theorem ex_or (a b:XE):evX G c dfl (.or a b) en=(evX G c dfl a en).bind fun x en1=>(XR.of en1 (truR x)).bind fun t en1=>if t then .ok x en1 else evX G c dfl b en1:=rfl
@[simp] theorem ex_cmp (elt n:XE) (i:Nat) (own:List (Str×Nat)):evX G c dfl (.cmp elt i n own) en=(evX G c dfl n en).bind fun x en1=>(XR.of en1 ((intR x).bind fun j=>rngR 0 j)).bind fun ds en1 =>
   if ds.length≤line then (match compX (fun d en=>evX G c dfl elt ((wipe en (own.map (·.2))).set i (.va d))) ds en1 with
    | .ok vs en2 => .ok (.list vs) (wipe en2 (own.map (·.2)))
    | _ => .no) else .no:=rfl
@[simp] theorem exs_nil:evXs G c dfl .nil en = .ok [] en:=rfl
@[simp] theorem exs_cons (x:XE) (r:Xs):evXs G c dfl (.cons x r) en=(evX G c dfl x en).bind fun d en1=>(evXs G c dfl r en1).bind fun rs en2 => .ok (.va d::rs) en2:=rfl
@[simp] theorem exs_ln (i:Nat) (r:Xs):evXs G c dfl (.ln i r) en=if isL en i=true then (evXs G c dfl r en).bind fun rs en1 => .ok (.ln i::rs) en1 else .no:=rfl
@[simp] theorem es_xasg (tg:Tg) (x:XE):evS G c dfl (.xasg tg x) en=lx (evX G c dfl x en) fun d en1=>(bindT tg d en1).bind fun en' => .ok (.nx en'):=rfl
@[simp] theorem es_xret (x:XE):evS G c dfl (.xret x) en=lx (evX G c dfl x en) fun d en1=>(match en1[(0:Nat)]? with
  | some (.st ds) => .ok (.rtS d ds)
  | _ => .no):=rfl
@[simp] theorem es_xite (x:XE) (a b:Ss):evS G c dfl (.xite x a b) en=lx (evX G c dfl x en) fun d en1=>lf en1 (truR d) fun k=>if k then evSs G c dfl a en1 else evSs G c dfl b en1:=rfl
@[simp] theorem es_xapp (i:Nat) (x:XE):evS G c dfl (.xapp i x) en=(match en[i]? with
  | some (.ow _)=>lx (evX G c dfl x en) fun d en1=>(match en1[i]? with
   | some (.ow ds)=>if ds.length<line then .ok (.nx (en1.set i (.ow (ds++[d])))) else .no
   | _ => .no)
  | _ => .no):=rfl
@[simp] theorem es_xfor (i:Nat) (x:XE) (b:Ss):evS G c dfl (.xfor i x b) en=lx (evX G c dfl x en) fun d en1=>lf en1 ((intR d).bind fun j=>rngR 0 j) fun ds=>forR (bindT (.nm i)) (evSs G c dfl b) ds en1:=rfl
@[simp] theorem es_augI (i:Nat) (o:O2) (k e:E):evS G c dfl (.augI i o k e) en=(match en[i]? with
  | some (.st ds)=>lf en (evF G c dfl k en) fun kv=>(intR kv.1).bind fun j=>(match L2.atI ds j with
   | some (.int d)=>lf en (evF G c dfl e en) fun x=>(sem2 o (.int d) x.1).bind fun z=>(setD ds j z.1).bind fun ds' => .ok (.nx (en.set i (.st ds')))
   | _ => .no)
  | _ => .no):=rfl
end
@[simp] theorem xSls_nil (en:En) (i:Nat):xSls en i []=some []:=rfl
@[simp] theorem xSls_va (en:En) (i:Nat) (d:D) (r:List XA):xSls en i (.va d::r)=(xSls en i r).map (.va d :: ·):=rfl
@[simp] theorem xSls_ln (en:En) (i k:Nat) (r:List XA):xSls en i (.ln k::r)=(match (if k=i then none else (match en[k]? with
  | some (.ow ds)=>some (Sl.rd ds)
  | _=>none)) with
  | some s=>(xSls en i r).map (s :: ·)
  | none=>none):=rfl
@[simp] theorem xVs_nil:xVs []=some []:=rfl
@[simp] theorem xVs_cons (d:D) (r:List XA):xVs (.va d::r)=(xVs r).map (d :: ·):=rfl
@[simp] theorem lentless_nil:lentless []=true:=rfl
@[simp] theorem lentless_va' (d:D) (r:List Sl):lentless (.va d::r)=lentless r:=rfl
@[simp] theorem lentless_rd (ds:List D) (r:List Sl):lentless (.rd ds::r)=false:=rfl
@[simp] theorem stR_ok (ss:List Sl) (ds:List D) (d:D) (b:Bool) (k:List D→D→XR D) (ek:Nat→XR D):stR ss (.ok (.tuple [.list ds,d],b)) k ek=if (lentless ss||(noL d&&noLs ds))=true then k ds d else .no:=rfl
@[simp] theorem stR_ex (ss:List Sl) (n:Nat) (k:List D→D→XR D) (ek:Nat→XR D):stR ss (.ex n) k ek=if lentless ss=true then ek n else .no:=rfl
@[simp] theorem isL_cons0 (ds:List D) (en:En):isL (.ow ds::en) 0=true:=rfl
@[simp] theorem isL_st0 (ds:List D) (en:En):isL (.st ds::en) 0=true:=rfl
@[simp] theorem isL_succ (s:Sl) (en:En) (i:Nat):isL (s::en) (i+1)=isL en i:=by simp [isL]
@[simp] theorem compX_nil (F:D→En→XR D) (en:En):compX F [] en = .ok [] en:=rfl
def outT:R Fl→R (D×Bool)
 | .ok (.rtT ds r) => .ok (.tuple (.list ds::r),true)
 | _ => .no
@[simp] theorem outT_rt (ds r:List D):outT (.ok (.rtT ds r)) = .ok (.tuple (.list ds::r),true):=rfl
theorem callN_atR {G:Nat→D} {T:List Fn} {j i:Nat} {f:Fn} {r:Ss} {s:Sl} {ss:List Sl} (h:T[j]?=some f) (hb:rfN f.body ss=some (i,r,s)) (hl:ss.length≠f.ps.length) :
  callN G T (j+1) j ss=outF (evSs G (callN G T j) (dflT T) r ((List.replicate f.N.length .un).set i s)):=by
 conv=>lhs;unfold callN
 rw [if_pos rfl,h];simp only [if_neg hl,hb];rfl
end AW
namespace AW
open PySem
def b_is_whole:Ss :=
 (.cons (.ret (.and (.isi (.var 0) [.bi "int"]) (.not (.isi (.var 0) [.bi "bool"])))) .nil)
def b_common_number:Ss :=
 (.cons (.whl (.op2 .gt (.var 1) (.con (.int 0))) (.cons (.par [0,1] (.cons (.var 1) (.cons (.op2 .mod (.var 0) (.var 1)) .nil))) .nil))
  (.cons (.ret (.var 0)) .nil))
def b_fraction (p0 p1 p2:Nat):Ss :=
 (.cons (.ite (.or (.not (.call p0 (.cons (.var 0) .nil) 0)) (.or (.not (.call p0 (.cons (.var 1) .nil) 0)) (.op2 .eq (.var 1) (.con (.int 0))))) (.cons (.rai p1) .nil) (.nil))
  (.cons (.asg (.nm 2) (.call p2 (.cons (.op1 .abs (.var 0)) (.cons (.op1 .abs (.var 1)) .nil)) 0))
  (.cons (.ite (.op2 .lt (.var 1) (.con (.int 0))) (.cons (.asg (.nm 2) (.op1 .neg (.var 2))) .nil) (.nil))
  (.cons (.ret (.tup (.cons (.op2 .fdiv (.var 0) (.var 2)) (.cons (.op2 .fdiv (.var 1) (.var 2)) .nil)))) .nil))))
def b_plus (p0:Nat):Ss :=
 (.cons (.ret (.call p0 (.cons (.op2 .add (.op2 .mul (.op2 .idx (.var 0) (.con (.int 0))) (.op2 .idx (.var 1) (.con (.int 1)))) (.op2 .mul (.op2 .idx (.var 1) (.con (.int 0))) (.op2 .idx (.var 0) (.con (.int 1))))) (.cons (.op2 .mul (.op2 .idx (.var 0) (.con (.int 1))) (.op2 .idx (.var 1) (.con (.int 1)))) .nil)) 0)) .nil)
def b_by (p0:Nat):Ss :=
 (.cons (.ret (.call p0 (.cons (.op2 .mul (.op2 .idx (.var 0) (.con (.int 0))) (.op2 .idx (.var 1) (.con (.int 0)))) (.cons (.op2 .mul (.op2 .idx (.var 0) (.con (.int 1))) (.op2 .idx (.var 1) (.con (.int 1)))) .nil)) 0)) .nil)
def b_law_mixed:Ss :=
 (.cons (.asg (.nm 2) (.op2 .mod (.op2 .mul (.op2 .add (.var 0) (.op2 .mul (.con (.int 7919)) (.var 1))) (.con (.int 48271))) (.con (.int 2147483647))))
  (.cons (.ret (.op2 .mod (.op2 .mul (.var 2) (.op2 .add (.op2 .add (.var 2) (.op2 .mul (.con (.int 2)) (.var 1))) (.con (.int 1)))) (.con (.int 2147483629)))) .nil))
def b_law_low:Ss :=
 (.cons (.par [2,3] (.cons (.op1 .abs (.var 0)) (.cons (.op1 .abs (.var 1)) .nil)))
  (.cons (.whl (.op2 .gt (.var 3) (.con (.int 0))) (.cons (.par [2,3] (.cons (.var 3) (.cons (.op2 .mod (.var 2) (.var 3)) .nil))) .nil))
  (.cons (.ite (.op2 .lt (.var 1) (.con (.int 0))) (.cons (.asg (.nm 2) (.op1 .neg (.var 2))) .nil) (.nil))
  (.cons (.ret (.tup (.cons (.op2 .fdiv (.var 0) (.var 2)) (.cons (.op2 .fdiv (.var 1) (.var 2)) .nil)))) .nil))))
def b_turned (p0 p1:Nat):Ss :=
 (.cons (.ite (.op2 .eq (.op2 .idx (.var 0) (.con (.int 0))) (.con (.int 0))) (.cons (.rai p0) .nil) (.nil))
  (.cons (.ret (.call p1 (.cons (.op2 .idx (.var 0) (.con (.int 1))) (.cons (.op2 .idx (.var 0) (.con (.int 0))) .nil)) 0)) .nil))
def b_negated:Ss :=
 (.cons (.ret (.tup (.cons (.op1 .neg (.op2 .idx (.var 0) (.con (.int 0)))) (.cons (.op2 .idx (.var 0) (.con (.int 1))) .nil)))) .nil)
def b_is_fraction [Nm] (p0 p1:Nat):Ss :=
 (.cons (.ite (.or (.not (.isi (.var 0) [.bi "tuple"])) (.or (.op2 .ne (.op1 .len (.var 0)) (.con (.int 2))) (.not (.op1 .all (.cmp (.call p0 (.cons (.var 1) .nil) 0) (.nm 1) (.seq (.var 0)) .none [(Nm.n 1,1)]))))) (.cons (.ret (.con (.bool false))) .nil) (.nil))
  (.cons (.ret (.and (.op2 .gt (.op2 .idx (.var 0) (.con (.int 1))) (.con (.int 0))) (.op2 .eq (.call p1 (.cons (.op1 .abs (.op2 .idx (.var 0) (.con (.int 0)))) (.cons (.op2 .idx (.var 0) (.con (.int 1))) .nil)) 0) (.con (.int 1))))) .nil))
def b_is_less:Ss :=
 (.cons (.ret (.op2 .lt (.op2 .mul (.op2 .idx (.var 0) (.con (.int 0))) (.op2 .idx (.var 1) (.con (.int 1)))) (.op2 .mul (.op2 .idx (.var 1) (.con (.int 0))) (.op2 .idx (.var 0) (.con (.int 1)))))) .nil)
def b_fraction_text:Ss :=
 (.cons (.ite (.op2 .eq (.op2 .idx (.var 0) (.con (.int 1))) (.con (.int 1))) (.cons (.ret (.op1 .strI (.op2 .idx (.var 0) (.con (.int 0))))) .nil) (.nil))
  (.cons (.ret (.op2 .add (.op2 .add (.op1 .strI (.op2 .idx (.var 0) (.con (.int 0)))) (.con (.str "/"))) (.op1 .strI (.op2 .idx (.var 0) (.con (.int 1)))))) .nil))
def b_law_number_2 (p0:Nat):Ss :=
 (.cons (.asg (.nm 1) (.op2 .mul (.op2 .mul (.op2 .mul (.call p0 (.cons (.var 0) (.cons (.con (.int 91)) .nil)) 0) (.call p0 (.cons (.var 0) (.cons (.con (.int 92)) .nil)) 0)) (.call p0 (.cons (.var 0) (.cons (.con (.int 93)) .nil)) 0)) (.call p0 (.cons (.var 0) (.cons (.con (.int 94)) .nil)) 0)))
  (.cons (.ret (.op2 .idx (.lst (.cons (.op2 .sub (.op2 .mod (.op2 .fdiv (.var 0) (.con (.int 8))) (.con (.int 25))) (.con (.int 12))) (.cons (.con (.int 0)) (.cons (.con (.int 1)) (.cons (.var 1) (.cons (.op1 .neg (.var 1)) (.cons (.op2 .sub (.op2 .mod (.op2 .fdiv (.var 0) (.con (.int 8))) (.con (.int 2001))) (.con (.int 1000))) (.cons (.op1 .neg (.con (.int 1))) (.cons (.op2 .mul (.var 1) (.call p0 (.cons (.var 0) (.cons (.con (.int 96)) .nil)) 0)) .nil))))))))) (.op2 .mod (.var 0) (.con (.int 8))))) .nil))
def b_law_refused_8:Ss :=
 (.rf 2 1 (.cons (.asg (.nm 3) (.isE 1 [0,1,2,3,4,5,6,7,8] [.ow 1,.ow 2,.ow 3,.ow 4]))
  (.cons (.asg (.nm 3) (.or (.var 3) (.isE 1 [0,1,2,3,4,5,6,7,8] [.ow 5,.ow 6,.ow 7,.ow 8])))
  (.cons (.ret (.and (.isE 1 [0,1,2,3,4,5,6,7,8] [.ow 0]) (.and (.isE 1 [0,1,2,3,4,5,6,7,8] [.ve]) (.not (.var 3))))) .nil))))
def b_law_words_right (p0:Nat):Ss :=
 (.cons (.asg (.nm 1) (.op1 .strI (.op2 .idx (.var 0) (.con (.int 0)))))
  (.cons (.ite (.op2 .ne (.op2 .idx (.var 0) (.con (.int 1))) (.con (.int 1))) (.cons (.asg (.nm 1) (.op2 .add (.op2 .add (.var 1) (.con (.str "/"))) (.op1 .strI (.op2 .idx (.var 0) (.con (.int 1)))))) .nil) (.nil))
  (.cons (.ret (.op2 .eq (.call p0 (.cons (.var 0) .nil) 0) (.var 1))) .nil)))
def b_law_two_right (p0 p1 p2 p3 p4 p5 p6 p7 p8 p9:Nat):Ss :=
 (.cons (.ite (.or (.op2 .ne (.call p0 (.cons (.var 0) (.cons (.var 1) .nil)) 0) (.call p1 (.cons (.var 0) (.cons (.var 1) .nil)) 0)) (.op2 .ne (.call p2 (.cons (.var 0) (.cons (.var 1) .nil)) 0) (.call p3 (.cons (.var 0) (.cons (.var 1) .nil)) 0))) (.cons (.ret (.con (.bool false))) .nil) (.nil))
  (.cons (.ite (.or (.op2 .ne (.call p4 (.cons (.var 0) .nil) 0) (.tup (.cons (.op1 .neg (.op2 .idx (.var 0) (.con (.int 0)))) (.cons (.op2 .idx (.var 0) (.con (.int 1))) .nil)))) (.not (.call p5 (.cons (.var 0) .nil) 0))) (.cons (.ret (.con (.bool false))) .nil) (.nil))
  (.cons (.asg (.nm 2) (.call p6 (.cons (.var 0) (.cons (.var 1) .nil)) 0))
  (.cons (.ite (.or (.not (.isi (.var 2) [.bi "bool"])) (.op2 .ne (.var 2) (.op2 .lt (.op2 .mul (.op2 .idx (.var 0) (.con (.int 0))) (.op2 .idx (.var 1) (.con (.int 1)))) (.op2 .mul (.op2 .idx (.var 1) (.con (.int 0))) (.op2 .idx (.var 0) (.con (.int 1))))))) (.cons (.ret (.con (.bool false))) .nil) (.nil))
  (.cons (.ite (.op2 .eq (.op2 .idx (.var 0) (.con (.int 0))) (.con (.int 0))) (.cons (.ret (.rfd p7 [0,1,2,3,4,5,6,7,8] (.call p8 (.cons (.var 0) .nil) 0))) .nil) (.nil))
  (.cons (.ret (.op2 .eq (.call p8 (.cons (.var 0) .nil) 0) (.call p9 (.cons (.op2 .idx (.var 0) (.con (.int 1))) (.cons (.op2 .idx (.var 0) (.con (.int 0))) .nil)) 0))) .nil))))))
def b_law_odd_right (p0 p1 p2:Nat):Ss :=
 (.cons (.asg (.nm 1) (.op2 .idx (.lst (.cons (.con .none) (.cons (.con (.bool true)) (.cons (.con (.bool false)) (.cons (.con (.str "1")) (.cons (.tup (.cons (.con (.int 1)) (.cons (.con (.int 2)) .nil))) (.cons (.lst (.cons (.con (.int 1)) .nil)) (.cons .emp (.cons (.con (.str "x")) .nil))))))))) (.op2 .mod (.var 0) (.con (.int 8)))))
  (.wks 2 4 p0 [0,1,2,3,4,5,6,7,8] (.cons (.call p1 (.cons (.var 1) .nil) 1) (.cons (.call p1 (.cons (.var 1) (.cons (.con (.int 1)) .nil)) 0) (.cons (.call p1 (.cons (.con (.int 1)) (.cons (.var 1) .nil)) 0) (.cons (.call p1 (.cons (.op2 .mod (.var 0) (.con (.int 99))) (.cons (.con (.int 0)) .nil)) 0) .nil))))
  (.cons (.asg (.nm 3) (.lst (.cons (.con .none) (.cons (.con (.int 5)) (.cons (.con (.bool true)) (.cons (.con (.str "1/2")) (.cons (.lst (.cons (.con (.int 1)) (.cons (.con (.int 2)) .nil))) (.cons (.tup (.cons (.con (.int 1)) .nil)) (.cons (.tup (.cons (.con (.int 1)) (.cons (.con (.int 2)) (.cons (.con (.int 3)) .nil)))) (.cons (.tup (.cons (.con (.int 1)) (.cons (.con (.int 0)) .nil))) (.cons (.tup (.cons (.con (.int 1)) (.cons (.op1 .neg (.con (.int 2))) .nil))) (.cons (.tup (.cons (.con (.int 2)) (.cons (.con (.int 4)) .nil))) (.cons (.tup (.cons (.con (.int 0)) (.cons (.con (.int 2)) .nil))) (.cons (.tup (.cons (.con (.bool true)) (.cons (.con (.int 2)) .nil))) .nil))))))))))))))
  (.cons (.asg (.nm 3) (.op2 .add (.var 3) (.lst (.cons (.tup (.cons (.con (.int 1)) (.cons (.con (.bool true)) .nil))) (.cons (.tup (.cons (.con (.str "1")) (.cons (.con (.int 2)) .nil))) (.cons (.tup .nil) (.cons .emp .nil)))))))
  (.cons (.ret (.op2 .is_ (.call p2 (.cons (.op2 .idx (.var 3) (.op2 .mod (.op2 .fdiv (.var 0) (.con (.int 8))) (.con (.int 16)))) .nil) 0) (.con (.bool false)))) .nil)))))
def b_law_21 (p0 p1 p2 p3 p4 p5 p6:Nat):Ss :=
 (.cons (.for_ (.tp (.cons (.nm 1) (.cons (.nm 2) .nil))) (.enum (.op2 .add (.slc (.var 0) .none (.some (.con (.int 80)))) (.lst (.cons (.con (.int 0)) (.cons (.con (.int 1)) (.cons (.con (.int 2)) .nil)))))) (.cons (.asg (.nm 3) (.call p0 (.cons (.var 2) (.cons (.var 1) .nil)) 0))
  (.cons (.asg (.nm 4) (.call p1 (.cons (.call p0 (.cons (.var 3) (.cons (.con (.int 1)) .nil)) 0) .nil) 0))
  (.cons (.asg (.nm 5) (.or (.call p1 (.cons (.call p0 (.cons (.var 3) (.cons (.con (.int 2)) .nil)) 0) .nil) 0) (.con (.int 7))))
  (.cons (.asg (.nm 6) (.call p1 (.cons (.call p0 (.cons (.var 3) (.cons (.con (.int 3)) .nil)) 0) .nil) 0))
  (.cons (.asg (.nm 7) (.call p2 (.cons (.var 4) (.cons (.var 5) .nil)) 0))
  (.cons (.ite (.or (.op2 .ne (.var 7) (.call p3 (.cons (.var 4) (.cons (.var 5) .nil)) 0)) (.or (.op2 .isn (.call p4 (.cons (.var 7) .nil) 0) (.con (.bool true))) (.op2 .ne (.call p2 (.cons (.var 6) .nil) 1) (.tup (.cons (.var 6) (.cons (.con (.int 1)) .nil)))))) (.cons (.ret (.con (.bool false))) .nil) (.nil))
  (.cons (.asg (.nm 8) (.call p2 (.cons (.var 6) (.cons (.op2 .add (.con (.int 1)) (.op2 .mod (.var 3) (.con (.int 60)))) .nil)) 0))
  (.cons (.ite (.or (.not (.call p5 (.cons (.var 7) (.cons (.var 8) .nil)) 0)) (.or (.not (.call p5 (.cons (.var 8) (.cons (.var 7) .nil)) 0)) (.not (.call p5 (.cons (.var 7) (.cons (.var 7) .nil)) 0)))) (.cons (.ret (.con (.bool false))) .nil) (.nil))
  (.cons (.ite (.not (.call p6 (.cons (.call p0 (.cons (.var 3) (.cons (.con (.int 4)) .nil)) 0) .nil) 0)) (.cons (.ret (.con (.bool false))) .nil) (.nil)) .nil))))))))))
  (.cons (.ret (.con (.bool true))) .nil))
end AW
namespace Law
open PySem PySem.Spec PyProof.Rows L2 AW
def top (i:Nat):Stmt:=PySem.Challenge.pw_areawright_k02_fractions.main.body.getD i (.Pass ⟨0,0,0,0⟩)
def f0:Fn:=⟨"is_whole", ["thing"],["thing"],[],(b_is_whole ),false⟩
def f1:Fn:=⟨"common_number", ["one", "other"],["one", "other"],[],(b_common_number ),false⟩
def f2:Fn:=⟨"fraction", ["over", "under"],["over", "under", "part"],[(.int 1)],(b_fraction 0 0 1),false⟩
def f3:Fn:=⟨"is_fraction", ["thing"],["thing", "one"],[],(@b_is_fraction ⟨fun i=>["thing", "one"].getD i ""⟩ 0 1),false⟩
def f4:Fn:=⟨"_law_mixed", ["_law_cell", "_law_k"],["_law_cell", "_law_k", "_law_number_here"],[],(b_law_mixed ),false⟩
def f5:Fn:=⟨"_law_low", ["_law_over", "_law_under"],["_law_over", "_law_under", "_law_one", "_law_other"],[],(b_law_low ),false⟩
def f6:Fn:=⟨"_law_number", ["_law_cell"],["_law_cell", "_law_far"],[],(b_law_number_2 4),false⟩
def f7:Fn:=⟨"plus", ["one", "other"],["one", "other"],[],(b_plus 2),false⟩
def f8:Fn:=⟨"negated", ["one"],["one"],[],(b_negated ),false⟩
def f9:Fn:=⟨"by", ["one", "other"],["one", "other"],[],(b_by 2),false⟩
def f10:Fn:=⟨"turned", ["one"],["one"],[],(b_turned 0 2),false⟩
def f11:Fn:=⟨"is_less", ["one", "other"],["one", "other"],[],(b_is_less ),false⟩
def f12:Fn:=⟨"_law_sum", ["_law_one", "_law_other"],["_law_one", "_law_other"],[],(b_plus 5),false⟩
def f13:Fn:=⟨"_law_times", ["_law_one", "_law_other"],["_law_one", "_law_other"],[],(b_by 5),false⟩
def f14:Fn:=⟨"_law_refused", ["_law_work"],["_law_work", "_law_e", "error", "_law_others"],[],(b_law_refused_8 ),false⟩
def f15:Fn:=⟨"fraction_text", ["one"],["one"],[],(b_fraction_text ),false⟩
def f16:Fn:=⟨"_law_words_right", ["_law_one"],["_law_one", "_law_text"],[],(b_law_words_right 15),false⟩
def f17:Fn:=⟨"_law_two_right", ["_law_one", "_law_other"],["_law_one", "_law_other", "_law_lower"],[],(b_law_two_right 7 12 9 13 8 16 11 14 10 5),true⟩
def f18:Fn:=⟨"_law_odd_right", ["_law_cell"],["_law_cell", "_law_odd", "_law_works", "_law_some", "_law_work"],[],(b_law_odd_right 14 2 3),true⟩
def f19:Fn:=⟨"law", ["_law_script"],["_law_script", "_law_k", "_law_cell", "_law_draw", "_law_over", "_law_under", "_law_more", "_law_found", "_law_other"],[],(b_law_21 4 6 2 5 3 17 18),false⟩
def T:List Fn:=[f0,f1,f2,f3,f4,f5,f6,f7,f8,f9,f10,f11,f12,f13,f14,f15,f16,f17,f18,f19]
def cons:List (Str×D):=[]
def clsN:List Str:=["NoFraction", "NoPoly", "NoQuotient", "NoForm", "NoPlace", "NoArea", "NoText", "NoRow", "TooMany", "AreaError"]
def d0:He.DefD:=⟨("is_whole", none), "is_whole", "is_whole", defArgs (top 12),defBody (top 12),defScope (top 12),[],[]⟩
def d1:He.DefD:=⟨("common_number", none), "common_number", "common_number", defArgs (top 13),defBody (top 13),defScope (top 13),[],[]⟩
def d2:He.DefD:=⟨("fraction", none), "fraction", "fraction", defArgs (top 14),defBody (top 14),defScope (top 14),[.int 1],[]⟩
def d3:He.DefD:=⟨("is_fraction", none), "is_fraction", "is_fraction", defArgs (top 15),defBody (top 15),defScope (top 15),[],[]⟩
def d4:He.DefD:=⟨("_law_mixed", none), "_law_mixed", "_law_mixed", defArgs (top 23),defBody (top 23),defScope (top 23),[],[]⟩
def d5:He.DefD:=⟨("_law_low", none), "_law_low", "_law_low", defArgs (top 24),defBody (top 24),defScope (top 24),[],[]⟩
def d6:He.DefD:=⟨("_law_number", none), "_law_number", "_law_number", defArgs (top 27),defBody (top 27),defScope (top 27),[],[]⟩
def d7:He.DefD:=⟨("plus", none), "plus", "plus", defArgs (top 16),defBody (top 16),defScope (top 16),[],[]⟩
def d8:He.DefD:=⟨("negated", none), "negated", "negated", defArgs (top 17),defBody (top 17),defScope (top 17),[],[]⟩
def d9:He.DefD:=⟨("by", none), "by", "by", defArgs (top 18),defBody (top 18),defScope (top 18),[],[]⟩
def d10:He.DefD:=⟨("turned", none), "turned", "turned", defArgs (top 19),defBody (top 19),defScope (top 19),[],[]⟩
def d11:He.DefD:=⟨("is_less", none), "is_less", "is_less", defArgs (top 20),defBody (top 20),defScope (top 20),[],[]⟩
def d12:He.DefD:=⟨("_law_sum", none), "_law_sum", "_law_sum", defArgs (top 25),defBody (top 25),defScope (top 25),[],[]⟩
def d13:He.DefD:=⟨("_law_times", none), "_law_times", "_law_times", defArgs (top 26),defBody (top 26),defScope (top 26),[],[]⟩
def d14:He.DefD:=⟨("_law_refused", none), "_law_refused", "_law_refused", defArgs (top 28),defBody (top 28),defScope (top 28),[],[]⟩
def d15:He.DefD:=⟨("fraction_text", none), "fraction_text", "fraction_text", defArgs (top 21),defBody (top 21),defScope (top 21),[],[]⟩
def d16:He.DefD:=⟨("_law_words_right", none), "_law_words_right", "_law_words_right", defArgs (top 29),defBody (top 29),defScope (top 29),[],[]⟩
def d17:He.DefD:=⟨("_law_two_right", none), "_law_two_right", "_law_two_right", defArgs (top 30),defBody (top 30),defScope (top 30),[],[]⟩
def d18:He.DefD:=⟨("_law_odd_right", none), "_law_odd_right", "_law_odd_right", defArgs (top 31),defBody (top 31),defScope (top 31),[],[]⟩
def d19:He.DefD:=⟨("law", none), "law", "law", defArgs (top 32),defBody (top 32),defScope (top 32),[],[]⟩
def ds:List He.DefD:=[d0,d1,d2,d3,d4,d5,d6,d7,d8,d9,d10,d11,d12,d13,d14,d15,d16,d17,d18,d19]
def t:Tb:=⟨T,cons,clsN,ds⟩
theorem b0:BindF f0 d0:=⟨fun _ _ _ _ _ _ _ us hl=>match us,hl with | [_],_=>rfl,fun h=>absurd rfl h⟩
theorem b1:BindF f1 d1:=⟨fun _ _ _ _ _ _ _ us hl=>match us,hl with | [_,_],_=>rfl,fun h=>absurd rfl h⟩
theorem b2:BindF f2 d2:=by
 refine ⟨fun h=>(nomatch h),fun _ m hm=>?_⟩;have hm:m≤1:=hm;have hc:m=0∨m=1:=by omega
 rcases hc with rfl | rfl
 ·refine ⟨by decide,fun _ _ _ _ _ _ _ us its h1 h2=>?_⟩;match us,its,h1,h2 with
  | [_,_],[_],_,_=>exact ⟨_,rfl,rfl⟩
 ·refine ⟨by decide,fun _ _ _ _ _ _ _ us its h1 h2=>?_⟩;match us,its,h1,h2 with
  | [_],[_],_,_=>exact ⟨_,rfl,rfl⟩
theorem b3:BindF f3 d3:=⟨fun _ _ _ _ _ _ _ us hl=>match us,hl with | [_],_=>rfl,fun h=>absurd rfl h⟩
theorem b4:BindF f4 d4:=⟨fun _ _ _ _ _ _ _ us hl=>match us,hl with | [_,_],_=>rfl,fun h=>absurd rfl h⟩
theorem b5:BindF f5 d5:=⟨fun _ _ _ _ _ _ _ us hl=>match us,hl with | [_,_],_=>rfl,fun h=>absurd rfl h⟩
theorem b6:BindF f6 d6:=⟨fun _ _ _ _ _ _ _ us hl=>match us,hl with | [_],_=>rfl,fun h=>absurd rfl h⟩
theorem b7:BindF f7 d7:=⟨fun _ _ _ _ _ _ _ us hl=>match us,hl with | [_,_],_=>rfl,fun h=>absurd rfl h⟩
theorem b8:BindF f8 d8:=⟨fun _ _ _ _ _ _ _ us hl=>match us,hl with | [_],_=>rfl,fun h=>absurd rfl h⟩
theorem b9:BindF f9 d9:=⟨fun _ _ _ _ _ _ _ us hl=>match us,hl with | [_,_],_=>rfl,fun h=>absurd rfl h⟩
theorem b10:BindF f10 d10:=⟨fun _ _ _ _ _ _ _ us hl=>match us,hl with | [_],_=>rfl,fun h=>absurd rfl h⟩
theorem b11:BindF f11 d11:=⟨fun _ _ _ _ _ _ _ us hl=>match us,hl with | [_,_],_=>rfl,fun h=>absurd rfl h⟩
theorem b12:BindF f12 d12:=⟨fun _ _ _ _ _ _ _ us hl=>match us,hl with | [_,_],_=>rfl,fun h=>absurd rfl h⟩
theorem b13:BindF f13 d13:=⟨fun _ _ _ _ _ _ _ us hl=>match us,hl with | [_,_],_=>rfl,fun h=>absurd rfl h⟩
theorem b14:BindF f14 d14:=⟨fun _ _ _ _ _ _ _ us hl=>match us,hl with | [_],_=>rfl,fun h=>absurd rfl h⟩
theorem b15:BindF f15 d15:=⟨fun _ _ _ _ _ _ _ us hl=>match us,hl with | [_],_=>rfl,fun h=>absurd rfl h⟩
theorem b16:BindF f16 d16:=⟨fun _ _ _ _ _ _ _ us hl=>match us,hl with | [_],_=>rfl,fun h=>absurd rfl h⟩
theorem b17:BindF f17 d17:=⟨fun _ _ _ _ _ _ _ us hl=>match us,hl with | [_,_],_=>rfl,fun h=>absurd rfl h⟩
theorem b18:BindF f18 d18:=⟨fun _ _ _ _ _ _ _ us hl=>match us,hl with | [_],_=>rfl,fun h=>absurd rfl h⟩
theorem b19:BindF f19 d19:=⟨fun _ _ _ _ _ _ _ us hl=>match us,hl with | [_],_=>rfl,fun h=>absurd rfl h⟩
theorem ck:ckAll T cons clsN T ds=true:=by decide +kernel
theorem bd:BindAll T ds:=⟨b0,⟨b1,⟨b2,⟨b3,⟨b4,⟨b5,⟨b6,⟨b7,⟨b8,⟨b9,⟨b10,⟨b11,⟨b12,⟨b13,⟨b14,⟨b15,⟨b16,⟨b17,⟨b18,⟨b19,trivial⟩⟩⟩⟩⟩⟩⟩⟩⟩⟩⟩⟩⟩⟩⟩⟩⟩⟩⟩⟩
theorem says:TbSays t:=⟨by decide +kernel,ck,bd⟩
end Law
section
namespace Law
open PySem PySem.Spec PyProof.Rows L2 AW
def nm0:List Str:=["__name__", "AreaError", "NoFraction", "NoPoly", "NoQuotient", "NoForm", "NoPlace", "NoArea", "NoText", "NoRow", "TooMany", "is_whole", "common_number", "fraction", "is_fraction", "plus", "negated", "by", "turned", "is_less", "fraction_text", "_law_mixed", "_law_low", "_law_sum", "_law_times", "_law_number", "_law_refused", "_law_words_right", "_law_two_right", "_law_odd_right"]
def names:List Str:=nm0
abbrev R:PySem.W.OpenRow:=PySem.W.OpenLaw.row PySem.Challenge.rw_areawright_k02_fractions
abbrev hk:PySem.W.Hook:=hookA 2 t.fx
def ob (s:PySem.W.SharedT):He.AlD:=obsAG 2 t.fx (HandSHeadRun.getT s)
theorem ob_eq (s:PySem.W.SharedT):ob s=hk.obs s.abs:=obsAG_eq (HandSHeadRun.getT_eq s)
theorem join3 {σ α β γ:Type _} {o:Option σ} {f:σ→α} {g:σ→β} {h:σ→γ} {a:α} {b:β} {c:γ} (h1:o.map f=some a) (h2:o.map g=some b) (h3:o.map h=some c):o.map (fun s=>(f s,g s,h s))=some (a,b,c):=by
 cases o with
 | none=>cases h1
 | some s =>
  simp only [Option.map_some,Option.some.injEq] at h1 h2 h3 ⊢;rw [h1,h2,h3]
section
open PySem.W PySem.Calls
theorem run1 (w:World):∀os:OsState,(HandSHeadRun.endF (HandSHeadRun.stepQ (HandSHeadRun.denQ HandSHeadRun.tabQ) R.prog w) 5000 R.prog w os).map (fun s=>HandSHeadRun.looksF R.prog (boot_heap w.params) s.abs)=some true:=by
 intro os;kernel_rfl
theorem run2 (w:World):∀os:OsState,(HandSHeadRun.endF (HandSHeadRun.stepQ (HandSHeadRun.denQ HandSHeadRun.tabQ) R.prog w) 5000 R.prog w os).map (fun s=>HandSHeadRun.seenQ (view R.prog [32]) names (importedModules R.prog.main.body) (fun s=>xlAt (view R.prog [32]) [] s&&recOk R.toRowW.records s) s.abs)=some (openGood (view R.prog [32]) names):=by
 intro os;kernel_rfl
theorem run3 (w:World):∀os:OsState,(HandSHeadRun.endF (HandSHeadRun.stepQ (HandSHeadRun.denQ HandSHeadRun.tabQ) R.prog w) 5000 R.prog w os).map (fun s=>ob s)=some (hk.val w):=by
 intro os;kernel_rfl
end
theorem run (w:World):HandSHeadRun.RunEq R (PySem.W.view R.prog [32]) hk ob 5000 names w:=by
 intro os;have h1:=run1 w os;have h2:=run2 w os;have h3:=run3 w os;exact join3 h1 h2 h3
end Law
open PySem PySem.W PySem.Calls PyProof.Rows
theorem holds_of (run:∀ns:List Int,ns.length≤63→AW.callN (fun x=>((Law.t.cons[x]?).map (·.2)).getD .none) Law.t.T 20 19 [.va (.list (ns.map .int))] = .ok (.bool true,false)):PySem.Challenge.rw_areawright_k02_fractions.Holds:=by
 w_on;o_law
 refine HandSHeadRun.head_any (r:=OpenLaw.row PySem.Challenge.rw_areawright_k02_fractions) (q:=view (OpenLaw.row PySem.Challenge.rw_areawright_k02_fractions).prog [32]) (H:=Law.hk) (ob:=Law.ob) (M:=5000) (loose:=Law.names) (d:=HandSHeadRun.topDef (OpenLaw.row PySem.Challenge.rw_areawright_k02_fractions).prog 32) (kwd:=[]) Law.ob_eq
  (by kernel_rfl) (fun s=>by kernel_rfl) Law.run (by kernel_rfl) (by kernel_rfl) (by kernel_rfl) (by rfl) (by first | assumption | decide +kernel) (by decide +kernel) ⟨rfl,rfl,rfl,rfl,rfl,by decide +kernel⟩ ?hw ?hc
 case hw=>w_witness2
 case hc =>
  refine LamX.walk_ofTsE (l:=PySem.Challenge.rw_areawright_k02_fractions) (n:=63) (k:=56) (x := "_law_script") (CX:=fun w=>L2.CX (PySem.Challenge.rw_areawright_k02_fractions).prog w) rfl (by decide) (by kernel_rfl) ⟨rfl,by decide,by decide⟩ ?F ?nocx
  case F =>
   intro w mg fa h Y G hmg0;obtain ⟨K,KX,c,tS⟩:=Y;have hmg:mg ("law" : PySem.Str)=some (.ref fa):=by
    have e:(HandSHeadRun.topDef (OpenLaw.row PySem.Challenge.rw_areawright_k02_fractions).prog 32).name=("law" : PySem.Str):=by kernel_rfl
    rw [←e];exact hmg0
   exact ⟨K,KX,AW.law_ok (l:=PySem.Challenge.rw_areawright_k02_fractions) (w:=w) (j:=19) (g:=Law.f19) (d:=Law.d19) (x := "_law_script") (by kernel_rfl) Law.says rfl rfl rfl rfl KX G c tS hmg (lim:=63) run (by decide +kernel)⟩
  case nocx=>exact fun w H s e s' z=>AW.nocx z
end
namespace AW
open PySem PySem.Spec PyProof.Rows
def fr (q:Rat):D := .tuple [.int q.num,.int (q.den:Int)]
section
variable {G:Nat→D} {c:Nat→List Sl→R (D×Bool)} {T:List Fn} {nm:Nm}
noncomputable def bo (G:Nat→D) (c:Nat→List Sl→R (D×Bool)) (T:List Fn) (b:Ss) (ss:List Sl) (n:Nat):R (D×Bool):=outF (evSs G c (dflT T) b (ss++List.replicate n .un))
theorem callN_bo {G:Nat→D} {T:List Fn} {j k:Nat} {f:Fn} {ss:List Sl} (hk:j<k) (h:T[j]?=some f) (hl:ss.length=f.ps.length) (hs:noOw ss=true) :
  callN G T k j ss=bo G (callN G T j) T f.body ss (f.N.length-f.ps.length):=by
 rw [callN_lt hk,callN_at h hl hs,hl];rfl
noncomputable def boR (G:Nat→D) (c:Nat→List Sl→R (D×Bool)) (T:List Fn) (b:Ss) (s:Sl) (n:Nat):R (D×Bool):=match b with
 | .rf _ i r=>outF (evSs G c (dflT T) r ((List.replicate n .un).set i s))
 | _ => .no
theorem callN_boR {G:Nat→D} {T:List Fn} {j k:Nat} {f:Fn} {s:Sl} (hk:j<k) (h:T[j]?=some f) (hl:f.ps.length=1) (hb:(∃h i r,f.body = .rf h i r):=by exact ⟨_,_,_,rfl⟩) :
  callN G T k j [.un,.un,s]=boR G (callN G T j) T f.body s f.N.length:=by
 obtain ⟨h0,i,r,e⟩:=hb;have e2:rfN f.body [.un,.un,s]=some (i,r,s):=by rw [e];rfl
 rw [callN_lt hk,callN_atR h e2 (by rw [hl];simp),e];rfl
@[simp] theorem dflT_zero (j:Nat):dflT T j 0=[]:=by
 unfold dflT;cases T[j]? with
 | none=>rfl
 | some g=>exact List.drop_length
abbrev va (d:D):R (D×Bool) := .ok (d,false)
def SpWhole (c:Nat→List Sl→R (D×Bool)) (j:Nat):Prop:=∀i:Int,c j [.va (.int i)]=va (.bool true)
theorem whole_ok (i:Int):bo G c T b_is_whole [.va (.int i)] 0=va (.bool true):=rfl
def SpGcd (c:Nat→List Sl→R (D×Bool)) (j:Nat):Prop:=∀m n:Nat,c j [.va (.int m),.va (.int n)]=va (.int (Nat.gcd m n:Nat))
theorem gcd_loop (tl:En):∀n m:Nat,whileR (evT G c (dflT T) (.op2 .gt (.var 1) (.con (.int 0)))) (evSs G c (dflT T) (.cons (.par [0,1] (.cons (.var 1) (.cons (.op2 .mod (.var 0) (.var 1)) .nil))) .nil)) (.va (.int m) :: .va (.int n)::tl)
  = .ok (.nx (.va (.int (Nat.gcd m n:Nat)) :: .va (.int 0)::tl)):=by
 intro n;induction n using Nat.strongRecOn with
 | _ n ih =>
  intro m;by_cases h:n=0
  ·subst h;rw [whileR_stop (by simp [val])];simp
  ·rw [whileR_step (by simp [val];omega)];have hm:(m:Int).fmod (n:Int)=((m%n:Nat):Int):=by rw [Int.fmod_eq_emod_of_nonneg _ (by omega)];rfl
   simp [val,h,nextFl];rw [hm,ih (m%n) (Nat.mod_lt _ (by omega)) n,Nat.gcd_comm n,Nat.gcd_comm m n,Nat.gcd_rec n m]
theorem gcd_ok (m n:Nat):bo G c T b_common_number [.va (.int m),.va (.int n)] 0=va (.int (Nat.gcd m n:Nat)):=by
 unfold bo b_common_number;simp only [List.replicate_zero,List.append_nil,ess_cons,es_whl];rw [gcd_loop];simp [val]
end
theorem fr_made {a b:Int} (hb:b≠0):fr (Rat.divInt a b) = .tuple [.int (a.fdiv (if b<0 then -((Nat.gcd a.natAbs b.natAbs:Nat):Int) else ((Nat.gcd a.natAbs b.natAbs:Nat):Int))),.int (b.fdiv (if b<0 then -((Nat.gcd a.natAbs b.natAbs:Nat):Int) else ((Nat.gcd a.natAbs b.natAbs:Nat):Int)))]:=by
 have hg:0<Nat.gcd a.natAbs b.natAbs:=Nat.gcd_pos_of_pos_right _ (by omega);have da:((Nat.gcd a.natAbs b.natAbs:Nat):Int)∣a:=Int.ofNat_dvd_left.mpr (Nat.gcd_dvd_left _ _);have db:((Nat.gcd a.natAbs b.natAbs:Nat):Int)∣b:=Int.ofNat_dvd_left.mpr (Nat.gcd_dvd_right _ _);have e:(b.gcd a)=Nat.gcd a.natAbs b.natAbs:=Nat.gcd_comm _ _;unfold fr;rw [Rat.num_divInt,Rat.den_divInt,if_neg hb,e];generalize Nat.gcd a.natAbs b.natAbs=g at *
 obtain ⟨x,rfl⟩:=da;obtain ⟨y,rfl⟩:=db;have hg':(g:Int)≠0:=by omega
 by_cases h:(g:Int)*y<0
 ·have hs:((g:Int)*y).sign = -1:=Int.sign_eq_neg_one_of_neg h;have hy:y<0:=by
   rcases (by omega:y<0∨0≤y) with z | z
   ·exact z
   ·have:=Int.mul_nonneg (show (0:Int)≤g by omega) z;omega
  rw [if_pos h,hs];have e1 : -1*((g:Int)*x)/(g:Int) = -x:=by
   rw [show -1*((g:Int)*x)=(g:Int)*(-x) by grind,Int.mul_ediv_cancel_left _ hg']
  have e2:((g:Int)*x).fdiv (-(g:Int)) = -x:=by
   rw [show (g:Int)*x=(-x)*(-(g:Int)) by grind,Int.mul_fdiv_cancel _ (by omega)]
  have e3:((g:Int)*y).fdiv (-(g:Int)) = -y:=by
   rw [show (g:Int)*y=(-y)*(-(g:Int)) by grind,Int.mul_fdiv_cancel _ (by omega)]
  have e4:((((g:Int)*y).natAbs/g:Nat):Int) = -y:=by
   rw [Int.natAbs_mul,Int.natAbs_natCast,Nat.mul_div_cancel_left _ hg];omega
  rw [e1,e2,e3,e4]
 ·have hy:0<y:=by
   rcases (by omega:0<y∨y≤0) with z | z
   ·exact z
   ·have:(g:Int)*y≤0:=Int.mul_nonpos_of_nonneg_of_nonpos (by omega) z;exact absurd (by omega:(g:Int)*y=0) hb
  have hs:((g:Int)*y).sign=1:=Int.sign_eq_one_of_pos (by omega);rw [if_neg h,hs];have e1:1*((g:Int)*x)/(g:Int)=x:=by
   rw [Int.one_mul,Int.mul_ediv_cancel_left _ hg']
  have e2:((g:Int)*x).fdiv (g:Int)=x:=by
   rw [Int.mul_comm,Int.mul_fdiv_cancel _ (by omega)]
  have e3:((g:Int)*y).fdiv (g:Int)=y:=by
   rw [Int.mul_comm,Int.mul_fdiv_cancel _ (by omega)]
  have e4:((((g:Int)*y).natAbs/g:Nat):Int)=y:=by
   rw [Int.natAbs_mul,Int.natAbs_natCast,Nat.mul_div_cancel_left _ hg];omega
  rw [e1,e2,e3,e4]
section
variable {G:Nat→D} {c:Nat→List Sl→R (D×Bool)} {T:List Fn} {nm:Nm}
def SpFrac (c:Nat→List Sl→R (D×Bool)) (j:Nat):Prop:=∀a b:Int,b≠0→c j [.va (.int a),.va (.int b)]=va (fr (Rat.divInt a b))
theorem frac_ok {jw e jg:Nat} (hw:SpWhole c jw) (hg:SpGcd c jg) {a b:Int} (hb:b≠0):bo G c T (b_fraction jw e jg) [.va (.int a),.va (.int b)] 1=va (fr (Rat.divInt a b)):=by
 have h0:∀{a b:Int},b≠0→Nat.gcd a.natAbs b.natAbs≠0:=fun {a b} hb=>by
  have:=Nat.gcd_pos_of_pos_right a.natAbs (show 0<b.natAbs by omega);omega
 rw [fr_made hb];unfold bo b_fraction;by_cases h:b<0
 ·have := @h0 a b hb;simp [val,hw a,hw b,hb,hg a.natAbs b.natAbs,h,line,this]
 ·have := @h0 a b hb;simp [val,hw a,hw b,hb,hg a.natAbs b.natAbs,h,line,this]
end
end AW
namespace AW
@[ext] structure PS where
 f:Nat→Rat
namespace PS
def conv (f g:Nat→Rat):Nat→Rat
 | 0=>f 0*g 0
 | n+1=>f 0*g (n+1)+conv (fun k=>f (k+1)) g n
theorem conv_add_l (f f' g:Nat→Rat) (n:Nat):conv (fun k=>f k+f' k) g n=conv f g n+conv f' g n:=by
 induction n generalizing f f' with
 | zero=>simp only [conv];grind
 | succ n ih=>simp only [conv];rw [ih];grind
theorem conv_add_r (f g g':Nat→Rat) (n:Nat):conv f (fun k=>g k+g' k) n=conv f g n+conv f g' n:=by
 induction n generalizing f with
 | zero=>simp only [conv];grind
 | succ n ih=>simp only [conv];rw [ih];grind
theorem conv_smul_l (a:Rat) (f g:Nat→Rat) (n:Nat):conv (fun k=>a*f k) g n=a*conv f g n:=by
 induction n generalizing f with
 | zero=>simp only [conv];grind
 | succ n ih=>simp only [conv];rw [ih];grind
theorem conv_zero_l (g:Nat→Rat) (n:Nat):conv (fun _=>0) g n=0:=by
 induction n with
 | zero=>simp only [conv];grind
 | succ n ih=>simp only [conv];rw [ih];grind
theorem conv_zero_r (f:Nat→Rat) (n:Nat):conv f (fun _=>0) n=0:=by
 induction n generalizing f with
 | zero=>simp only [conv];grind
 | succ n ih=>simp only [conv];rw [ih];grind
theorem conv_end (f g:Nat→Rat) (n:Nat):conv f g (n+1)=conv f (fun k=>g (k+1)) n+f (n+1)*g 0:=by
 induction n generalizing f with
 | zero=>simp only [conv]
 | succ n ih =>
  have e:=ih (fun k=>f (k+1));rw [conv,e];simp only [conv];grind
theorem conv_comm (f g:Nat→Rat) (n:Nat):conv f g n=conv g f n:=by
 induction n generalizing f g with
 | zero=>simp only [conv];grind
 | succ n ih=>rw [conv_end,ih];simp only [conv];grind
theorem conv_assoc (f g h:Nat→Rat) (n:Nat):conv (conv f g) h n=conv f (conv g h) n:=by
 induction n generalizing f with
 | zero=>simp only [conv];grind
 | succ n ih =>
  have e:(fun k=>conv f g (k+1))=fun k=>f 0*g (k+1)+conv (fun k=>f (k+1)) g k:=by funext k;rfl
  rw [conv,e,conv_add_l,conv_smul_l,ih];simp only [conv];grind
def C (a:Rat):PS:=⟨fun n=>if n=0 then a else 0⟩
theorem conv_C (a:Rat) (g:Nat→Rat) (n:Nat):conv (C a).f g n=a*g n:=by
 cases n with
 | zero=>rfl
 | succ n =>
  show a*g (n+1)+conv (fun k=>if k+1=0 then a else 0) g n=_
  rw [show (fun k:Nat=>if k+1=0 then a else 0)=fun _=>0 by funext k;rw [if_neg (by omega)],conv_zero_l];grind
instance:Add PS:=⟨fun a b=>⟨fun n=>a.f n+b.f n⟩⟩
instance:Mul PS:=⟨fun a b=>⟨conv a.f b.f⟩⟩
instance:Neg PS:=⟨fun a=>⟨fun n => -a.f n⟩⟩
instance:Sub PS:=⟨fun a b=>⟨fun n=>a.f n-b.f n⟩⟩
instance:NatCast PS:=⟨fun n=>C n⟩
instance:IntCast PS:=⟨fun n=>C n⟩
instance instOfNat (n:Nat):OfNat PS n:=⟨C n⟩
def pow (a:PS):Nat→PS
 | 0=>1
 | n+1=>pow a n*a
instance:HPow PS Nat PS:=⟨pow⟩
instance:SMul Nat PS:=⟨fun n a=>C n*a⟩
instance:SMul Int PS:=⟨fun n a=>C n*a⟩
@[simp] theorem add_f (a b:PS) (n:Nat):(a+b).f n=a.f n+b.f n:=rfl
@[simp] theorem sub_f (a b:PS) (n:Nat):(a-b).f n=a.f n-b.f n:=rfl
@[simp] theorem neg_f (a:PS) (n:Nat):(-a).f n = -a.f n:=rfl
theorem mul_f (a b:PS) (n:Nat):(a*b).f n=conv a.f b.f n:=rfl
@[simp] theorem C_mul (a:Rat) (b:PS) (n:Nat):(C a*b).f n=a*b.f n:=conv_C a b.f n
theorem C0:(0:PS)=⟨fun _=>0⟩:=by
 ext n
 show (if n=0 then ((0:Nat):Rat) else 0)=0;split <;> rfl
@[simp] theorem zero_f (n:Nat):(0:PS).f n=0:=by rw [C0]
theorem mulc (a b:PS):a*b=b*a:=by ext n;exact conv_comm _ _ _
theorem add_z (a:PS):a+0=a:=by ext n;rw [add_f,zero_f];grind
theorem C_add (a b:Rat):C (a+b)=C a+C b:=by
 ext n
 show (if n=0 then a+b else 0)=(if n=0 then a else 0)+(if n=0 then b else 0);split <;> grind
theorem C_neg (a:Rat):C (-a) = -C a:=by
 ext n
 show (if n=0 then -a else 0) = -(if n=0 then a else 0);split <;> grind
theorem C_mulC (a b:Rat):C (a*b)=C a*C b:=by
 ext n
 rw [C_mul];show (if n=0 then a*b else 0)=a*(if n=0 then b else 0);split <;> grind
theorem C_zero:C 0=0:=by rw [C0];ext n;show (if n=0 then (0:Rat) else 0)=0;split <;> rfl
theorem C_one:C 1=1:=rfl
theorem one_m (a:PS):1*a=a:=by
 ext n
 rw [←C_one,C_mul];grind
instance:Lean.Grind.CommRing PS where
 add_zero:=add_z
 add_comm a b:=by ext n;simp only [add_f];grind
 add_assoc a b c:=by ext n;simp only [add_f];grind
 mul_assoc a b c:=by ext n;exact conv_assoc _ _ _ _
 mul_one a:=by rw [mulc];exact one_m a
 one_mul:=one_m
 left_distrib a b c:=by ext n;exact conv_add_r _ _ _ _
 right_distrib a b c:=by ext n;exact conv_add_l _ _ _ _
 zero_mul a:=by ext n;rw [mul_f,C0];exact conv_zero_l _ _
 mul_zero a:=by ext n;rw [mul_f,C0];exact conv_zero_r _ _
 pow_zero a:=rfl
 pow_succ a n:=rfl
 ofNat_succ a:=by
  show C ((a+1:Nat):Rat)=C (a:Rat)+C 1;rw [←C_add];congr 1
  grind
 ofNat_eq_natCast n:=rfl
 neg_add_cancel a:=by ext n;rw [add_f,neg_f,zero_f];grind
 sub_eq_add_neg a b:=by ext n;rw [add_f,neg_f,sub_f];grind
 neg_zsmul i a:=by
  ext n
  show (C ((-i:Int):Rat)*a).f n = -(C (i:Rat)*a).f n;rw [C_mul,C_mul];grind
 mul_comm:=mulc
 nsmul_eq_natCast_mul n a:=rfl
 zsmul_natCast_eq_nsmul n a:=rfl
 intCast_ofNat n:=rfl
 intCast_neg i:=by
  show C ((-i:Int):Rat) = -C (i:Rat);rw [←C_neg];congr 1
example (a b c:PS):(a+b)*c-a*c=c*b:=by grind
def X:PS:=⟨fun n=>if n=1 then 1 else 0⟩
theorem X_mul (g:PS) (n:Nat):(X*g).f n=match n with
  | 0=>0
  | n+1=>g.f n:=by
 cases n with
 | zero=>show (0:Rat)*g.f 0=0;grind
 | succ n =>
  show (0:Rat)*g.f (n+1)+conv (fun k=>if k+1=1 then 1 else 0) g.f n=g.f n
  rw [show (fun k:Nat=>if k+1=1 then (1:Rat) else 0)=(C 1).f by funext k;show _=if k=0 then (1:Rat) else 0;by_cases h:k=0 <;> simp [h],conv_C];grind
end PS
open PS
def ser:List Rat→PS
 | []=>0
 | a::p=>C a+X*ser p
def trim:List Rat→List Rat
 | []=>[]
 | a::p=>if trim p=[]∧a=0 then [] else a::trim p
theorem ser_f:∀(p:List Rat) (n:Nat),(ser p).f n=p.getD n 0
 | [],n=>by simp [ser]
 | a::p,0=>by
  show (C a).f 0+(X*ser p).f 0=a;rw [X_mul];show a+0=a;grind
 | a::p,n+1=>by
  show (C a).f (n+1)+(X*ser p).f (n+1)=_;rw [X_mul];show 0+(ser p).f n=_;rw [ser_f p n,Rat.zero_add];simp
theorem ser_inj0 {a b:Rat} {s u:PS} (h:C a+X*s=C b+X*u):a=b∧s=u:=by
 have h0:∀n,(C a+X*s).f n=(C b+X*u).f n:=fun n=>by rw [h]
 constructor
 ·have z:=h0 0;rw [add_f,add_f,X_mul,X_mul] at z;have z:a+0=b+0:=z;grind
 ·ext n
  have z:=h0 (n+1);rw [add_f,add_f,X_mul,X_mul] at z;have z:0+s.f n=0+u.f n:=z;grind
theorem ser_trim:∀p,ser (trim p)=ser p
 | []=>rfl
 | a::p=>by
  have ih:=ser_trim p;unfold trim;by_cases h:trim p=[]∧a=0
  ·rw [if_pos h];rw [h.1] at ih;show (0:PS)=C a+X*ser p;rw [←ih,h.2,C_zero];show (0:PS)=0+X*0;grind
  ·rw [if_neg h];show C a+X*ser (trim p)=C a+X*ser p;rw [ih]
theorem trim_nil {p:List Rat} (h:ser p=0):trim p=[]:=by
 induction p with
 | nil=>rfl
 | cons a p ih =>
  have e:C a+X*ser p=C 0+X*0:=by
   rw [C_zero];show ser (a::p)=_;rw [h];grind
  obtain ⟨e1,e2⟩:=ser_inj0 e;unfold trim;rw [if_pos ⟨ih e2,e1⟩]
theorem trim_ext:∀{p q:List Rat},ser p=ser q→trim p=trim q
 | [],q,h=>by rw [trim_nil h.symm];rfl
 | p,[],h=>by rw [trim_nil h];rfl
 | a::p,b::q,h=>by
  obtain ⟨e1,e2⟩:=ser_inj0 (show C a+X*ser p=C b+X*ser q from h);unfold trim;rw [trim_ext e2,e1]
theorem trim_trim (p:List Rat):trim (trim p)=trim p:=trim_ext (ser_trim p)
theorem trim_snoc (p:List Rat) (a:Rat):trim (p++[a])=if a=0 then trim p else p++[a]:=by
 induction p with
 | nil=>simp [trim]
 | cons b p ih =>
  show (if trim (p++[a])=[]∧b=0 then [] else b::trim (p++[a]))=_;rw [ih];by_cases h:a=0
  ·rw [if_pos h,if_pos h];rfl
  ·rw [if_neg h,if_neg h,if_neg (by simp)];rfl
def hv:List Rat→Rat→Rat
 | [],_=>0
 | a::p,x=>a+x*hv p x
def addL:List Rat→List Rat→List Rat
 | [],q=>q
 | a::p,[]=>a::p
 | a::p,b::q=>(a+b)::addL p q
def mulL:List Rat→List Rat→List Rat
 | [],_=>[]
 | a::p,q=>addL (q.map fun b=>a*b) (0::mulL p q)
theorem ser_add:∀p q,ser (addL p q)=ser p+ser q
 | [],q=>by show ser q=0+ser q;grind
 | a::p,[]=>by show ser (a::p)=ser (a::p)+0;grind
 | a::p,b::q=>by
  show C (a+b)+X*ser (addL p q)=C a+X*ser p+(C b+X*ser q);rw [ser_add p q,C_add];grind
theorem ser_smul (a:Rat):∀p,ser (p.map fun b=>a*b)=C a*ser p
 | []=>by show (0:PS)=C a*0;grind
 | b::p=>by
  show C (a*b)+X*ser (p.map fun b=>a*b)=C a*(C b+X*ser p);rw [ser_smul a p,C_mulC];grind
end AW
namespace AW
open PySem PySem.Spec PyProof.Rows
def Bd (b:Nat) (q:Rat):Prop:=q.num.natAbs≤2^b∧q.den≤2^b
def BdL (b:Nat) (p:List Rat):Prop:=∀x∈p,Bd b x
theorem Bd.mono {a b:Nat} {q:Rat} (h:Bd a q) (l:a≤b):Bd b q:=⟨Nat.le_trans h.1 (Nat.pow_le_pow_right (by decide) l),Nat.le_trans h.2 (Nat.pow_le_pow_right (by decide) l)⟩
theorem BdL.mono {a b:Nat} {p:List Rat} (h:BdL a p) (l:a≤b):BdL b p:=fun x hx=>(h x hx).mono l
theorem divInt_le {a b:Int} (hb:b≠0):(Rat.divInt a b).num.natAbs≤a.natAbs∧(Rat.divInt a b).den≤b.natAbs:=by
 have hg:0<b.gcd a:=Nat.gcd_pos_of_pos_left _ (by omega);rw [Rat.num_divInt,Rat.den_divInt,if_neg hb];refine ⟨?_,Nat.div_le_self _ _⟩;have da:((b.gcd a:Nat):Int)∣a:=Int.ofNat_dvd_left.mpr (Nat.gcd_dvd_right _ _);obtain ⟨x,hx⟩:=da;generalize b.gcd a=g at *
 subst hx;have hg':(g:Int)≠0:=by omega
 rw [show b.sign*((g:Int)*x)=(g:Int)*(b.sign*x) by grind,Int.mul_ediv_cancel_left _ hg',Int.natAbs_mul,Int.natAbs_mul];have h1:b.sign.natAbs≤1:=by
  rcases Int.sign_trichotomy b with h | h | h <;> rw [h] <;> decide
 have h2:1≤(g:Int).natAbs:=by omega
 exact Nat.mul_le_mul (Nat.le_trans h1 h2) (Nat.le_refl _)
theorem add_divInt (p q:Rat):p+q=Rat.divInt (p.num*q.den+q.num*p.den) (p.den*q.den):=by
 rw [Rat.add_def',show ((p.den:Int)*q.den)=((p.den*q.den:Nat):Int) by simp,Rat.divInt_ofNat]
theorem mul_divInt (p q:Rat):p*q=Rat.divInt (p.num*q.num) (p.den*q.den):=by
 rw [Rat.mul_def',show ((p.den:Int)*q.den)=((p.den*q.den:Nat):Int) by simp,Rat.divInt_ofNat]
theorem den_ne (p q:Rat):((p.den:Int)*q.den)≠0:=by
 have h1:=p.den_nz;have h2:=q.den_nz;exact Int.mul_ne_zero (by omega) (by omega)
theorem mul_pow_le {x y a b:Nat} (h1:x≤2^a) (h2:y≤2^b):x*y≤2^(a+b):=by
 rw [Nat.pow_add];exact Nat.mul_le_mul h1 h2
theorem Bd.add {a b:Nat} {p q:Rat} (hp:Bd a p) (hq:Bd b q):Bd (a+b+1) (p+q):=by
 have h:=divInt_le (a:=p.num*q.den+q.num*p.den) (den_ne p q);rw [add_divInt];have e1:(p.num*q.den+q.num*p.den).natAbs≤2^(a+b)+2^(a+b):=by
  refine Nat.le_trans (Int.natAbs_add_le _ _) (Nat.add_le_add ?_ ?_)
  ·rw [Int.natAbs_mul];exact mul_pow_le hp.1 hq.2
  ·rw [Int.natAbs_mul,Nat.add_comm a b];exact mul_pow_le hq.1 hp.2
 have e2:((p.den:Int)*q.den).natAbs≤2^(a+b):=by
  rw [Int.natAbs_mul];exact mul_pow_le hp.2 hq.2
 have e3:2^(a+b)+2^(a+b)=2^(a+b+1):=by rw [Nat.pow_succ];omega
 exact ⟨by rw [←e3];exact Nat.le_trans h.1 e1,by rw [←e3];omega⟩
theorem Bd.mul {a b:Nat} {p q:Rat} (hp:Bd a p) (hq:Bd b q):Bd (a+b) (p*q):=by
 have h:=divInt_le (a:=p.num*q.num) (den_ne p q);rw [mul_divInt];refine ⟨Nat.le_trans h.1 ?_,Nat.le_trans h.2 ?_⟩
 ·rw [Int.natAbs_mul];exact mul_pow_le hp.1 hq.1
 ·rw [Int.natAbs_mul];exact mul_pow_le hp.2 hq.2
theorem Bd.zero (b:Nat):Bd b 0:=⟨Nat.zero_le _,Nat.one_le_two_pow⟩
theorem Bd.one (b:Nat):Bd b 1:=⟨Nat.one_le_two_pow,Nat.one_le_two_pow⟩
theorem BdL.nil (b:Nat):BdL b []:=fun x hx=>by cases hx
theorem BdL.cons {b:Nat} {x:Rat} {p:List Rat} (h:Bd b x) (t:BdL b p):BdL b (x::p):=fun y hy=>by
 rcases List.mem_cons.mp hy with rfl | hy
 ·exact h
 ·exact t y hy
theorem BdL.add {a b:Nat}:∀{p q:List Rat},BdL a p→BdL b q→BdL (a+b+1) (addL p q)
 | [],q,_,h=>h.mono (by omega)
 | x::p,[],h,_=>BdL.mono h (by omega)
 | x::p,y::q,h1,h2=>BdL.cons ((h1 x List.mem_cons_self).add (h2 y List.mem_cons_self)) (BdL.add (fun z hz=>h1 z (List.mem_cons_of_mem _ hz)) fun z hz=>h2 z (List.mem_cons_of_mem _ hz))
theorem BdL.smul {a b:Nat} {x:Rat} {p:List Rat} (hx:Bd a x) (h:BdL b p):BdL (a+b) (p.map fun y=>x*y):=fun z hz=>by
 obtain ⟨y,hy,rfl⟩:=List.mem_map.mp hz;exact hx.mul (h y hy)
theorem BdL.mul {a b:Nat}:∀{p q:List Rat},BdL a p→BdL b q→BdL (p.length*(a+b+1)) (mulL p q)
 | [],q,_,_=>BdL.nil _
 | x::p,q,h1,h2=>by
  have ih:=BdL.mul (p:=p) (fun z hz=>h1 z (List.mem_cons_of_mem _ hz)) h2;refine BdL.mono (BdL.add (BdL.smul (h1 x List.mem_cons_self) h2) (BdL.cons (Bd.zero _) ih)) ?_;rw [List.length_cons,Nat.add_mul];omega
theorem Bd.hv {a b:Nat} {x:Rat} (hx:Bd b x):∀{p:List Rat},BdL a p→Bd (p.length*(a+b+1)) (hv p x)
 | [],_=>Bd.zero _
 | y::p,h=>by
  have ih:=Bd.hv hx (p:=p) fun z hz=>h z (List.mem_cons_of_mem _ hz);refine Bd.mono ((h y List.mem_cons_self).add (hx.mul ih)) ?_;rw [List.length_cons,Nat.add_mul];omega
def Ok (q:Rat):Prop:=Bd 40000000 q
theorem Ok.of {b:Nat} {q:Rat} (h:Bd b q) (l:b≤40000000):Ok q:=h.mono l
theorem log2_of_le {n b:Nat} (h:n≤2^b):n.log2≤b:=by
 by_cases h0:n=0
 ·subst h0;rw [Nat.log2_zero];omega
 ·have:=(Nat.log2_lt h0 (k:=b+1)).mpr (by have:2^b<2^(b+1):=Nat.pow_lt_pow_right (by decide) (by omega);omega);omega
theorem mulOk_le {i j:Int} {a b:Nat} (h1:i.natAbs≤2^a) (h2:j.natAbs≤2^b) (h:a+b<100000000):mulOk i j=true:=by
 have e1:=log2_of_le h1;have e2:=log2_of_le h2;exact decide_eq_true (.inr (.inr (by omega)))
theorem mulOk_small_r {i j:Int} (h:j.natAbs<2^64):mulOk i j=true:=decide_eq_true (.inr (.inl h))
theorem mulOk_small_l {i j:Int} (h:i.natAbs<2^64):mulOk i j=true:=decide_eq_true (.inl h)
theorem Ok.nn {p q:Rat} (h1:Ok p) (h2:Ok q):mulOk p.num q.num=true:=mulOk_le h1.1 h2.1 (by decide)
theorem Ok.nd {p q:Rat} (h1:Ok p) (h2:Ok q):mulOk p.num q.den=true:=mulOk_le h1.1 h2.2 (by decide)
theorem Ok.dd {p q:Rat} (h1:Ok p) (h2:Ok q):mulOk p.den q.den=true:=mulOk_le h1.2 h2.2 (by decide)
theorem atI_nat {α:Type} {xs:List α} {n:Nat}:L2.atI xs (n:Int)=xs[n]?:=by
 unfold L2.atI L2.ixN;rw [if_pos (by omega)];by_cases h:n<xs.length
 ·rw [if_pos (by omega)];simp
 ·rw [if_neg (by omega)];simp only [Option.bind_none];rw [List.getElem?_eq_none (by omega)]
theorem atD_nat {xs:List D} {n:Nat} {d:D} (h:xs[n]?=some d):atD xs (n:Int)=v1 d:=by
 unfold atD;rw [atI_nat,h]
@[simp] theorem atD_0 (d:D) (xs:List D):atD (d::xs) 0=v1 d:=atD_nat (n:=0) rfl
@[simp] theorem atD_1 (d e:D) (xs:List D):atD (d::e::xs) 1=v1 e:=atD_nat (n:=1) rfl
@[simp] theorem atD_2 (d e f:D) (xs:List D):atD (d::e::f::xs) 2=v1 f:=atD_nat (n:=2) rfl
theorem eqv_fr (p q:Rat):(fr p).eqv (fr q)=decide (p=q):=by
 have e:(fr p).eqv (fr q)=((p.num==q.num)&&(((p.den:Int)==(q.den:Int))&&true)):=rfl;rw [e,Bool.eq_iff_iff];simp only [Bool.and_true,Bool.and_eq_true,beq_iff_eq,decide_eq_true_eq];constructor
 ·rintro ⟨h1,h2⟩;exact Rat.ext h1 (by omega)
 ·rintro rfl;exact ⟨rfl,rfl⟩
theorem eqvAll_map {α:Type} [DecidableEq α] {f:α→D} (h:∀x y,(f x).eqv (f y)=decide (x=y)):∀xs ys:List α,PyData.eqvAll (xs.map f) (ys.map f)=decide (xs=ys)
 | [],[]=>by simp [PyData.eqvAll]
 | [],_::_=>by simp [PyData.eqvAll]
 | _::_,[]=>by simp [PyData.eqvAll]
 | x::xs,y::ys=>by
  show ((f x).eqv (f y)&&PyData.eqvAll (xs.map f) (ys.map f))=_;rw [h,eqvAll_map h xs ys,Bool.eq_iff_iff];simp
def Shp (n:Nat) (d:D):Prop:=d.canLay0=true∧d.depth≤n
theorem Shp.ok {n:Nat} {d:D} (h:Shp n d) (hn:n≤64):SeqAt.shaped d=true:=by
 unfold SeqAt.shaped;rw [h.1,Bool.true_and];exact decide_eq_true (Nat.le_trans h.2 hn)
theorem Shp.int (i:Int):Shp 0 (.int i):=⟨rfl,Nat.le_refl _⟩
theorem Shp.mono {m n:Nat} {d:D} (h:Shp m d) (l:m≤n):Shp n d:=⟨h.1,Nat.le_trans h.2 l⟩
theorem shp_all {n:Nat}:∀{ds:List D},(∀d∈ds,Shp n d)→PyData.canLayAll0 ds=true∧PyData.depthAll ds≤n
 | [],_=>⟨rfl,Nat.zero_le _⟩
 | d::ds,h=>by
  have h1:=h d List.mem_cons_self;have h2:=shp_all (ds:=ds) fun x hx=>h x (List.mem_cons_of_mem _ hx);refine ⟨?_,?_⟩
  ·show (d.canLay0&&PyData.canLayAll0 ds)=true;rw [h1.1,h2.1];rfl
  ·show max d.depth (PyData.depthAll ds)≤n;exact Nat.max_le.mpr ⟨h1.2,h2.2⟩
theorem Shp.tup {n:Nat} {ds:List D} (h:∀d∈ds,Shp n d):Shp (n+1) (.tuple ds):=by
 obtain ⟨h1,h2⟩:=shp_all h;exact ⟨h1,Nat.succ_le_succ h2⟩
theorem Shp.lst {n:Nat} {ds:List D} (h:∀d∈ds,Shp n d):Shp (n+1) (.list ds):=by
 obtain ⟨h1,h2⟩:=shp_all h;exact ⟨h1,Nat.succ_le_succ h2⟩
theorem Shp.fr (q:Rat):Shp 1 (fr q):=Shp.tup fun d hd=>by
 rcases List.mem_cons.mp hd with rfl | hd
 ·exact Shp.int _
 ·rcases List.mem_cons.mp hd with rfl | hd
  ·exact Shp.int _
  ·cases hd
def pol (p:List Rat):D := .tuple (p.map fr)
theorem Shp.pol (p:List Rat):Shp 2 (pol p):=Shp.tup fun d hd=>by
 obtain ⟨x,_,rfl⟩:=List.mem_map.mp hd;exact Shp.fr x
theorem eqv_pol (p q:List Rat):(pol p).eqv (pol q)=decide (p=q):=eqvAll_map eqv_fr p q
@[simp] theorem eq_fr (p q:Rat):sem2 .eq (fr p) (fr q)=v1 (.bool (decide (p=q))):=by
 rw [s2_eq,if_pos ⟨(Shp.fr p).ok (by decide),(Shp.fr q).ok (by decide)⟩,eqv_fr]
@[simp] theorem ne_fr (p q:Rat):sem2 .ne (fr p) (fr q)=v1 (.bool (!decide (p=q))):=by
 rw [s2_ne,if_pos ⟨(Shp.fr p).ok (by decide),(Shp.fr q).ok (by decide)⟩,eqv_fr]
@[simp] theorem eq_pol (p q:List Rat):sem2 .eq (pol p) (pol q)=v1 (.bool (decide (p=q))):=by
 rw [s2_eq,if_pos ⟨(Shp.pol p).ok (by decide),(Shp.pol q).ok (by decide)⟩,eqv_pol]
@[simp] theorem ne_pol (p q:List Rat):sem2 .ne (pol p) (pol q)=v1 (.bool (!decide (p=q))):=by
 rw [s2_ne,if_pos ⟨(Shp.pol p).ok (by decide),(Shp.pol q).ok (by decide)⟩,eqv_pol]
theorem fr_int (i:Int):fr (i:Rat) = .tuple [.int i,.int 1]:=rfl
@[simp] theorem idx_fr0 (q:Rat):sem2 .idx (fr q) (.int 0)=v1 (.int q.num):=by unfold fr;rw [s2_idxt,atD_0]
@[simp] theorem idx_fr1 (q:Rat):sem2 .idx (fr q) (.int 1)=v1 (.int q.den):=by unfold fr;rw [s2_idxt,atD_1]
section
variable {G:Nat→D} {c:Nat→List Sl→R (D×Bool)} {T:List Fn} {nm:Nm}
def SpPlus (c:Nat→List Sl→R (D×Bool)) (j:Nat):Prop:=∀p q:Rat,Ok p→Ok q→c j [.va (fr p),.va (fr q)]=va (fr (p+q))
def SpBy (c:Nat→List Sl→R (D×Bool)) (j:Nat):Prop:=∀p q:Rat,Ok p→Ok q→c j [.va (fr p),.va (fr q)]=va (fr (p*q))
theorem plus_ok {jf:Nat} (hf:SpFrac c jf) {p q:Rat} (hp:Ok p) (hq:Ok q):bo G c T (b_plus jf) [.va (fr p),.va (fr q)] 0=va (fr (p+q)):=by
 unfold bo b_plus;have h:=hf (p.num*q.den+q.num*p.den) (p.den*q.den) (den_ne p q);rw [←add_divInt] at h;simp [val,hp.nd hq,hq.nd hp,hp.dd hq,h]
theorem by_ok {jf:Nat} (hf:SpFrac c jf) {p q:Rat} (hp:Ok p) (hq:Ok q):bo G c T (b_by jf) [.va (fr p),.va (fr q)] 0=va (fr (p*q)):=by
 unfold bo b_by;have h:=hf (p.num*q.num) (p.den*q.den) (den_ne p q);rw [←mul_divInt] at h;simp [val,hp.nn hq,hp.dd hq,h]
end
section
variable {t:En→R Bool} {b:En→R Fl} {g:D→En→R En}
theorem whileR_then {P:R Fl→Prop} {en:En} (I:En→Prop) (m:En→Nat) (step:∀en,I en→(t en = .ok false∧P (.ok (.nx en)))∨(t en = .ok true∧∃en',b en = .ok (.nx en')∧I en'∧m en'<m en)) (init:I en):P (whileR t b en):=by
 generalize hk:m en=k;induction k using Nat.strongRecOn generalizing en with
 | _ k ih =>
  subst hk;rcases step en init with ⟨h1,h2⟩ | ⟨h1,en',h2,h3,h4⟩
  ·rw [whileR_stop h1];exact h2
  ·rw [whileR_step h1,h2];exact ih _ h4 h3 rfl
theorem forR_go {I:Nat→En→Prop}:∀{ds:List D} {k:Nat} {en:En},(∀i en d,ds[i]?=some d→I (k+i) en→∃en',((g d en).bind b = .ok (.nx en')∨(g d en).bind b = .ok (.ct en'))∧I (k+i+1) en')→I k en→∃en',forR g b ds en = .ok (.nx en')∧I (k+ds.length) en'
 | [],k,en,_,h=>⟨en,rfl,h⟩
 | d::ds,k,en,step,h=>by
  obtain ⟨e1,h1,h2⟩:=step 0 en d rfl h;have rest:=forR_go (ds:=ds) (k:=k+1) (en:=e1) (I:=I) (fun i en d hd hI=>by
   have z:=step (i+1) en d hd (by rw [show k+(i+1)=k+1+i by omega];exact hI);rw [show k+(i+1)+1=k+1+i+1 by omega] at z;exact z) h2
  obtain ⟨e2,h3,h4⟩:=rest;refine ⟨e2,?_,by rw [List.length_cons,show k+(ds.length+1)=k+1+ds.length by omega];exact h4⟩;rw [forR_cons];cases hg:g d en with
  | no=>rw [hg] at h1;rcases h1 with h1 | h1 <;> cases h1
  | ex c=>rw [hg] at h1;rcases h1 with h1 | h1 <;> cases h1
  | ok e0 =>
   rw [hg] at h1;have h1:b e0 = .ok (.nx e1)∨b e0 = .ok (.ct e1):=h1;show (b e0).bind (nextFl (forR g b ds))=_;rcases h1 with h1 | h1
   ·rw [h1];exact h3
   ·rw [h1];exact h3
theorem forR_then {P:R Fl→Prop} {ds:List D} {en:En} (I:Nat→En→Prop) (step:∀i en d,ds[i]?=some d→I i en→∃en',((g d en).bind b = .ok (.nx en')∨(g d en).bind b = .ok (.ct en'))∧I (i+1) en') (init:I 0 en) (fin:∀en',I ds.length en'→P (.ok (.nx en'))):P (forR g b ds en):=by
 obtain ⟨en',h1,h2⟩:=forR_go (I:=I) (k:=0) (ds:=ds) (en:=en) (fun i en d hd hI=>by
  rw [Nat.zero_add] at hI ⊢;exact step i en d hd hI) init
 rw [h1];rw [Nat.zero_add] at h2;exact fin en' h2
end
theorem compL_of {α:Type} {f:D→R (Option D)} {e h:α→D}:∀{xs:List α},(∀x∈xs,f (e x) = .ok (some (h x)))→compL f (xs.map e) = .ok (xs.map h)
 | [],_=>rfl
 | x::xs,hx=>by
  show (f (e x)).bind _=_;rw [hx x List.mem_cons_self];show (compL f (xs.map e)).bind _=_;rw [compL_of fun y hy=>hx y (List.mem_cons_of_mem _ hy)];rfl
def enumN {α:Type} (k:Nat):List α→List (Nat×α)
 | []=>[]
 | x::xs=>(k,x)::enumN (k+1) xs
theorem enumD_go (xs:List D):∀k:Nat,List.zipWith (fun (k:Nat) x=>PyData.tuple [.int (k:Nat),x]) (List.range' k xs.length) xs=(enumN k xs).map fun p=>PyData.tuple [.int (p.1:Nat),p.2]:=by
 induction xs with
 | nil=>intro k;rfl
 | cons x xs ih =>
  intro k;rw [List.length_cons,List.range'_succ,List.zipWith_cons_cons,ih (k+1)];rfl
theorem enumN_map {α β:Type} (e:α→β) (xs:List α):∀k:Nat,enumN k (xs.map e)=(enumN k xs).map fun p=>(p.1,e p.2):=by
 induction xs with
 | nil=>intro k;rfl
 | cons x xs ih=>intro k;show (k,e x)::enumN (k+1) (xs.map e)=_;rw [ih];rfl
theorem enumD_map {α:Type} {e:α→D} (xs:List α):enumD (xs.map e)=(enumN 0 xs).map fun p => .tuple [.int (p.1:Nat),e p.2]:=by
 unfold enumD;rw [List.range_eq_range',enumD_go,enumN_map,List.map_map];rfl
theorem enumN_get {α:Type} (xs:List α):∀(k i:Nat),(enumN k xs)[i]?=(xs[i]?).map fun x=>(k+i,x):=by
 induction xs with
 | nil=>intro k i;simp [enumN]
 | cons x xs ih =>
  intro k i;cases i with
  | zero=>simp [enumN]
  | succ i =>
   show (enumN (k+1) xs)[i]?=_;rw [ih];simp;cases xs[i]? with
   | none=>rfl
   | some y=>simp;omega
theorem cutL_to (xs:List D) (k:Nat):cutL xs none (some (k:Int))=xs.take k:=by
 unfold cutL;simp only [HT.sIx];rw [if_neg (by omega)];simp
section
variable {G:Nat→D} {c:Nat→List Sl→R (D×Bool)} {T:List Fn} {nm:Nm}
end
def OkL (p:List Rat):Prop:=∀x∈p,Ok x
def Ln (p:List Rat):Prop:=p.length≤100000
theorem OkL.of {b:Nat} {p:List Rat} (h:BdL b p) (l:b≤40000000):OkL p:=fun x hx=>(h x hx).mono l
theorem Ok.zero:Ok 0:=Bd.zero _
theorem Ok.one:Ok 1:=Bd.one _
theorem cmp_of {G:Nat→D} {c:Nat→List Sl→R (D×Bool)} {dfl:Nat→Nat→List D} {elt:E} {tg:Tg} {it:It} {ifs:Eo} {own:List (Str×Nat)} {en:En} {α:Type} {xs:List α} {e h:α→D} (hi:evI G c dfl it en = .ok (xs.map e)) (hl:xs.length≤line)
  (hx:∀x∈xs,((bindT tg (e x) (wipe en (own.map (·.2)))).bind fun en'=>(evB G c dfl ifs en').nox.bind fun b=>if b then (evF G c dfl elt en').nox.bind fun y => .ok (some y.1) else .ok none) = .ok (some (h x))) :
  evF G c dfl (.cmp elt tg it ifs own) en = .ok (.list (xs.map h),true):=by
 rw [ev_cmp,hi];show ((compL _ (xs.map e)).bind _)=_;rw [compL_of hx];show (if (xs.map e).length≤line then _ else _)=_;rw [if_pos (by rw [List.length_map];exact hl)]
section
variable {G:Nat→D} {c:Nat→List Sl→R (D×Bool)} {T:List Fn} {nm:Nm}
def SpSum (c:Nat→List Sl→R (D×Bool)) (j:Nat):Prop:=∀p q:List Rat,OkL p→OkL q→Ln p→Ln q→c j [.va (pol p),.va (pol q)]=va (pol (trim (addL p q)))
end
def derL (p:List Rat):List Rat:=(enumN 0 (p.drop 1)).map fun (z:Nat×Rat)=>(((z.1+1:Nat):Int):Rat)*z.2
def cmpP:List Rat→List Rat→List Rat
 | [],_=>[]
 | a::r,q=>addL (mulL (cmpP r q) q) [a]
theorem Bd.int {b:Nat} {i:Int} (h:i.natAbs≤2^b):Bd b (i:Rat):=⟨h,Nat.one_le_two_pow⟩
section
variable {G:Nat→D} {c:Nat→List Sl→R (D×Bool)} {T:List Fn} {nm:Nm}
def SpScaled (c:Nat→List Sl→R (D×Bool)) (j:Nat):Prop:=∀(p:List Rat) (a:Rat),OkL p→Ok a→Ln p→c j [.va (pol p),.va (fr a)]=va (pol (trim (p.map fun x=>a*x)))
def SpSlope (c:Nat→List Sl→R (D×Bool)) (j:Nat):Prop:=∀p:List Rat,OkL p→Ln p→c j [.va (pol p)]=va (pol (trim (derL p)))
end
theorem Bd.pow {d:Nat} {x:Rat} (h:Bd d x):∀i:Nat,Bd (i*d) (x^i)
 | 0=>by rw [Rat.pow_zero];exact Bd.one _
 | i+1=>by
  rw [Rat.pow_succ,Nat.add_mul,Nat.one_mul];exact (Bd.pow h i).mul h
section
variable {G:Nat→D} {c:Nat→List Sl→R (D×Bool)} {T:List Fn} {nm:Nm}
theorem low_ok {a b:Int} (hb:b≠0):bo G c T b_law_low [.va (.int a),.va (.int b)] 2=va (fr (Rat.divInt a b)):=by
 have h0:Nat.gcd a.natAbs b.natAbs≠0:=by
  have:=Nat.gcd_pos_of_pos_right a.natAbs (show 0<b.natAbs by omega);omega
 rw [fr_made hb];unfold bo b_law_low;simp [val,es_whl];refine whileR_then (P:=fun r=>outF (r.bind _)=_) (I:=fun en=>∃m n:Nat,en=[.va (.int a),.va (.int b),.va (.int m),.va (.int n)]∧Nat.gcd m n=Nat.gcd a.natAbs b.natAbs) (m:=fun en=>match en with
  | [_,_,_,.va (.int n)]=>n.toNat
  | _=>0) ?_ ⟨_,_,rfl,rfl⟩
 rintro en ⟨m,n,rfl,hg⟩;by_cases hn:n=0
 ·subst hn;left
  rw [Nat.gcd_zero_right] at hg;subst hg;refine ⟨by simp [val],?_⟩;by_cases h:b<0
  ·simp [val,h,hb,h0,line]
  ·simp [val,h,hb,h0,line]
 ·right
  have hm:(m:Int).fmod (n:Int)=((m%n:Nat):Int):=by rw [Int.fmod_eq_emod_of_nonneg _ (by omega)];rfl
  refine ⟨by simp [val];omega,[.va (.int a),.va (.int b),.va (.int n),.va (.int (m%n:Nat))],by simp [val,hn,hm],⟨n,m%n,rfl,?_⟩,?_⟩
  ·rw [←hg,Nat.gcd_comm n,Nat.gcd_comm m n];exact (Nat.gcd_rec n m).symm
  ·simp;have:=Nat.mod_lt m (show 0<n by omega);omega
def mixV (x k:Int):Int:=((((x+7919*k)*48271).fmod 2147483647)*((((x+7919*k)*48271).fmod 2147483647)+2*k+1)).fmod 2147483629
theorem mixV_nn (x k:Int):0≤mixV x k∧mixV x k<2147483629:=by
 unfold mixV;rw [Int.fmod_eq_emod_of_nonneg _ (by decide)];exact ⟨Int.emod_nonneg _ (by decide),Int.emod_lt_of_pos _ (by decide)⟩
def SpMix (c:Nat→List Sl→R (D×Bool)) (j:Nat):Prop:=∀x k:Int,k.natAbs<2^60→c j [.va (.int x),.va (.int k)]=va (.int (mixV x k))
theorem mixed_ok (x k:Int) (hk:k.natAbs<2^60):bo G c T b_law_mixed [.va (.int x),.va (.int k)] 1=va (.int (mixV x k)):=by
 have m1:mulOk 7919 k=true:=mulOk_small_l (by decide);have m2:mulOk (x+7919*k) 48271=true:=mulOk_small_r (by decide);have m3:mulOk 2 k=true:=mulOk_small_l (by decide);have h1:0≤((x+7919*k)*48271).fmod 2147483647∧((x+7919*k)*48271).fmod 2147483647<2147483647:=by
  rw [Int.fmod_eq_emod_of_nonneg _ (by decide)];exact ⟨Int.emod_nonneg _ (by decide),Int.emod_lt_of_pos _ (by decide)⟩
 unfold mixV;unfold bo b_law_mixed;generalize hg:((x+7919*k)*48271).fmod 2147483647=g at *
 have m4:∀z,mulOk g z=true:=fun z=>mulOk_small_l (by omega);simp [val,m1,m2,m3,hg,m4]
def SpPart (c:Nat→List Sl→R (D×Bool)) (j:Nat):Prop:=∃f:Int→Rat,∀x:Int,0≤x→x<2147483629→Bd 93 (f x)∧c j [.va (.int x)]=va (fr (f x))
end
structure Dr (n:Nat) (p:List Rat):Prop where
 tr:trim p=p
 bd:BdL 93 p
 len:p.length≤n
section
variable {G:Nat→D} {c:Nat→List Sl→R (D×Bool)} {T:List Fn} {nm:Nm}
end
end AW
namespace AW
open PS
def Lt (s:PS) (n:Nat):Prop:=∀k,n≤k→s.f k=0
theorem Lt.mono {s:PS} {m n:Nat} (h:Lt s m) (l:m≤n):Lt s n:=fun k hk=>h k (Nat.le_trans l hk)
theorem Lt.zero (n:Nat):Lt 0 n:=fun k _=>zero_f k
theorem Lt.add {a b:PS} {n:Nat} (h1:Lt a n) (h2:Lt b n):Lt (a+b) n:=fun k hk=>by rw [add_f,h1 k hk,h2 k hk];grind
theorem Lt.sub {a b:PS} {n:Nat} (h1:Lt a n) (h2:Lt b n):Lt (a-b) n:=fun k hk=>by rw [sub_f,h1 k hk,h2 k hk];grind
theorem Lt.neg {a:PS} {n:Nat} (h1:Lt a n):Lt (-a) n:=fun k hk=>by rw [neg_f,h1 k hk];grind
theorem Lt.C (c:Rat):Lt (PS.C c) 1:=fun k hk=>by show (if k=0 then c else 0)=0;rw [if_neg (by omega)]
theorem Lt.one:Lt 1 1:=Lt.C 1
theorem Lt.smul {a:PS} {n:Nat} (c:Rat) (h:Lt a n):Lt (PS.C c*a) n:=fun k hk=>by rw [C_mul,h k hk];grind
theorem Lt.X_mul {a:PS} {n:Nat} (h:Lt a n):Lt (X*a) (n+1):=fun k hk=>by
 rw [PS.X_mul];cases k with
 | zero=>rfl
 | succ k=>exact h k (by omega)
theorem Lt.nil {a:PS} (h:Lt a 0):a=0:=by ext k;rw [h k (by omega),zero_f]
theorem Lt.ext {a b:PS} {n:Nat} (h1:Lt a n) (h2:Lt b n) (h:∀k,k<n→a.f k=b.f k):a=b:=by
 ext k
 rcases Nat.lt_or_ge k n with hk | hk
 ·exact h k hk
 ·rw [h1 k hk,h2 k hk]
def sh (a:PS):PS:=⟨fun k=>a.f (k+1)⟩
theorem sh_eq (a:PS):a=PS.C (a.f 0)+X*sh a:=by
 ext k
 rw [add_f,PS.X_mul];cases k with
 | zero=>show _=(if 0=0 then a.f 0 else 0)+0;rw [if_pos rfl];grind
 | succ k=>show _=(if k+1=0 then a.f 0 else 0)+a.f (k+1);rw [if_neg (by omega)];grind
theorem Lt.sh {a:PS} {n:Nat} (h:Lt a (n+1)):Lt (AW.sh a) n:=fun k hk=>h (k+1) (by omega)
theorem Lt.mul {b:PS} {n:Nat} (h2:Lt b n):∀{m:Nat} {a:PS},Lt a m→Lt (a*b) (m+n-1)
 | 0,a,h=>by rw [h.nil,show (0:PS)*b=0 by grind];exact Lt.zero _
 | m+1,a,h=>by
  have ih:=Lt.mul h2 h.sh;cases n with
  | zero=>rw [h2.nil,show a*0=0 by grind];exact Lt.zero _
  | succ n =>
   rw [sh_eq a,show (PS.C (a.f 0)+X*AW.sh a)*b=PS.C (a.f 0)*b+X*(AW.sh a*b) by grind];cases m with
   | zero =>
    rw [h.sh.nil,show X*(0*b)=0 by grind];exact (h2.smul _).add (Lt.zero _) |>.mono (by omega)
   | succ m=>exact Lt.add ((h2.smul _).mono (by omega)) (ih.X_mul.mono (by omega))
theorem Lt.mul' {a b:PS} {m n k:Nat} (h1:Lt a m) (h2:Lt b n) (l:m+n≤k+1):Lt (a*b) k:=(Lt.mul h2 h1).mono (by omega)
theorem top_mul {b:PS} {n:Nat} (h2:Lt b (n+1)):∀{m:Nat} {a:PS},Lt a (m+1)→(a*b).f (m+n)=a.f m*b.f n
 | 0,a,h=>by
  have e:a=PS.C (a.f 0):=by
   have:=sh_eq a;rw [h.sh.nil] at this;rw [show PS.C (a.f 0)+X*0=PS.C (a.f 0) by grind] at this;exact this
  rw [e,C_mul,Nat.zero_add];show _=(if 0=0 then a.f 0 else 0)*b.f n;rw [if_pos rfl]
 | m+1,a,h=>by
  have ih:=top_mul h2 h.sh;have e:=sh_eq a;have e2:a*b=PS.C (a.f 0)*b+X*(sh a*b):=by
   conv=>lhs;rw [e]
   grind
  rw [e2,add_f,C_mul,PS.X_mul,show m+1+n=m+n+1 by omega];show a.f 0*b.f (m+n+1)+(sh a*b).f (m+n)=_;rw [ih,h2 _ (by omega)];show _+a.f (m+1)*b.f n=_;grind
def Pl (s:PS):Prop:=∃n,Lt s n
theorem Pl.zero:Pl 0:=⟨0,Lt.zero 0⟩
theorem Pl.one:Pl 1:=⟨1,Lt.one⟩
theorem Pl.C (c:Rat):Pl (PS.C c):=⟨1,Lt.C c⟩
theorem Pl.X:Pl X:=⟨2,fun k hk=>by show (if k=1 then (1:Rat) else 0)=0;rw [if_neg (by omega)]⟩
theorem Pl.add {a b:PS}:Pl a→Pl b→Pl (a+b):=fun ⟨m,h⟩ ⟨n,k⟩=>⟨max m n,(h.mono (Nat.le_max_left _ _)).add (k.mono (Nat.le_max_right _ _))⟩
theorem Pl.sub {a b:PS}:Pl a→Pl b→Pl (a-b):=fun ⟨m,h⟩ ⟨n,k⟩=>⟨max m n,(h.mono (Nat.le_max_left _ _)).sub (k.mono (Nat.le_max_right _ _))⟩
theorem Pl.neg {a:PS}:Pl a→Pl (-a):=fun ⟨m,h⟩=>⟨m,h.neg⟩
theorem Pl.mul {a b:PS}:Pl a→Pl b→Pl (a*b):=fun ⟨m,h⟩ ⟨n,k⟩=>⟨_,Lt.mul k h⟩
theorem Pl.pow {a:PS} (h:Pl a):∀n:Nat,Pl (a^n)
 | 0=>Pl.one
 | n+1=>(Pl.pow h n).mul h
def Dg (s:PS) (n:Nat):Prop:=Lt s (n+1)∧s.f n≠0
theorem Dg.ne {s:PS} {n:Nat} (h:Dg s n):s≠0:=fun e=>h.2 (by rw [e,zero_f])
theorem Pl.dg {s:PS}:Pl s→s≠0→∃n,Dg s n:=fun ⟨n,h⟩=>by
 induction n with
 | zero=>intro z;exact absurd h.nil z
 | succ n ih =>
  intro z;by_cases e:s.f n=0
  ·exact ih (fun k hk=>by
    rcases Nat.eq_or_lt_of_le hk with rfl | hk
    ·exact e
    ·exact h k hk) z
  ·exact ⟨n,h,e⟩
theorem Dg.mul {a b:PS} {m n:Nat} (h:Dg a m) (k:Dg b n):Dg (a*b) (m+n):=⟨(Lt.mul k.1 h.1).mono (by omega),by
 rw [top_mul k.1 h.1];exact fun z=>by
  rcases (by grind:a.f m=0∨b.f n=0) with e | e
  ·exact h.2 e
  ·exact k.2 e⟩
theorem Dg.lt {s:PS} {m n:Nat} (h:Dg s m) (k:Lt s n):m<n:=by
 rcases Nat.lt_or_ge m n with z | z
 ·exact z
 ·exact absurd (k m z) h.2
theorem Dg.uniq {s:PS} {m n:Nat} (h:Dg s m) (k:Dg s n):m=n:=by
 have h1:=h.lt k.1;have h2:=k.lt h.1;omega
theorem Dg.pl {s:PS} {n:Nat} (h:Dg s n):Pl s:=⟨_,h.1⟩
theorem Pl.mul_ne {a b:PS} (h1:Pl a) (h2:Pl b) (n1:a≠0) (n2:b≠0):a*b≠0:=by
 obtain ⟨m,h⟩:=h1.dg n1;obtain ⟨n,k⟩:=h2.dg n2;exact (h.mul k).ne
theorem Pl.cancel {a b c:PS} (ha:Pl a) (hb:Pl b) (hc:Pl c) (n:c≠0) (h:a*c=b*c):a=b:=by
 have e:(a-b)*c=0:=by grind
 by_cases z:a-b=0
 ·grind
 ·exact absurd e (Pl.mul_ne (ha.sub hb) hc z n)
theorem Dg.C {c:Rat} (h:c≠0):Dg (PS.C c) 0:=⟨Lt.C c,by show (if 0=0 then c else 0)≠0;rw [if_pos rfl];exact h⟩
theorem Dg.const {s:PS} (h:Lt s 1):s=PS.C (s.f 0):=Lt.ext h (Lt.C _) fun k hk=>by
 have:k=0:=by omega
 subst this;rfl
theorem Xpow_f:∀(m k:Nat),(X^m:PS).f k=if k=m then 1 else 0
 | 0,k=>rfl
 | m+1,k=>by
  have e:(X^(m+1):PS)=X*X^m:=by grind
  rw [e,PS.X_mul];cases k with
  | zero=>show (0:Rat)=_;rw [if_neg (by omega)]
  | succ k =>
   show (X^m:PS).f k=_;rw [Xpow_f m k];by_cases h:k=m
   ·rw [if_pos h,if_pos (by omega)]
   ·rw [if_neg h,if_neg (by omega)]
theorem Xpow_lt (m:Nat):Lt (X^m) (m+1):=fun k hk=>by rw [Xpow_f,if_neg (by omega)]
theorem Xpow_dg (m:Nat):Dg (X^m) m:=⟨Xpow_lt m,by rw [Xpow_f,if_pos rfl];decide⟩
theorem div_ex {b:PS} {n:Nat} (hb:Dg b n):∀{m:Nat} {a:PS},Lt a m→∃s r,a=s*b+r∧Lt r n∧Lt s (m-n)
 | 0,a,h=>⟨0,0,by rw [h.nil];grind,Lt.zero _,Lt.zero _⟩
 | m+1,a,h=>by
  rcases Nat.lt_or_ge m n with hm | hm
  ·exact ⟨0,a,by grind,h.mono (by omega),Lt.zero _⟩
  ·have hq:=hb.2;have t:Dg (X^(m-n)*b) (m-n+n):=(Xpow_dg _).mul hb;have ht:(X^(m-n)*b).f m=b.f n:=by
    have e:=top_mul hb.1 (Xpow_lt (m-n));rw [show m-n+n=m by omega,Xpow_f,if_pos rfl] at e;rw [e];grind
   have h':Lt (a-PS.C (a.f m/b.f n)*(X^(m-n)*b)) m:=fun k hk=>by
    rw [sub_f,C_mul];rcases Nat.eq_or_lt_of_le hk with rfl | hk
    ·rw [ht];grind
    ·rw [h k hk,t.1 k (by omega)];grind
   obtain ⟨s,r,e,h1,h2⟩:=div_ex hb h';refine ⟨s+PS.C (a.f m/b.f n)*X^(m-n),r,by grind,h1,?_⟩;exact (h2.mono (by omega)).add (((Xpow_lt _).smul _).mono (by omega))
def Dv (g a:PS):Prop:=∃s,Pl s∧a=s*g
theorem Dv.zero (g:PS):Dv g 0:=⟨0,Pl.zero,by grind⟩
theorem Dv.add {g a b:PS}:Dv g a→Dv g b→Dv g (a+b):=fun ⟨s,h,e⟩ ⟨t,k,f⟩=>⟨s+t,h.add k,by grind⟩
theorem Dv.sub {g a b:PS}:Dv g a→Dv g b→Dv g (a-b):=fun ⟨s,h,e⟩ ⟨t,k,f⟩=>⟨s-t,h.sub k,by grind⟩
theorem Dv.mul {g a:PS} (b:PS) (hb:Pl b):Dv g a→Dv g (b*a):=fun ⟨s,h,e⟩=>⟨b*s,hb.mul h,by grind⟩
theorem Dv.trans {g a b:PS}:Dv g a→Dv a b→Dv g b:=fun ⟨s,h,e⟩ ⟨t,k,f⟩=>⟨t*s,k.mul h,by grind⟩
theorem Dv.dg {g a:PS} {m n:Nat} (h:Dv g a) (hg:Dg g m) (ha:Dg a n):m≤n:=by
 obtain ⟨s,k,e⟩:=h;have z:s≠0:=fun z=>ha.ne (by rw [e,z];grind);obtain ⟨l,hl⟩:=k.dg z;have:=hl.mul hg;rw [←e] at this;have:=this.uniq ha;omega
theorem Dv.pl {g a:PS} (hg:Pl g):Dv g a→Pl a:=fun ⟨s,h,e⟩=>by rw [e];exact h.mul hg
def Mn (s:PS) (n:Nat):Prop:=Lt s (n+1)∧s.f n=1
theorem Mn.dg {s:PS} {n:Nat} (h:Mn s n):Dg s n:=⟨h.1,by rw [h.2];decide⟩
theorem Mn.mul {a b:PS} {m n:Nat} (h:Mn a m) (k:Mn b n):Mn (a*b) (m+n):=⟨(h.dg.mul k.dg).1,by rw [top_mul k.1 h.1,h.2,k.2];grind⟩
theorem Mn.one:Mn 1 0:=⟨Lt.one,rfl⟩
theorem Mn.pow {a:PS} {m:Nat} (h:Mn a m):∀k,Mn (a^k) (m*k)
 | 0=>Mn.one
 | k+1=>(Mn.pow h k).mul h
theorem Mn.eq {a b:PS} {m n:Nat} (h:Mn a m) (k:Mn b n) (h1:Dv a b) (h2:Dv b a):a=b:=by
 have l1:=h1.dg h.dg k.dg;have l2:=h2.dg k.dg h.dg;have e:m=n:=by omega
 subst e;obtain ⟨s,ps,e⟩:=h1;have z:s≠0:=fun z=>k.dg.ne (by rw [e,z];grind);obtain ⟨l,hl⟩:=ps.dg z;have q:=hl.mul h.dg;rw [←e] at q;have q:=q.uniq k.dg;have hl0:l=0:=by omega
 subst hl0;have c:=Dg.const hl.1;have t:=k.2;rw [e,c,C_mul,h.2] at t;rw [e,c,show s.f 0=1 by grind,C_one];grind
theorem Dg.mon {s:PS} {n:Nat} (h:Dg s n):Mn (PS.C (s.f n)⁻¹ * s) n:=⟨h.1.smul _,by rw [C_mul];have:=h.2;grind⟩
theorem pigeon:∀(N M:Nat) (f:Nat→Nat),M<N→(∀i,i<N→f i<M)→∃i j,i<j∧j<N∧f i=f j
 | 0,M,f,h,_=>by omega
 | N+1,M,f,h,hf=>by
  by_cases z:∃i,i<N∧f i=f N
  ·obtain ⟨i,hi,e⟩:=z;exact ⟨i,N,hi,by omega,e⟩
  ·cases M with
   | zero=>exact absurd (hf 0 (by omega)) (by omega)
   | succ M =>
    have hne:∀i,i<N→f i≠f N:=fun i hi e=>z ⟨i,hi,e⟩;have hN:=hf N (by omega);obtain ⟨i,j,h1,h2,e⟩:=pigeon N M (fun i=>if f i<f N then f i else f i-1) (by omega) fun i hi=>by
     have:=hf i (by omega);have:=hne i hi;show (if f i<f N then f i else f i-1)<M;split <;> omega
    refine ⟨i,j,h1,by omega,?_⟩;have n1:=hne i (by omega);have n2:=hne j h2;have e:(if f i<f N then f i else f i-1)=(if f j<f N then f j else f j-1):=e;split at e <;> split at e <;> omega
def sm (f:Nat→Int):Nat→Int
 | 0=>0
 | n+1=>sm f n+f n
theorem sm_sub (f g:Nat→Int):∀n,sm (fun k=>f k-g k) n=sm f n-sm g n
 | 0=>rfl
 | n+1=>by simp only [sm];rw [sm_sub f g n];omega
theorem sm_le {f:Nat→Int} {B:Nat}:∀{n:Nat},(∀k,k<n→(f k).natAbs≤B)→(sm f n).natAbs≤n*B
 | 0,_=>by show (0:Int).natAbs≤_;omega
 | n+1,h=>by
  have h1:=sm_le (n:=n) fun k hk=>h k (by omega);have h2:=h n (by omega);have h3:=Int.natAbs_add_le (sm f n) (f n);show (sm f n+f n).natAbs≤_;rw [Nat.add_mul];omega
theorem sm_congr {f g:Nat→Int}:∀{n:Nat},(∀k,k<n→f k=g k)→sm f n=sm g n
 | 0,_=>rfl
 | n+1,h=>by simp only [sm];rw [sm_congr fun k hk=>h k (by omega),h n (by omega)]
def fig (Y:Nat) (f:Nat→Nat):Nat→Nat
 | 0=>0
 | n+1=>f 0+Y*fig Y (fun k=>f (k+1)) n
theorem fig_lt {Y:Nat}:∀{n:Nat} {f:Nat→Nat},(∀k,k<n→f k<Y)→fig Y f n<Y^n
 | 0,_,_=>by show 0<1;omega
 | n+1,f,h=>by
  have h0:=h 0 (by omega);have ih:=fig_lt (n:=n) (f:=fun k=>f (k+1)) fun k hk=>h (k+1) (by omega);show f 0+Y*_<Y^n*Y;have:Y*(fig Y (fun k=>f (k+1)) n+1)≤Y*Y^n:=Nat.mul_le_mul_left _ ih;rw [Nat.mul_comm (Y^n) Y];rw [Nat.mul_add] at this;omega
theorem fig_inj {Y:Nat}:∀{n:Nat} {f g:Nat→Nat},(∀k,k<n→f k<Y)→(∀k,k<n→g k<Y)→fig Y f n=fig Y g n→∀k,k<n→f k=g k
 | 0,_,_,_,_,_,k,hk=>by omega
 | n+1,f,g,hf,hg,e,k,hk=>by
  have e:f 0+Y*fig Y (fun k=>f (k+1)) n=g 0+Y*fig Y (fun k=>g (k+1)) n:=e;have f0:=hf 0 (by omega);have g0:=hg 0 (by omega);have m1:(f 0+Y*fig Y (fun k=>f (k+1)) n)%Y=f 0:=by rw [Nat.add_mul_mod_self_left,Nat.mod_eq_of_lt f0]
  have m2:(g 0+Y*fig Y (fun k=>g (k+1)) n)%Y=g 0:=by rw [Nat.add_mul_mod_self_left,Nat.mod_eq_of_lt g0]
  have e0:f 0=g 0:=by rw [←m1,e,m2]
  cases k with
  | zero=>exact e0
  | succ k =>
   have e1:Y*fig Y (fun k=>f (k+1)) n=Y*fig Y (fun k=>g (k+1)) n:=by omega
   have e2:=Nat.eq_of_mul_eq_mul_left (by omega) e1;exact fig_inj (fun k hk=>hf (k+1) (by omega)) (fun k hk=>hg (k+1) (by omega)) e2 k (by omega)
def dig (Y c:Nat) (k:Nat):Nat:=c/Y^k%Y
theorem dig_fig {Y:Nat} (hY:0<Y):∀(n c:Nat),c<Y^n→fig Y (dig Y c) n=c
 | 0,c,h=>by have:c<1:=h;show 0=c;omega
 | n+1,c,h=>by
  have hd:c/Y<Y^n:=Nat.div_lt_of_lt_mul (by rw [Nat.mul_comm];exact h);have ih:=dig_fig hY n (c/Y) hd;show dig Y c 0+Y*fig Y (fun k=>dig Y c (k+1)) n=c;have e:(fun k=>dig Y c (k+1))=dig Y (c/Y):=by
   funext k
   unfold dig;rw [Nat.pow_succ,Nat.mul_comm,Nat.div_div_eq_div_mul]
  rw [e,ih];unfold dig;rw [Nat.pow_zero,Nat.div_one];have:=Nat.mod_add_div c Y;omega
theorem siegel (K M H:Nat) (hM:M<K) (A:Nat→Nat→Int) (hA:∀i k,i<M→k<K→(A i k).natAbs≤H) :
  ∃x:Nat→Int,(∃k,k<K∧x k≠0)∧(∀k,k<K→(x k).natAbs≤(2*K*H+1)^M)∧∀i,i<M→sm (fun k=>A i k*x k) K=0:=by
 generalize hW:(2*K*H+1)^M=W;have hW0:0<W:=by rw [←hW];exact Nat.pow_pos (by omega)
 obtain ⟨V,hV⟩:∃V,V=K*(H*W):=⟨_,rfl⟩;have hVW:2*V+1≤(2*K*H+1)*(W+1):=by
  rw [hV,Nat.add_mul,Nat.mul_add,show 2*(K*(H*W))=2*K*H*W by simp only [Nat.mul_assoc]];omega
 have hYM:(2*V+1)^M<(W+1)^K:=by
  have h1:(2*V+1)^M≤((2*K*H+1)*(W+1))^M:=Nat.pow_le_pow_left hVW M;rw [Nat.mul_pow,hW] at h1;have h2:W*(W+1)^M<(W+1)^(M+1):=by
   rw [Nat.pow_succ,Nat.mul_comm ((W+1)^M)];exact Nat.mul_lt_mul_of_pos_right (by omega) (Nat.pow_pos (by omega))
  have h3:(W+1)^(M+1)≤(W+1)^K:=Nat.pow_le_pow_right (by omega) hM;omega
 let y:Nat→Nat→Int:=fun c i=>sm (fun k=>A i k*(dig (W+1) c k:Int)) K
 have hd:∀c k,dig (W+1) c k<W+1:=fun c k=>Nat.mod_lt _ (by omega);have hy:∀c i,i<M→(y c i).natAbs≤V:=fun c i hi=>by
  rw [hV];refine sm_le fun k hk=>?_;rw [Int.natAbs_mul];exact Nat.mul_le_mul (hA i k hi hk) (by have:=hd c k;simp;omega)
 let z:Nat→Nat→Nat:=fun c i=>(y c i+V).toNat
 have hz:∀c i,i<M→z c i<2*V+1:=fun c i hi=>by
  have:=hy c i hi;show (y c i+V).toNat<_;omega
 obtain ⟨c,d,hcd,hdW,e⟩:=pigeon ((W+1)^K) ((2*V+1)^M) (fun c=>fig (2*V+1) (z c) M) hYM fun c _=>fig_lt (hz c);have ez:=fig_inj (hz c) (hz d) e;refine ⟨fun k=>(dig (W+1) c k:Int)-dig (W+1) d k,?_,?_,?_⟩
 ·refine Classical.byContradiction fun q=>?_;have q':∀k,k<K→dig (W+1) c k=dig (W+1) d k:=fun k hk=>by
   refine Classical.byContradiction fun r=>q ⟨k,hk,?_⟩;show (dig (W+1) c k:Int)-dig (W+1) d k≠0;omega
  have e1:=dig_fig (show 0<W+1 by omega) K c (by omega);have e2:=dig_fig (show 0<W+1 by omega) K d hdW;have e3:∀(n:Nat) (f g:Nat→Nat),(∀k,k<n→f k=g k)→fig (W+1) f n=fig (W+1) g n:=fun n=>by
   induction n with
   | zero=>intro f g _;rfl
   | succ n ih =>
    intro f g h;show f 0+(W+1)*fig (W+1) (fun k=>f (k+1)) n=g 0+(W+1)*fig (W+1) (fun k=>g (k+1)) n;rw [h 0 (by omega),ih _ _ fun k hk=>h (k+1) (by omega)]
  rw [e3 K _ _ q',e2] at e1;omega
 ·intro k hk;have h1:=hd c k;have h2:=hd d k;show ((dig (W+1) c k:Int)-dig (W+1) d k).natAbs≤W;omega
 ·intro i hi;have e1:=ez i hi;have h1:=hy c i hi;have h2:=hy d i hi;have e2:y c i=y d i:=by
   have e1:(y c i+V).toNat=(y d i+V).toNat:=e1;omega
  have e3:(fun k=>A i k*((dig (W+1) c k:Int)-dig (W+1) d k))=fun k=>A i k*(dig (W+1) c k:Int)-A i k*(dig (W+1) d k:Int):=by
   funext k
   rw [Int.mul_sub]
  rw [e3,sm_sub];show y c i-y d i=0;omega
def Hb (b:Nat) (s:PS):Prop:=∃k:Int,k≠0∧k.natAbs≤2^b∧∀i,∃z:Int,(k:Rat)*s.f i=z∧z.natAbs≤2^b
theorem Hb.mono {a b:Nat} {s:PS} (h:Hb a s) (l:a≤b):Hb b s:=by
 obtain ⟨k,h1,h2,h3⟩:=h;have e:=Nat.pow_le_pow_right (show 0<2 by decide) l;exact ⟨k,h1,Nat.le_trans h2 e,fun i=>by obtain ⟨z,h4,h5⟩:=h3 i;exact ⟨z,h4,Nat.le_trans h5 e⟩⟩
theorem Hb.zero (b:Nat):Hb b 0:=⟨1,by decide,Nat.one_le_two_pow,fun i=>⟨0,by rw [zero_f,Rat.mul_zero];rfl,Nat.zero_le _⟩⟩
theorem natAbs_mul_le {x y:Int} {a b:Nat} (h1:x.natAbs≤2^a) (h2:y.natAbs≤2^b):(x*y).natAbs≤2^(a+b):=by
 rw [Int.natAbs_mul,Nat.pow_add];exact Nat.mul_le_mul h1 h2
theorem Hb.add {a b:Nat} {s u:PS} (h:Hb a s) (l:Hb b u):Hb (a+b+1) (s+u):=by
 obtain ⟨k,h1,h2,h3⟩:=h;obtain ⟨m,l1,l2,l3⟩:=l;refine ⟨k*m,Int.mul_ne_zero h1 l1,Nat.le_trans (natAbs_mul_le h2 l2) (Nat.pow_le_pow_right (by decide) (by omega)),fun i=>?_⟩;obtain ⟨z,h4,h5⟩:=h3 i;obtain ⟨w,l4,l5⟩:=l3 i;refine ⟨z*m+w*k,?_,?_⟩
 ·rw [add_f];grind
 ·have e1:=natAbs_mul_le h5 l2;have e2:=natAbs_mul_le l5 h2;rw [Nat.add_comm b a] at e2;have:=Int.natAbs_add_le (z*m) (w*k);rw [Nat.pow_succ];omega
theorem Hb.smul {a b:Nat} {s:PS} {c:Rat} (hc:c.num.natAbs≤2^a∧c.den≤2^a) (h:Hb b s):Hb (a+b) (PS.C c*s):=by
 obtain ⟨k,h1,h2,h3⟩:=h;have hd:=c.den_nz;refine ⟨c.den*k,Int.mul_ne_zero (by omega) h1,natAbs_mul_le (by simpa using hc.2) h2,fun i=>?_⟩;obtain ⟨z,h4,h5⟩:=h3 i;refine ⟨c.num*z,?_,natAbs_mul_le hc.1 h5⟩;rw [C_mul];have e:(c.den:Rat)*c=c.num:=by
  have:=Rat.num_divInt_den c;rw [Rat.divInt_eq_div] at this;have hd':((c.den:Int):Rat)≠0:=fun z=>hd (by have:=Rat.intCast_eq_zero_iff.mp z;omega);have e3:((c.den:Int):Rat)=(c.den:Rat):=rfl;rw [e3] at this hd';rw [←this];grind
 have e2:((((c.den:Int)*k:Int):Rat))=(c.den:Rat)*(k:Rat):=by
  rw [Rat.intCast_mul];rfl
 rw [e2,Rat.intCast_mul,←h4,←e];grind
theorem Hb.neg {b:Nat} {s:PS} (h:Hb b s):Hb b (-s):=by
 obtain ⟨k,h1,h2,h3⟩:=h;refine ⟨k,h1,h2,fun i=>?_⟩;obtain ⟨z,h4,h5⟩:=h3 i;exact ⟨-z,by rw [neg_f];grind,by omega⟩
theorem Hb.sub {a b:Nat} {s u:PS} (h:Hb a s) (l:Hb b u):Hb (a+b+1) (s-u):=by
 rw [show s-u=s + -u by grind];exact h.add l.neg
theorem Hb.X_mul {b:Nat} {s:PS} (h:Hb b s):Hb b (X*s):=by
 obtain ⟨k,h1,h2,h3⟩:=h;refine ⟨k,h1,h2,fun i=>?_⟩;rw [PS.X_mul];cases i with
 | zero=>exact ⟨0,by show (k:Rat)*0=0;grind,Nat.zero_le _⟩
 | succ i=>exact h3 i
theorem mul_whole {H L:Nat} {b:PS} {m:Int} (hb:∀i,∃z:Int,(m:Rat)*b.f i=z∧z.natAbs≤L) {k:Int} :
  ∀{n:Nat} {a:PS},Lt a n→(∀i,∃z:Int,(k:Rat)*a.f i=z∧z.natAbs≤H)→∀i,∃z:Int,((k*m:Int):Rat)*(a*b).f i=z∧z.natAbs≤n*(H*L)
 | 0,a,h,_,i=>⟨0,by rw [h.nil,show (0:PS)*b=0 by grind,zero_f,Rat.mul_zero];rfl,Nat.zero_le _⟩
 | n+1,a,h,ha,i=>by
  have e:=sh_eq a;have e2:a*b=PS.C (a.f 0)*b+X*(sh a*b):=by
   conv=>lhs;rw [e]
   grind
  obtain ⟨z0,z1,z2⟩:=ha 0;obtain ⟨w0,w1,w2⟩:=hb i;have q0:(z0*w0).natAbs≤H*L:=by rw [Int.natAbs_mul];exact Nat.mul_le_mul z2 w2
  rw [e2,add_f,C_mul,PS.X_mul];cases i with
  | zero =>
   refine ⟨z0*w0,?_,?_⟩
   ·show _*(a.f 0*b.f 0+0)=_;rw [Rat.intCast_mul,Rat.intCast_mul,←z1,←w1];grind
   ·rw [Nat.add_mul];omega
  | succ i =>
   obtain ⟨v0,v1,v2⟩:=mul_whole hb (k:=k) h.sh (fun i=>ha (i+1)) i;refine ⟨z0*w0+v0,?_,?_⟩
   ·show _*(a.f 0*b.f (i+1)+(sh a*b).f i)=_;rw [Rat.intCast_add,←v1,Rat.intCast_mul,Rat.intCast_mul,←z1,←w1];grind
   ·have:=Int.natAbs_add_le (z0*w0) v0;rw [Nat.add_mul];omega
theorem Hb.mul {a b l n:Nat} {s u:PS} (h:Hb a s) (k:Hb b u) (hs:Lt s n) (hl:n≤2^l):Hb (a+b+l) (s*u):=by
 obtain ⟨x,h1,h2,h3⟩:=h;obtain ⟨y,k1,k2,k3⟩:=k;refine ⟨x*y,Int.mul_ne_zero h1 k1,Nat.le_trans (natAbs_mul_le h2 k2) (Nat.pow_le_pow_right (by decide) (by omega)),fun i=>?_⟩;obtain ⟨z,e1,e2⟩:=mul_whole k3 hs h3 i;refine ⟨z,e1,Nat.le_trans e2 ?_⟩;rw [Nat.pow_add,Nat.pow_add,Nat.mul_comm];exact Nat.mul_le_mul (Nat.le_refl _) hl
theorem int_ne {k:Int} (h:k≠0):(k:Rat)≠0:=fun e=>h (Rat.intCast_eq_zero_iff.mp e)
theorem Hb.mon {b n:Nat} {s:PS} (h:Hb b s) (d:Dg s n):Hb b (PS.C (s.f n)⁻¹ * s):=by
 obtain ⟨k,h1,h2,h3⟩:=h;obtain ⟨z,e1,e2⟩:=h3 n;have hk:=int_ne h1;have hn:=d.2;refine ⟨z,fun e=>?_,e2,fun i=>?_⟩
 ·rw [e] at e1;have:(k:Rat)*s.f n=0:=e1;grind
 ·obtain ⟨w,l1,l2⟩:=h3 i;refine ⟨w,?_,l2⟩;rw [C_mul,←e1,←l1];grind
def psum (x:Nat→Int):Nat→PS
 | 0=>0
 | n+1=>psum x n+PS.C (x n)*X^n
theorem psum_lt (x:Nat→Int):∀n,Lt (psum x n) n
 | 0=>Lt.zero 0
 | n+1=>((psum_lt x n).mono (by omega)).add ((Xpow_lt n).smul _)
theorem psum_f (x:Nat→Int):∀n k,k<n→(psum x n).f k=x k
 | n+1,k,h=>by
  show (psum x n+PS.C (x n)*X^n).f k=_;rw [add_f,C_mul,Xpow_f];rcases Nat.eq_or_lt_of_le (show k≤n by omega) with e | e
  ·subst e;rw [psum_lt x k k (by omega),if_pos rfl];grind
  ·rw [psum_f x n k e,if_neg (by omega)];grind
theorem Xpow_mul:∀(n:Nat) (s:PS) (t:Nat),(X^n*s).f t=if n≤t then s.f (t-n) else 0
 | 0,s,t=>by rw [show (X^0:PS)*s=s by grind,if_pos (by omega)];rfl
 | n+1,s,t=>by
  rw [show (X^(n+1):PS)*s=X*(X^n*s) by grind,PS.X_mul];cases t with
  | zero=>show (0:Rat)=_;rw [if_neg (by omega)]
  | succ t =>
   show (X^n*s).f t=_;rw [Xpow_mul n s t,show t+1-(n+1)=t-n by omega];by_cases h:n≤t
   ·rw [if_pos h,if_pos (by omega)]
   ·rw [if_neg h,if_neg (by omega)]
theorem psum_mul {P:Nat→Int} {s:PS} (hs:∀i,s.f i=P i) (x:Nat→Int) (t:Nat):∀n,(psum x n*s).f t=((sm (fun k=>(if k≤t then P (t-k) else 0)*x k) n:Int):Rat)
 | 0=>by show ((0:PS)*s).f t=_;rw [show (0:PS)*s=0 by grind,zero_f];rfl
 | n+1=>by
  show ((psum x n+PS.C (x n)*X^n)*s).f t=((sm _ n+(if n≤t then P (t-n) else 0)*x n:Int):Rat);rw [show (psum x n+PS.C (x n)*X^n)*s=psum x n*s+PS.C (x n)*(X^n*s) by grind,add_f,psum_mul hs x t n,C_mul,Xpow_mul,Rat.intCast_add,Rat.intCast_mul];by_cases h:n≤t
  ·rw [if_pos h,if_pos h,hs];grind
  ·rw [if_neg h,if_neg h];grind
theorem sm_two {f g:Nat→Int} {m:Nat}:∀n,sm (fun k=>if k<m then f k else g (k-m)) (m+n)=sm f m+sm g n
 | 0=>by
  show sm _ m=sm f m+0;rw [Int.add_zero];exact sm_congr fun k hk=>by rw [if_pos hk]
 | n+1=>by
  show sm _ (m+n)+(if m+n<m then f (m+n) else g (m+n-m))=sm f m+(sm g n+g n);rw [sm_two n,if_neg (by omega),show m+n-m=n by omega];omega
theorem rest_ht {p q b ub vb ua va:PS} {m n j ja h l:Nat} {d:Rat} (hp:Hb h p) (hq:Hb h q) (dp:Dg p m) (dq:Dg q n) (hb:Mn b j)
  (jm:ja≤m) (jn:ja≤n) (jj:j<ja) (lu:Lt ub (n-ja+1)) (lv:Lt vb (m-ja+1)) (pu:Pl ua) (pv:Pl va)
  (e:b=ub*p+vb*q) (hd:d≠0) (ed:ua*vb-ub*va=PS.C d) (hl:2*(m+n)+1≤2^l):Hb ((m+n)*(h+l)) b:=by
 obtain ⟨kp,p1,p2,p3⟩:=hp;obtain ⟨kq,q1,q2,q3⟩:=hq;obtain ⟨P,hP⟩:=Classical.axiomOfChoice p3;obtain ⟨Q,hQ⟩:=Classical.axiomOfChoice q3;obtain ⟨K,hK⟩:∃K,K=(n-j)+(m-j):=⟨_,rfl⟩;let s1:PS:=⟨fun i=>(P i:Rat)⟩
 let s2:PS:=⟨fun i=>(Q i:Rat)⟩
 have es1:s1=PS.C kp*p:=by ext i;rw [C_mul];exact (hP i).1.symm
 have es2:s2=PS.C kq*q:=by ext i;rw [C_mul];exact (hQ i).1.symm
 let A:Nat→Nat→Int:=fun t k=>if k<n-j then (if k≤t then P (t-k) else 0) else (if k-(n-j)≤t then Q (t-(k-(n-j))) else 0)
 have hA:∀t k,(A t k).natAbs≤2^h:=fun t k=>by
  show (if k<n-j then (if k≤t then P (t-k) else 0) else (if k-(n-j)≤t then Q (t-(k-(n-j))) else 0):Int).natAbs≤_;split
  ·split
   ·exact (hP _).2
   ·exact Nat.zero_le _
  ·split
   ·exact (hQ _).2
   ·exact Nat.zero_le _
 obtain ⟨x,⟨k0,k1,k2⟩,x1,x2⟩:=siegel K (K-1) (2^h) (by omega) (fun i k=>A (j+1+i) k) fun i k _ _=>hA _ _;let y:Nat→Int:=fun k=>x (n-j+k)
 let u:PS:=psum x (n-j)*PS.C kp
 let v:PS:=psum y (m-j)*PS.C kq
 have wf:∀t,(u*p+v*q).f t=((sm (fun k=>A t k*x k) K:Int):Rat):=fun t=>by
  have e1:u*p+v*q=psum x (n-j)*s1+psum y (m-j)*s2:=by
   rw [es1,es2];show psum x (n-j)*PS.C kp*p+psum y (m-j)*PS.C kq*q=_;grind
  rw [e1,add_f,psum_mul (P:=P) (fun i=>rfl),psum_mul (P:=Q) (fun i=>rfl),←Rat.intCast_add];congr 1
  rw [hK,←sm_two];refine sm_congr fun k hk=>?_;show _=(if k<n-j then (if k≤t then P (t-k) else 0) else (if k-(n-j)≤t then Q (t-(k-(n-j))) else 0):Int)*x k;by_cases z:k<n-j
  ·rw [if_pos z,if_pos z]
  ·rw [if_neg z,if_neg z];show _*x (n-j+(k-(n-j)))=_;rw [show n-j+(k-(n-j))=k by omega]
 have ku:=int_ne p1;have kv:=int_ne q1;have hu:Lt u (n-j):=fun t ht=>by
  show (psum x (n-j)*PS.C kp).f t=0;rw [PS.mulc,C_mul,psum_lt x (n-j) t ht];grind
 have hv:Lt v (m-j):=fun t ht=>by
  show (psum y (m-j)*PS.C kq).f t=0;rw [PS.mulc,C_mul,psum_lt y (m-j) t ht];grind
 have hw:Lt (u*p+v*q) (j+1):=fun t ht=>by
  rcases Nat.lt_or_ge t (m+n-j) with z | z
  ·rw [wf t];have:=x2 (t-j-1) (by omega);simp only [show j+1+(t-j-1)=t by omega] at this;rw [this];rfl
  ·exact Lt.add (hu.mul' dp.1 (by omega)) (hv.mul' dq.1 (by omega)) t z
 have c1:v*ub-u*vb=0:=by
  refine Classical.byContradiction fun z=>?_;obtain ⟨k,hk⟩:=(show Pl (v*ub-u*vb) from ⟨_,(hv.mul' lu (k:=m+n) (by omega)).sub (hu.mul' lv (by omega))⟩).dg z;have t1:=dq.mul hk;have t2:q*(v*ub-u*vb)=(u*p+v*q)*ub-u*b:=by rw [e];grind
  rw [t2] at t1;have:=t1.lt (Lt.sub (hw.mul' lu (k:=n) (by omega)) (hu.mul' hb.1 (by omega)));omega
 have c2:(u*p+v*q)*ub=u*b:=by rw [e];grind
 have c3:(u*p+v*q)*vb=v*b:=by rw [e];grind
 have c4:PS.C d*(u*p+v*q)=(ua*v-va*u)*b:=by rw [←ed];grind
 generalize hW:u*p+v*q=w at *
 have wne:w≠0:=fun z=>by
  have bn:=hb.dg.ne;have u0:u=0:=Classical.byContradiction fun q=>Pl.mul_ne ⟨_,hu⟩ hb.dg.pl q bn (by rw [←c2,z];grind);have v0:v=0:=Classical.byContradiction fun q=>Pl.mul_ne ⟨_,hv⟩ hb.dg.pl q bn (by rw [←c3,z];grind);rcases Nat.lt_or_ge k0 (n-j) with r | r
  ·have:u.f k0=x k0*kp:=by
    show (psum x (n-j)*PS.C kp).f k0=_;rw [PS.mulc,C_mul,psum_f x _ _ r];grind
   rw [u0,zero_f] at this;have:=int_ne k2;grind
  ·have:v.f (k0-(n-j))=x k0*kq:=by
    show (psum y (m-j)*PS.C kq).f _=_;rw [PS.mulc,C_mul,psum_f y _ _ (by omega)];show _*(x (n-j+(k0-(n-j))):Rat)=_;rw [show n-j+(k0-(n-j))=k0 by omega];grind
   rw [v0,zero_f] at this;have:=int_ne k2;grind
 have pw:Pl (ua*v-va*u):=(pu.mul ⟨_,hv⟩).sub (pv.mul ⟨_,hu⟩);have c5:∃β:Rat,w=PS.C β*b:=by
  have gn:ua*v-va*u≠0:=fun z=>by
   rw [z] at c4;exact Pl.mul_ne (Pl.C d) ⟨_,hw⟩ (Dg.C hd).ne wne (by rw [c4];grind)
  obtain ⟨k,hk⟩:=pw.dg gn;have t:=hk.mul hb.dg;rw [←c4] at t;have:=t.lt (hw.smul d);have hk0:k=0:=by omega
  subst hk0;have cc:=Dg.const hk.1;generalize (ua*v-va*u).f 0=g at cc;refine ⟨d⁻¹ * g,?_⟩;rw [cc] at c4;have:PS.C d⁻¹ * (PS.C d*w)=PS.C d⁻¹ * (PS.C g*b):=by rw [c4]
  have e1:PS.C d⁻¹ * PS.C d=1:=by rw [←PS.C_mulC,show d⁻¹ * d=1 by grind,C_one]
  rw [PS.C_mulC];grind
 obtain ⟨β,hβ⟩:=c5;have hβj:w.f j=β:=by rw [hβ,C_mul,hb.2];grind
 have bnd:∀t,(sm (fun k=>A t k*x k) K).natAbs≤2^((m+n)*(h+l)):=fun t=>by
  have e1:(sm (fun k=>A t k*x k) K).natAbs≤K*(2^h*(2*K*2^h+1)^(K-1)):=sm_le fun k hk=>by
   rw [Int.natAbs_mul];exact Nat.mul_le_mul (hA t k) (x1 k hk)
  have e2:2*K*2^h+1≤2^(h+l):=by
   rw [Nat.pow_add,Nat.mul_comm (2^h)];have h0:1≤2^h:=Nat.one_le_two_pow;have:(2*K+1)*2^h≤2^l*2^h:=Nat.mul_le_mul_right _ (by omega);rw [Nat.add_mul] at this;omega
  have e3:(2*K*2^h+1)^(K-1)≤2^((h+l)*(K-1)):=by
   rw [Nat.pow_mul];exact Nat.pow_le_pow_left e2 _
  have e4:K*2^h≤2^(h+l):=by
   have:K*2^h≤2*K*2^h:=Nat.mul_le_mul_right _ (by omega);omega
  refine Nat.le_trans e1 ?_;rw [←Nat.mul_assoc];refine Nat.le_trans (Nat.mul_le_mul e4 e3) ?_;rw [←Nat.pow_add];refine Nat.pow_le_pow_right (by decide) ?_;have:(h+l)+(h+l)*(K-1)=(h+l)*K:=by
   rw [show K=K-1+1 by omega,Nat.mul_add];simp;omega
  rw [this,Nat.mul_comm];exact Nat.mul_le_mul_right _ (by omega)
 refine ⟨sm (fun k=>A j k*x k) K,fun z=>?_,bnd j,fun i=>⟨sm (fun k=>A i k*x k) K,?_,bnd i⟩⟩
 ·have:=wf j;rw [z] at this;have b0:β=0:=by rw [←hβj,this];rfl
  rw [b0,C_zero] at hβ;exact wne (by rw [hβ];grind)
 ·rw [←wf i,←wf j,hβj,hβ,C_mul]
def EuI (p q:PS) (m n:Nat) (a b:PS) (ja:Nat):Prop:=Dg a ja∧Lt b ja∧ja≤m∧ja≤n∧∃ua va ub vb:PS,∃d:Rat,
 a=ua*p+va*q∧b=ub*p+vb*q∧Lt ua (n-ja+1)∧Lt va (m-ja+1)∧Lt ub (n-ja+1)∧Lt vb (m-ja+1)∧d≠0∧ua*vb-ub*va=PS.C d
theorem EuI.ht {p q a b:PS} {m n ja j h l:Nat} (k:EuI p q m n a b ja) (hp:Hb h p) (hq:Hb h q) (dp:Dg p m) (dq:Dg q n) (hb:Mn b j) (hl:2*(m+n)+1≤2^l):Hb ((m+n)*(h+l)) b:=by
 obtain ⟨h1,h2,h3,h4,ua,va,ub,vb,d,e1,e2,l1,l2,l3,l4,hd,ed⟩:=k;exact rest_ht hp hq dp dq hb h3 h4 (hb.dg.lt h2) l3 l4 ⟨_,l1⟩ ⟨_,l2⟩ e2 hd ed hl
def IsG (p q g:PS):Prop:=Pl p∧Pl q∧((g=0∧p=0∧q=0)∨∃n,Mn g n∧Dv g p∧Dv g q∧∃u v,Pl u∧Pl v∧g=u*p+v*q)
theorem IsG.symm {p q g:PS} (h:IsG p q g):IsG q p g:=by
 obtain ⟨a,b,h⟩:=h;refine ⟨b,a,?_⟩;rcases h with ⟨h1,h2,h3⟩ | ⟨n,h1,h2,h3,u,v,h4,h5,h6⟩
 ·exact .inl ⟨h1,h3,h2⟩
 ·exact .inr ⟨n,h1,h3,h2,v,u,h5,h4,by grind⟩
theorem IsG.pl {p q g:PS} (h:IsG p q g):Pl g:=by
 obtain ⟨a,b,⟨rfl,_⟩ | ⟨n,h1,_⟩⟩:=h
 ·exact Pl.zero
 ·exact h1.dg.pl
theorem IsG.dvl {p q g:PS} (h:IsG p q g):Dv g p:=by
 obtain ⟨a,b,⟨rfl,rfl,_⟩ | ⟨n,_,h1,_⟩⟩:=h
 ·exact Dv.zero _
 ·exact h1
theorem IsG.dvr {p q g:PS} (h:IsG p q g):Dv g q:=h.symm.dvl
theorem IsG.comb {p q g:PS} (h:IsG p q g):∃u v,Pl u∧Pl v∧g=u*p+v*q:=by
 obtain ⟨a,b,⟨rfl,rfl,rfl⟩ | ⟨n,_,_,_,h1⟩⟩:=h
 ·exact ⟨0,0,Pl.zero,Pl.zero,by grind⟩
 ·exact h1
theorem IsG.gt {p q g d:PS} (h:IsG p q g) (h1:Dv d p) (h2:Dv d q):Dv d g:=by
 obtain ⟨u,v,h3,h4,e⟩:=h.comb;rw [e];exact (h1.mul u h3).add (h2.mul v h4)
theorem Dv.of_zero {a:PS} (h:Dv 0 a):a=0:=by obtain ⟨s,_,e⟩:=h;rw [e];grind
theorem IsG.uniq {p q g g':PS} (h:IsG p q g) (h':IsG p q g'):g=g':=by
 have d1:=h'.gt h.dvl h.dvr;have d2:=h.gt h'.dvl h'.dvr;have k:=h;have k':=h';obtain ⟨a,b,⟨rfl,_,_⟩ | ⟨n,m1,_⟩⟩:=k
 ·exact (Dv.of_zero d1).symm
 ·obtain ⟨a,b,⟨rfl,_,_⟩ | ⟨n',m2,_⟩⟩:=k'
  ·exact Dv.of_zero d2
  ·exact m1.eq m2 d1 d2
theorem IsG.of {p q g:PS} {n:Nat} (hp:Pl p) (hq:Pl q) (hg:Mn g n) (h1:Dv g p) (h2:Dv g q) {u v:PS} (hu:Pl u) (hv:Pl v) (e:g=u*p+v*q):IsG p q g:=⟨hp,hq,.inr ⟨n,hg,h1,h2,u,v,hu,hv,e⟩⟩
theorem C_cancel {c:Rat} (h:c≠0):PS.C c⁻¹ * PS.C c=1:=by rw [←PS.C_mulC,show c⁻¹ * c=1 by grind,C_one]
theorem IsG.conv {p q p' q' g:PS} (h:IsG p' q' g) (hp:Pl p) (hq:Pl q) (h1:∀d,Dv d p'→Dv d q'→Dv d p∧Dv d q) (h2:∃a b c d,Pl a∧Pl b∧Pl c∧Pl d∧p'=a*p+b*q∧q'=c*p+d*q):IsG p q g:=by
 obtain ⟨a,b,c,d,pa,pb,pc,pd,ep,eq⟩:=h2;obtain ⟨w1,w2⟩:=h1 g h.dvl h.dvr;obtain ⟨u,v,pu,pv,e⟩:=h.comb;have e':g=(u*a+v*c)*p+(u*b+v*d)*q:=by rw [e,ep,eq];grind
 refine ⟨hp,hq,?_⟩;rcases h.2.2 with ⟨rfl,_,_⟩ | ⟨n,m1,_⟩
 ·exact .inl ⟨rfl,Dv.of_zero w1,Dv.of_zero w2⟩
 ·exact .inr ⟨n,m1,w1,w2,_,_,(pu.mul pa).add (pv.mul pc),(pu.mul pb).add (pv.mul pd),e'⟩
theorem IsG.back {p q s r g:PS} {c:Rat} (h:IsG q (PS.C c*r) g) (hc:c≠0) (ps:Pl s) (pr:Pl r) (e:p=s*q+r):IsG p q g:=by
 have z:=C_cancel hc;refine h.conv (by rw [e];exact (ps.mul h.1).add pr) h.1 (fun d h1 h2=>⟨?_,h1⟩) ⟨0,1,PS.C c,-(PS.C c*s),Pl.zero,Pl.one,Pl.C c,((Pl.C c).mul ps).neg,by grind,by rw [e];grind⟩
 have h3:=h2.mul (PS.C c⁻¹) (Pl.C _);rw [show PS.C c⁻¹ * (PS.C c*r)=r by grind] at h3;rw [e];exact (h1.mul s ps).add h3
theorem IsG.ex:∀(n:Nat) {p q:PS},Pl p→Lt q n→∃g,IsG p q g
 | 0,p,q,hp,hq=>by
  have hq:=hq.nil;subst hq;by_cases z:p=0
  ·subst z;exact ⟨0,Pl.zero,Pl.zero,.inl ⟨rfl,rfl,rfl⟩⟩
  ·obtain ⟨m,hm⟩:=hp.dg z;have c:=C_cancel hm.2;exact ⟨_,IsG.of hp Pl.zero hm.mon ⟨PS.C (p.f m),Pl.C _,by grind⟩ (Dv.zero _) (Pl.C (p.f m)⁻¹) Pl.zero (by grind)⟩
 | n+1,p,q,hp,hq=>by
  by_cases z:q=0
  ·subst z;exact IsG.ex n hp (Lt.zero _)
  ·obtain ⟨j,hj⟩:=(show Pl q from ⟨_,hq⟩).dg z;have:=hj.lt hq;obtain ⟨m,hm⟩:=hp;obtain ⟨s,r,e,hr,hs⟩:=div_ex hj hm;obtain ⟨g,hg⟩:=IsG.ex n (p:=q) (q:=r) hj.pl (hr.mono (by omega));refine ⟨g,IsG.back (c:=1) (r:=r) (s:=s) ?_ (by decide) ⟨_,hs⟩ ⟨_,hr⟩ e⟩;rw [C_one,show (1:PS)*r=r by grind];exact hg
open Classical in
noncomputable def lc (s:PS):Rat:=if h:∃n,Dg s n then s.f h.choose else 0
theorem lc_eq {s:PS} {n:Nat} (h:Dg s n):lc s=s.f n:=by
 have z:∃n,Dg s n:=⟨n,h⟩;unfold lc;rw [dif_pos z,z.choose_spec.uniq h]
noncomputable def mon (s:PS):PS:=PS.C (lc s)⁻¹ * s
theorem mon_zero:mon 0=0:=by unfold mon;grind
theorem Hb.mon' {b:Nat} {s:PS} (h:Hb b s) (p:Pl s):Hb b (AW.mon s):=by
 by_cases z:s=0
 ·rw [z,mon_zero];exact Hb.zero b
 ·obtain ⟨n,hn⟩:=p.dg z;unfold AW.mon;rw [lc_eq hn];exact h.mon hn
theorem mon_lt {s:PS} {n:Nat} (h:Lt s n):Lt (mon s) n:=h.smul _
end AW
namespace AW
open PySem PySem.Spec PyProof.Rows
theorem getD_range (f:Nat→Rat) (N n:Nat):((List.range N).map f).getD n 0=if n<N then f n else 0:=by
 by_cases h:n<N
 ·rw [if_pos h];simp [h]
 ·rw [if_neg h];simp [h]
theorem ser_range {s:PS} {N:Nat} (h:Lt s N):ser ((List.range N).map s.f)=s:=by
 ext n
 rw [ser_f,getD_range];by_cases z:n<N
 ·rw [if_pos z]
 ·rw [if_neg z,h n (by omega)]
theorem lt_ser (p:List Rat):Lt (ser p) p.length:=fun k hk=>by rw [ser_f];simp [hk]
theorem pl_ser (p:List Rat):Pl (ser p):=⟨_,lt_ser p⟩
open Classical in
noncomputable def toL (s:PS):List Rat:=if h:Pl s then trim ((List.range h.choose).map s.f) else []
theorem ser_toL {s:PS} (h:Pl s):ser (toL s)=s:=by
 unfold toL;rw [dif_pos h,ser_trim,ser_range h.choose_spec]
theorem trim_toL (s:PS):trim (toL s)=toL s:=by
 unfold toL;split
 ·rw [trim_trim]
 ·rfl
theorem toL_ser (p:List Rat):toL (ser p)=trim p:=by
 rw [←trim_toL];exact trim_ext (ser_toL (pl_ser p))
theorem toL_zero:toL 0=[]:=toL_ser []
theorem toL_dg {s:PS} {n:Nat} (h:Dg s n):toL s=(List.range (n+1)).map s.f:=by
 have e1:ser (toL s)=ser ((List.range (n+1)).map s.f):=by rw [ser_toL h.pl,ser_range h.1]
 have e2:=trim_ext e1;rw [trim_toL] at e2;rw [e2,List.range_succ,List.map_append];show trim (_++[s.f n])=_;rw [trim_snoc,if_neg h.2];rfl
theorem toL_len {s:PS} {n:Nat} (h:Dg s n):(toL s).length=n+1:=by rw [toL_dg h];simp
theorem toL_le {s:PS} {n:Nat} (h:Lt s n):(toL s).length≤n:=by
 by_cases z:s=0
 ·rw [z,toL_zero];exact Nat.zero_le _
 ·obtain ⟨m,hm⟩:=(show Pl s from ⟨_,h⟩).dg z;rw [toL_len hm];exact hm.lt h
theorem toL_getD {s:PS} (h:Pl s) (i:Nat):(toL s).getD i 0=s.f i:=by rw [←ser_f,ser_toL h]
theorem toL_get {s:PS} (h:Pl s) {i:Nat} (hi:i<(toL s).length):(toL s)[i]?=some (s.f i):=by
 have:=toL_getD h i;rw [List.getElem?_eq_getElem hi];rw [List.getD_eq_getElem?_getD,List.getElem?_eq_getElem hi] at this;exact congrArg some this
theorem Bd.of_whole {b:Nat} {x:Rat} {k z:Int} (hk:k≠0) (h1:k.natAbs≤2^b) (e:(k:Rat)*x=z) (h2:z.natAbs≤2^b):Bd b x:=by
 have hk':=int_ne hk;have ex:x=Rat.divInt z k:=by
  rw [Rat.divInt_eq_div,←e];grind
 have:=divInt_le (a:=z) (b:=k) hk;rw [←ex] at this;exact ⟨Nat.le_trans this.1 h2,Nat.le_trans this.2 h1⟩
theorem Hb.bd {b:Nat} {s:PS} (h:Hb b s) (i:Nat):Bd b (s.f i):=by
 obtain ⟨k,h1,h2,h3⟩:=h;obtain ⟨z,h4,h5⟩:=h3 i;exact Bd.of_whole h1 h2 h4 h5
theorem Hb.bdL {b:Nat} {s:PS} (h:Hb b s) (p:Pl s):BdL b (toL s):=fun x hx=>by
 obtain ⟨i,hi⟩:=List.mem_iff_getElem?.mp hx;have hlt:=(List.getElem?_eq_some_iff.mp hi).1;rw [toL_get p hlt] at hi;rw [←Option.some.inj hi];exact h.bd i
theorem Hb.C {b:Nat} {c:Rat} (h:Bd b c):Hb b (PS.C c):=by
 refine ⟨c.den,by have:=c.den_nz;omega,by simpa using h.2,fun i=>?_⟩;have e:(((c.den:Int):Rat))*c=c.num:=by
  have e1:=Rat.num_divInt_den c;rw [Rat.divInt_eq_div] at e1;have hd':((c.den:Int):Rat)≠0:=int_ne (by have:=c.den_nz;omega);generalize ((c.den:Int):Rat)=d at *
  rw [←e1];grind
 show ∃z:Int,_*(if i=0 then c else 0)=_∧_;by_cases z:i=0
 ·rw [if_pos z];exact ⟨c.num,e,h.1⟩
 ·rw [if_neg z];exact ⟨0,by rw [Rat.mul_zero];rfl,Nat.zero_le _⟩
theorem Hb.ofC {a b:Nat} {s:PS} {c:Rat} (hc:Bd a c) (h:Hb b s):Hb (a+b) (PS.C c*s):=Hb.smul hc h
theorem Hb.one (b:Nat):Hb b 1:=(Hb.C (c:=1) (Bd.one b))
theorem Hb.ser {b:Nat}:∀{p:List Rat},BdL b p→Hb (p.length*(b+1)) (ser p)
 | [],_=>Hb.zero _
 | a::p,h=>by
  have h1:=Hb.C (h a List.mem_cons_self);have h2:=(Hb.ser (p:=p) fun x hx=>h x (List.mem_cons_of_mem _ hx)).X_mul;refine (h1.add h2).mono ?_;rw [List.length_cons,Nat.add_mul];omega
@[simp] theorem s2_isb (a b:Bool):sem2 .is_ (.bool a) (.bool b)=v1 (.bool (a==b)):=rfl
@[simp] theorem s2_isnb (a b:Bool):sem2 .isn (.bool a) (.bool b)=v1 (.bool (!(a==b))):=rfl
@[simp] theorem s2_isn (d:D):sem2 .is_ d .none=v1 (.bool (match d with | .none=>true | _=>false)):=by cases d <;> rfl
@[simp] theorem s2_isnn (d:D):sem2 .isn d .none=v1 (.bool (match d with | .none=>false | _=>true)):=by cases d <;> rfl
noncomputable def po (s:PS):D:=pol (toL s)
theorem pol_trim (p:List Rat):pol (trim p)=po (ser p):=by unfold po;rw [toL_ser]
@[simp] theorem eq_self (a:PS):sem2 .eq (po a) (po a)=v1 (.bool true):=by unfold po;rw [eq_pol];simp
@[simp] theorem ne_self (a:PS):sem2 .ne (po a) (po a)=v1 (.bool false):=by unfold po;rw [ne_pol];simp
@[simp] theorem len_po (s:PS):sem1 .len (po s)=v1 (.int (toL s).length):=by unfold po pol;rw [s1_lent,List.length_map]
@[simp] theorem seq_po (s:PS):seqR (po s) = .ok ((toL s).map fr):=rfl
structure Z (n h:Nat) (s:PS):Prop where
 lt:Lt s n
 hb:Hb h s
theorem Z.pl {n h:Nat} {s:PS} (z:Z n h s):Pl s:=⟨_,z.lt⟩
theorem Z.mono {m n h k:Nat} {s:PS} (z:Z m h s) (l1:m≤n) (l2:h≤k):Z n k s:=⟨z.lt.mono l1,z.hb.mono l2⟩
theorem Z.zero (n h:Nat):Z n h 0:=⟨Lt.zero n,Hb.zero h⟩
theorem Z.one (n h:Nat) (hn:1≤n):Z n h 1:=⟨Lt.one.mono hn,Hb.one h⟩
theorem Z.add {m n h k:Nat} {a b:PS} (x:Z m h a) (y:Z n k b):Z (max m n) (h+k+1) (a+b):=⟨(x.lt.mono (Nat.le_max_left _ _)).add (y.lt.mono (Nat.le_max_right _ _)),x.hb.add y.hb⟩
theorem Z.sub {m n h k:Nat} {a b:PS} (x:Z m h a) (y:Z n k b):Z (max m n) (h+k+1) (a-b):=⟨(x.lt.mono (Nat.le_max_left _ _)).sub (y.lt.mono (Nat.le_max_right _ _)),x.hb.sub y.hb⟩
theorem Z.mul {m n h k l:Nat} {a b:PS} (x:Z m h a) (y:Z n k b) (hl:m≤2^l):Z (m+n-1) (h+k+l) (a*b):=⟨x.lt.mul' y.lt (by omega),x.hb.mul y.hb x.lt hl⟩
theorem Z.smul {n h k:Nat} {c:Rat} {a:PS} (hc:Bd h c) (y:Z n k a):Z n (h+k) (PS.C c*a):=⟨y.lt.smul c,y.hb.ofC hc⟩
theorem Z.mon {n h:Nat} {a:PS} (x:Z n h a):Z n h (AW.mon a):=⟨mon_lt x.lt,x.hb.mon' x.pl⟩
theorem Z.bd {n h:Nat} {a:PS} (x:Z n h a) (i:Nat):Bd h (a.f i):=x.hb.bd i
theorem Z.okL {n h:Nat} {a:PS} (x:Z n h a) (l:h≤40000000):OkL (toL a):=OkL.of (x.hb.bdL x.pl) l
theorem Z.ln {n h:Nat} {a:PS} (x:Z n h a) (l:n≤100000):Ln (toL a):=Nat.le_trans (toL_le x.lt) l
section
variable {G:Nat→D} {c:Nat→List Sl→R (D×Bool)} {T:List Fn} {nm:Nm}
theorem SpSum.z {j:Nat} (hs:SpSum c j) {a b:PS} {n h:Nat} (x:Z n h a) (y:Z n h b) (l:n≤100000∧h≤40000000):c j [.va (po a),.va (po b)]=va (po (a+b)):=by
 have e:=hs (toL a) (toL b) (x.okL l.2) (y.okL l.2) (x.ln l.1) (y.ln l.1);rw [pol_trim,ser_add,ser_toL x.pl,ser_toL y.pl] at e;exact e
theorem SpScaled.z {j:Nat} (hs:SpScaled c j) {a:PS} {x:Rat} {n h:Nat} (z:Z n h a) (hx:Bd h x) (l:n≤100000∧h≤40000000):c j [.va (po a),.va (fr x)]=va (po (PS.C x*a)):=by
 have e:=hs (toL a) x (z.okL l.2) (Ok.of hx l.2) (z.ln l.1);rw [pol_trim,ser_smul,ser_toL z.pl] at e;exact e
def der (s:PS):PS:=⟨fun n=>((n+1:Nat):Rat)*s.f (n+1)⟩
theorem ser_enum:∀(p:List Rat) (k:Nat),ser ((enumN k p).map fun (z:Nat×Rat)=>(((z.1+1:Nat):Int):Rat)*z.2)=⟨fun n=>(((k+n+1:Nat):Int):Rat)*p.getD n 0⟩
 | [],k=>by
  ext n
  show (0:PS).f n=_*([]:List Rat).getD n 0;rw [PS.zero_f];simp
 | a::p,k=>by
  ext n
  show (PS.C ((((k+1:Nat):Int):Rat)*a)+PS.X*ser ((enumN (k+1) p).map _)).f n=_;rw [PS.add_f,PS.X_mul,ser_enum p (k+1)];cases n with
  | zero =>
   show (if 0=0 then (((k+1:Nat):Int):Rat)*a else 0)+0=_*a;rw [if_pos rfl,Nat.add_zero];grind
  | succ n =>
   show (if n+1=0 then (((k+1:Nat):Int):Rat)*a else (0:Rat))+(((k+1+n+1:Nat):Int):Rat)*p.getD n 0=(((k+(n+1)+1:Nat):Int):Rat)*p.getD n 0;rw [if_neg (by omega),show k+1+n+1=k+(n+1)+1 by omega];grind
theorem ser_der (p:List Rat):ser (derL p)=der (ser p):=by
 unfold derL;rw [ser_enum];ext n
 show (((0+n+1:Nat):Int):Rat)*(p.drop 1).getD n 0=((n+1:Nat):Rat)*(ser p).f (n+1);rw [ser_f,Nat.zero_add];have:(p.drop 1).getD n 0=p.getD (n+1) 0:=by cases p <;> simp
 rw [this];rfl
theorem SpSlope.z {j:Nat} (hs:SpSlope c j) {a:PS} {n h:Nat} (x:Z n h a) (l:n≤100000∧h≤40000000):c j [.va (po a)]=va (po (der a)):=by
 have e:=hs (toL a) (x.okL l.2) (x.ln l.1);rw [pol_trim,ser_der,ser_toL x.pl] at e;exact e
end
def Nb (K:Int) (L:Nat) (x:Rat):Prop:=∃z:Int,(K:Rat)*x=z∧z.natAbs≤L
theorem Nb.mono {K:Int} {L M:Nat} {x:Rat} (h:Nb K L x) (l:L≤M):Nb K M x:=by obtain ⟨z,h1,h2⟩:=h;exact ⟨z,h1,Nat.le_trans h2 l⟩
theorem Nb.zero (K:Int) (L:Nat):Nb K L 0:=⟨0,by rw [Rat.mul_zero];rfl,Nat.zero_le _⟩
theorem Nb.add {K:Int} {L M:Nat} {x y:Rat} (h:Nb K L x) (k:Nb K M y):Nb K (L+M) (x+y):=by
 obtain ⟨z,h1,h2⟩:=h;obtain ⟨w,k1,k2⟩:=k;refine ⟨z+w,by rw [Rat.intCast_add,←h1,←k1];grind,?_⟩;have:=Int.natAbs_add_le z w;omega
theorem Nb.mul {K J:Int} {L M:Nat} {x y:Rat} (h:Nb K L x) (k:Nb J M y):Nb (K*J) (L*M) (x*y):=by
 obtain ⟨z,h1,h2⟩:=h;obtain ⟨w,k1,k2⟩:=k;refine ⟨z*w,by rw [Rat.intCast_mul,Rat.intCast_mul,←h1,←k1];grind,?_⟩;rw [Int.natAbs_mul];exact Nat.mul_le_mul h2 k2
theorem Nb.neg {K:Int} {L:Nat} {x:Rat} (h:Nb K L x):Nb K L (-x):=by
 obtain ⟨z,h1,h2⟩:=h;exact ⟨-z,by rw [Rat.intCast_neg,←h1];grind,by omega⟩
theorem Nb.bd {K:Int} {L b:Nat} {x:Rat} (h:Nb K L x) (hK:K≠0) (h1:K.natAbs≤2^b) (h2:L≤2^b):Bd b x:=by
 obtain ⟨z,e,l⟩:=h;exact Bd.of_whole hK h1 e (Nat.le_trans l h2)
section
variable {G:Nat→D} {c:Nat→List Sl→R (D×Bool)} {T:List Fn} {nm:Nm}
def SpNeg (c:Nat→List Sl→R (D×Bool)) (j:Nat):Prop:=∀p:Rat,c j [.va (fr p)]=va (fr (-p))
theorem negated_ok (p:Rat):bo G c T b_negated [.va (fr p)] 0=va (fr (-p)):=by
 have c2:(2:Nat)≤line:=by unfold line;omega
 unfold bo b_negated;simp [val,c2];unfold fr;rw [Rat.neg_num,Rat.neg_den]
def SpTurn (c:Nat→List Sl→R (D×Bool)) (j:Nat):Prop:=∀p:Rat,p≠0→c j [.va (fr p)]=va (fr p⁻¹)
theorem inv_divInt {p:Rat} (h:p≠0):Rat.divInt p.den p.num=p⁻¹ := by
 have e:=Rat.num_divInt_den p;rw [Rat.divInt_eq_div] at e ⊢;have hd:((p.den:Int):Rat)≠0:=int_ne (by have:=p.den_nz;omega);have hn:(p.num:Rat)≠0:=int_ne (by rw [Ne,Rat.num_eq_zero];exact h);generalize ((p.den:Int):Rat)=d at *
 generalize (p.num:Rat)=n at *
 rw [←e];grind
theorem turned_ok {e jf:Nat} (hf:SpFrac c jf) {p:Rat} (h:p≠0):bo G c T (b_turned e jf) [.va (fr p)] 0=va (fr p⁻¹):=by
 have hn:p.num≠0:=by rw [Ne,Rat.num_eq_zero];exact h
 have e1:=hf p.den p.num hn;rw [inv_divInt h] at e1;unfold bo b_turned;simp [val,hn,e1,h]
end
theorem Z.take {n h:Nat} {s:PS} (z:Z n h s) (k:Nat):Z n h (ser ((toL s).take k)):=by
 have e:∀i,(ser ((toL s).take k)).f i=if i<k then s.f i else 0:=fun i=>by
  rw [ser_f];by_cases hi:i<k
  ·rw [if_pos hi,←toL_getD z.pl];simp [hi]
  ·rw [if_neg hi];have:((toL s).take k)[i]?=none:=by rw [List.getElem?_eq_none];rw [List.length_take];omega
   simp [this]
 refine ⟨fun i hi=>?_,?_⟩
 ·rw [e,z.lt i hi];split <;> rfl
 ·obtain ⟨K,k1,k2,k3⟩:=z.hb;refine ⟨K,k1,k2,fun i=>?_⟩;rw [e];split
  ·exact k3 i
  ·exact Nb.zero _ _
section
variable {G:Nat→D} {c:Nat→List Sl→R (D×Bool)} {T:List Fn} {nm:Nm}
end
theorem Z.C {f:Rat} {b:Nat} (h:Bd b f):Z 1 b (PS.C f):=⟨Lt.C f,Hb.C h⟩
section
variable {G:Nat→D} {c:Nat→List Sl→R (D×Bool)} {T:List Fn} {nm:Nm}
end
end AW
namespace AW
open PS
noncomputable def ev (s:PS) (x:Rat):Rat:=hv (toL s) x
def IP (s:PS):Prop:=∀i,∃z:Int,s.f i=z
theorem IP.add {a b:PS} (h:IP a) (k:IP b):IP (a+b):=fun i=>by
 obtain ⟨x,hx⟩:=h i;obtain ⟨y,hy⟩:=k i
 exact ⟨x+y,by rw [add_f,hx,hy,Rat.intCast_add]⟩
theorem IP.sub {a b:PS} (h:IP a) (k:IP b):IP (a-b):=fun i=>by
 obtain ⟨x,hx⟩:=h i;obtain ⟨y,hy⟩:=k i
 exact ⟨x-y,by rw [sub_f,hx,hy,Rat.intCast_sub]⟩
theorem conv_int:∀(n:Nat) (f g:Nat→Rat),(∀i,∃z:Int,f i=z)→(∀i,∃z:Int,g i=z)→∃z:Int,conv f g n=z
 | 0,f,g,h,k=>by
  obtain ⟨x,hx⟩:=h 0;obtain ⟨y,hy⟩:=k 0
  exact ⟨x*y,by rw [conv,hx,hy,Rat.intCast_mul]⟩
 | n+1,f,g,h,k=>by
  obtain ⟨x,hx⟩:=h 0;obtain ⟨y,hy⟩:=k (n+1)
  obtain ⟨w,hw⟩:=conv_int n (fun k=>f (k+1)) g (fun i=>h (i+1)) k;exact ⟨x*y+w,by rw [conv,hx,hy,hw,Rat.intCast_add,Rat.intCast_mul]⟩
theorem IP.mul {a b:PS} (h:IP a) (k:IP b):IP (a*b):=fun i=>conv_int i a.f b.f h k
theorem IP.C (z:Int):IP (PS.C z):=fun i=>by
 show ∃w:Int,(if i=0 then (z:Rat) else 0)=w;by_cases h:i=0
 ·rw [if_pos h];exact ⟨z,rfl⟩
 ·rw [if_neg h];exact ⟨0,rfl⟩
theorem IP.X:IP X:=fun i=>by
 show ∃w:Int,(if i=1 then (1:Rat) else 0)=w;by_cases h:i=1
 ·rw [if_pos h];exact ⟨1,rfl⟩
 ·rw [if_neg h];exact ⟨0,rfl⟩
theorem IP.sh {a:PS} (h:IP a):IP (AW.sh a):=fun i=>h (i+1)
def db (N h l:Nat):Nat:=(2*N+1)*(h+l+2)
def Cop (a b:PS):Prop:=∃u v,Pl u∧Pl v∧u*a+v*b=1
theorem Cop.symm {a b:PS}:Cop a b→Cop b a:=fun ⟨u,v,h1,h2,e⟩=>⟨v,u,h2,h1,by grind⟩
theorem Cop.one (a:PS):Cop a 1:=⟨0,1,Pl.zero,Pl.one,by grind⟩
theorem Cop.mul {a b c:PS} (pa:Pl a) (pb:Pl b) (pc:Pl c):Cop a b→Cop a c→Cop a (b*c):=fun ⟨u,v,h1,h2,e⟩ ⟨s,t,k1,k2,f⟩ =>
 ⟨u+v*b*s,v*t,h1.add ((h2.mul pb).mul k1),h2.mul k2,by
  have:(u+v*b*s)*a+v*t*(b*c)=u*a+v*b*(s*a+t*c):=by grind
  rw [this,f];grind⟩
theorem Cop.pow {a b:PS} (pa:Pl a) (pb:Pl b) (h:Cop a b):∀n:Nat,Cop a (b^n)
 | 0=>Cop.one a
 | n+1=>(Cop.mul pa (pb.pow n) pb (Cop.pow pa pb h n) h)
theorem Cop.dv {a b d:PS} (h:Cop a b) (k:Dv d b):Cop a d:=by
 obtain ⟨u,v,h1,h2,e⟩:=h;obtain ⟨s,ps,rfl⟩:=k;exact ⟨u,v*s,h1,h2.mul ps,by rw [←e];grind⟩
theorem Cop.dv_mul {a b c:PS} (pc:Pl c) (h:Cop a b) (k:Dv a (b*c)):Dv a c:=by
 obtain ⟨u,v,h1,h2,e⟩:=h;obtain ⟨s,ps,es⟩:=k;refine ⟨u*c+v*s,(h1.mul pc).add (h2.mul ps),?_⟩;have:c=(u*a+v*b)*c:=by rw [e];grind
 rw [this];have:v*b*c=v*s*a:=by rw [show v*b*c=v*(b*c) by grind,es];grind
 grind
theorem Cop.add_mul {a b:PS} (h:Cop a b) {s:PS} (ps:Pl s):Cop a (b+s*a):=by
 obtain ⟨u,v,pu,pv,e⟩:=h;exact ⟨u-v*s,v,pu.sub (pv.mul ps),pv,by rw [←e];grind⟩
theorem Cop.smul {a b:PS} {c:Rat} (h:Cop a b) (hc:c≠0):Cop a (PS.C c*b):=by
 obtain ⟨u,v,pu,pv,e⟩:=h;have:=C_cancel hc;exact ⟨u,PS.C c⁻¹ * v,pu,(Pl.C _).mul pv,by rw [←e];grind⟩
def Lp:List (PS×Nat)→PS
 | []=>1
 | z::F=>z.1*Lp F
def Pw:List (PS×Nat)→PS
 | []=>1
 | z::F=>z.1^z.2*Pw F
def Good:List (PS×Nat)→Prop
 | []=>True
 | z::F=>(∃m,Mn z.1 (m+1))∧Cop z.1 (der z.1)∧1≤z.2∧(∀y∈F,Cop z.1 y.1)∧Good F
theorem Good.filter {F:List (PS×Nat)} (h:Good F) (q:PS×Nat→Bool):Good (F.filter q):=by
 induction F with
 | nil=>exact h
 | cons y F ih =>
  obtain ⟨h1,h2,h3,h4,h5⟩:=h;rw [List.filter_cons];split
  ·exact ⟨h1,h2,h3,fun z hz=>h4 z (List.mem_filter.mp hz).1,ih h5⟩
  ·exact ih h5
def At (k:Nat) (F:List (PS×Nat)):List (PS×Nat):=F.filter fun z=>z.2==k
end AW
namespace AW
open PySem PySem.Spec PyProof.Rows
def partsF (F:List (PS×Nat)):Nat→List (PS×Nat)
 | 0=>[]
 | K+1=>partsF F K++(if At (K+1) F=[] then [] else [(Lp (At (K+1) F),K+1)])
def SP (p:PS) (L:List (PS×Nat)):Prop:=∃F K,Good F∧Pw F=mon p∧(∀z∈F,z.2≤K)∧L=partsF F K
noncomputable def pd (z:PS×Nat):D := .tuple [po z.1,.int (z.2:Nat)]
section
variable {G:Nat→D} {c:Nat→List Sl→R (D×Bool)} {T:List Fn} {nm:Nm}
end
theorem Shp.po (s:PS):Shp 2 (po s):=Shp.pol _
theorem ne_same {n:Nat} {d:D} (h:Shp n d) (l:n≤64):sem2 .ne d d=v1 (.bool false):=by
 rw [s2_ne,if_pos ⟨h.ok l,h.ok l⟩,eqv_self d h.1];rfl
theorem eq_same {n:Nat} {d:D} (h:Shp n d) (l:n≤64):sem2 .eq d d=v1 (.bool true):=by
 rw [s2_eq,if_pos ⟨h.ok l,h.ok l⟩,eqv_self d h.1]
section
variable {G:Nat→D} {c:Nat→List Sl→R (D×Bool)} {T:List Fn} {nm:Nm}
def Fs (a:PS):Prop:=∃m,Mn a m∧1≤m∧m≤2∧Hb 12 a
theorem Fs.z {a:PS} (h:Fs a):Z 3 12 a:=by obtain ⟨m,h1,h2,h3,h4⟩:=h;exact ⟨h1.1.mono (by omega),h4⟩
end
theorem Good.take {L:List (PS×Nat)} (g:Good L) (i:Nat):Good (L.take i):=by
 induction L generalizing i with
 | nil=>rw [List.take_nil];exact trivial
 | cons y L ih =>
  cases i with
  | zero=>exact trivial
  | succ i =>
   obtain ⟨h1,h2,h3,h4,h5⟩:=g;exact ⟨h1,h2,h3,fun z hz=>h4 z (List.mem_of_mem_take hz),ih h5 i⟩
section
variable {G:Nat→D} {c:Nat→List Sl→R (D×Bool)} {T:List Fn} {nm:Nm}
end
noncomputable def qd (q:PS×PS):D := .tuple [po q.1,po q.2]
def IsQ (q:PS×PS) (a b:PS):Prop:=Cop q.1 q.2∧Pl q.1∧(∃n,Mn q.2 n)∧q.1*b=a*q.2
theorem IsQ.uniq {q q':PS×PS} {a b c d:PS} (h:IsQ q a b) (h':IsQ q' c d) (pa:Pl a) (pb:Pl b) (pc:Pl c) (pd:Pl d) (b0:b≠0) (d0:d≠0) (e:a*d=c*b):q=q':=by
 obtain ⟨t,m⟩:=q;obtain ⟨t',m'⟩:=q';obtain ⟨h1,h2,⟨n,h3⟩,h4⟩:=h;obtain ⟨k1,k2,⟨n',k3⟩,k4⟩:=h';simp only at *
 have pm:=h3.dg.pl;have pm':=k3.dg.pl;have cross:t*m'=t'*m:=by
  refine Pl.cancel (h2.mul pm') (k2.mul pm) (pb.mul pd) (Pl.mul_ne pb pd b0 d0) ?_;have:t*m'*(b*d)=a*m*(m'*d):=by rw [←h4];grind
  rw [this];have:t'*m*(b*d)=c*m'*(m*b):=by rw [←k4];grind
  rw [this];have:a*m*(m'*d)=m*m'*(a*d):=by grind
  rw [this,e];grind
 have d1:Dv m m':=h1.symm.dv_mul pm' ⟨t',k2,by rw [cross]⟩;have d2:Dv m' m:=k1.symm.dv_mul pm ⟨t,h2,by rw [←cross]⟩;have em:=h3.eq k3 d1 d2;subst em;have et:=Pl.cancel h2 k2 pm h3.dg.ne cross;rw [et]
theorem Shp.qd (q:PS×PS):Shp 3 (qd q):=Shp.tup fun d hd=>by
 rcases List.mem_cons.mp hd with rfl | hd
 ·exact Shp.po _
 ·rcases List.mem_cons.mp hd with rfl | hd
  ·exact Shp.po _
  ·cases hd
@[simp] theorem idx_qd0 (q:PS×PS):sem2 .idx (qd q) (.int 0)=v1 (po q.1):=by unfold qd;rw [s2_idxt,atD_0]
@[simp] theorem idx_qd1 (q:PS×PS):sem2 .idx (qd q) (.int 1)=v1 (po q.2):=by unfold qd;rw [s2_idxt,atD_1]
@[simp] theorem ne_qd (q:PS×PS):sem2 .ne (qd q) (qd q)=v1 (.bool false):=ne_same (Shp.qd q) (by decide)
@[simp] theorem eq_qd (q:PS×PS):sem2 .eq (qd q) (qd q)=v1 (.bool true):=eq_same (Shp.qd q) (by decide)
section
variable {G:Nat→D} {c:Nat→List Sl→R (D×Bool)} {T:List Fn} {nm:Nm}
def SpIsFr (c:Nat→List Sl→R (D×Bool)) (j:Nat):Prop:=∀q:Rat,c j [.va (fr q)]=va (.bool true)
theorem is_fraction_ok {jw jg:Nat} (hw:SpWhole c jw) (hg:SpGcd c jg) (q:Rat):bo G c T (b_is_fraction jw jg) [.va (fr q)] 1=va (.bool true):=by
 have c2:(2:Nat)≤line:=by unfold line;omega
 have e1:=hg q.num.natAbs q.den;have e2:Nat.gcd q.num.natAbs q.den=1:=q.reduced;rw [e2] at e1;have hd:=q.den_nz;have hp:(0:Int)<(q.den:Int):=by omega
 unfold bo b_is_fraction;simp only [ess_cons,es_ite,evT_eq];have hc:evF G c (dflT T) (.cmp (.call jw (.cons (.var 1) .nil) 0) (.nm 1) (.seq (.var 0)) .none [(Nm.n 1,1)]) ([.va (fr q)]++List.replicate 1 .un) = .ok (.list [.bool true,.bool true],true):=by
  have:=cmp_of (G:=G) (c:=c) (dfl:=dflT T) (elt:=(.call jw (.cons (.var 1) .nil) 0)) (tg := .nm 1) (it := .seq (.var 0)) (ifs := .none) (own:=[(Nm.n 1,1)]) (en:=[.va (fr q)]++List.replicate 1 .un) (xs:=[q.num,(q.den:Int)]) (e := .int) (h:=fun _ => .bool true) (by simp [val];rfl) (by simp;omega) (fun x _=>by simp [val,wipe,hw x]);rw [this];rfl
 have ht:isTy (fr q) (.bi "tuple")=true:=rfl;have hl:sem1 .len (fr q)=v1 (.int 2):=rfl;have e1':c jg [.va (.int (q.num.natAbs:Int)),.va (.int (q.den:Int))]=va (.int 1):=e1;simp only [List.cons_append,List.nil_append,List.replicate_succ,List.replicate_zero] at hc ⊢;have hp2:0<q.den:=by omega
 simp [val,ht,hl,hc,allB,e1',hp2]
end
structure Row where
 p:PS
 t:Nat
 o:PS
noncomputable def rd (r:Row):D := .tuple [po r.p,.int (r.t:Nat),po r.o]
theorem Shp.rd (r:Row):Shp 3 (rd r):=Shp.tup fun d hd=>by
 rcases List.mem_cons.mp hd with rfl | hd
 ·exact Shp.po _
 ·rcases List.mem_cons.mp hd with rfl | hd
  ·exact (Shp.int _).mono (by decide)
  ·rcases List.mem_cons.mp hd with rfl | hd
   ·exact Shp.po _
   ·cases hd
def Rw (r:Row):Prop:=(∃m,Mn r.p m∧m≤2∧Hb 6 r.p)∧1≤r.t∧r.t≤2∧Z 3 18 r.o
theorem Rw.pow {r:Row} (h:Rw r):∃m,Mn (r.p^r.t) m∧m≤4∧Z 5 14 (r.p^r.t):=by
 obtain ⟨⟨m,h1,h2,h3⟩,h4,h5,_⟩:=h;have z:Z 3 6 r.p:=⟨h1.1.mono (by omega),h3⟩;have:r.t=1∨r.t=2:=by omega
 rcases this with e | e
 ·rw [e,show (r.p^1:PS)=r.p by grind];exact ⟨m,h1,by omega,z.mono (by decide) (by decide)⟩
 ·rw [e,show (r.p^2:PS)=r.p*r.p by grind];exact ⟨m+m,h1.mul h1,by omega,(z.mul z (l:=2) (by decide)).mono (by decide) (by decide)⟩
section
variable {G:Nat→D} {c:Nat→List Sl→R (D×Bool)} {T:List Fn} {nm:Nm}
theorem Z.pow {a:PS} {n h:Nat} (z:Z (n+1) h a):∀t,n*t+1≤2^12→Z (n*t+1) (t*(h+12)) (a^t)
 | 0,_=>by rw [show (a^0:PS)=1 by grind];exact Z.one _ _ (by omega)
 | t+1,ht=>by
  rw [Nat.mul_add] at ht;have ih:=Z.pow z t (by omega);rw [show (a^(t+1):PS)=a^t*a by grind];refine (ih.mul z (l:=12) (by omega)).mono ?_ ?_
  ·rw [Nat.mul_add];omega
  ·rw [Nat.add_mul];omega
end
end AW
namespace AW
open PySem PySem.Spec PyProof.Rows PS
end AW
namespace AW
open PySem PySem.Spec PyProof.Rows
section
variable {G:Nat→D} {c:Nat→List Sl→R (D×Bool)} {T:List Fn} {nm:Nm}
end
def pcs:List (List Rat):=[[(0:Rat),(1:Rat)],[(-1:Rat),(1:Rat)],[(1:Rat),(1:Rat)],[(⟨-1,2,by decide,by decide⟩:Rat),(1:Rat)],[(3:Rat),(1:Rat)],[(1:Rat),(0:Rat),(1:Rat)],[(-2:Rat),(0:Rat),(1:Rat)],[(1:Rat),(1:Rat),(1:Rat)]]
def lst (s:List Rat×List Rat) (t:Rat×List Rat):List Rat×List Rat:=(addL (mulL s.1 t.2) (mulL ((derL t.2).map fun b=>t.1*b) s.2),mulL s.2 t.2)
section
variable {G:Nat→D} {c:Nat→List Sl→R (D×Bool)} {T:List Fn} {nm:Nm}
def Tm (ts:List (Rat×List Rat)):Prop:=(∀t∈ts,t.2∈pcs∧t.1≠0∧Bd 200 t.1)∧(ts.map (·.2)).Nodup∧ts.length≤3
theorem Tm.take {ts:List (Rat×List Rat)} (h:Tm ts) (i:Nat):Tm (ts.take i):=⟨fun t ht=>h.1 t (List.mem_of_mem_take ht),by rw [List.map_take];exact h.2.1.sublist (List.take_sublist _ _),by rw [List.length_take];have:=h.2.2;omega⟩
def SpPart2 (c:Nat→List Sl→R (D×Bool)) (j:Nat):Prop:=∀x:Int,0≤x→x<2147483629→∃q:Rat,Bd 93 q∧c j [.va (.int x)]=va (fr q)
theorem SpPart2.sp {j:Nat} (h:SpPart2 c j):SpPart c j:=by
 have h:∀x:Int,∃q:Rat,0≤x→x<2147483629→Bd 93 q∧c j [.va (.int x)]=va (fr q):=fun x=>by
  by_cases hx:0≤x∧x<2147483629
  ·obtain ⟨q,h1⟩:=h x hx.1 hx.2;exact ⟨q,fun _ _=>h1⟩
  ·exact ⟨0,fun a b=>absurd ⟨a,b⟩ hx⟩
 exact ⟨fun x=>Classical.choose (h x),fun x=>Classical.choose_spec (h x)⟩
theorem Dr.z {n:Nat} {p:List Rat} (h:Dr n p):Z n (94*n) (ser p)∧pol p=po (ser p):=by
 refine ⟨⟨(lt_ser p).mono h.len,(Hb.ser h.bd).mono ?_⟩,?_⟩
 ·rw [Nat.mul_comm];exact Nat.mul_le_mul (Nat.le_refl _) h.len
 ·unfold po;rw [toL_ser,h.tr]
end
def isW:D→Bool
 | .int _=>true
 | _=>false
def isF:D→Bool
 | .tuple [.int a,.int b]=>decide (0<b)&&Nat.gcd a.natAbs b.natAbs==1
 | _=>false
theorem tup_of {d:D} (h:isTy d (.bi "tuple")=true):∃ds,d = .tuple ds:=by
 have n1:("tuple" == "NoneType" : Bool)=false:=by decide +kernel
 have n2:("tuple" == "bool" || "tuple" == "int" : Bool)=false:=by decide +kernel
 have n3:("tuple" == "int" : Bool)=false:=by decide +kernel
 have n4:("tuple" == "str" : Bool)=false:=by decide +kernel
 have n5:("tuple" == "list" : Bool)=false:=by decide +kernel
 have n6:("tuple" == "dict" : Bool)=false:=by decide +kernel
 cases d with
 | none=>exact absurd (n1.symm.trans h) (by decide)
 | bool b=>exact absurd (n2.symm.trans h) (by decide)
 | int b=>exact absurd (n3.symm.trans h) (by decide)
 | str b=>exact absurd (n4.symm.trans h) (by decide)
 | list b=>exact absurd (n5.symm.trans h) (by decide)
 | tuple b=>exact ⟨b,rfl⟩
 | dict b=>exact absurd (n6.symm.trans h) (by decide)
section
variable {G:Nat→D} {c:Nat→List Sl→R (D×Bool)} {T:List Fn} {nm:Nm}
def SpWholeA (c:Nat→List Sl→R (D×Bool)) (j:Nat):Prop:=∀d:D,c j [.va d]=va (.bool (isW d))
theorem wholeA_ok (d:D):bo G c T b_is_whole [.va d] 0=va (.bool (isW d)):=by
 cases d <;> rfl
def SpIsFrA (c:Nat→List Sl→R (D×Bool)) (j:Nat):Prop:=∀d:D,c j [.va d]=va (.bool (isF d))
theorem is_fractionA_ok {jw jg:Nat} (hw:SpWholeA c jw) (hg:SpGcd c jg) (d:D):bo G c T (b_is_fraction jw jg) [.va d] 1=va (.bool (isF d)):=by
 have c2:(2:Nat)≤line:=by unfold line;omega
 by_cases ht:isTy d (.bi "tuple")=true
 ·obtain ⟨ds,rfl⟩:=tup_of ht;have hl:sem1 .len (.tuple ds)=v1 (.int ds.length):=rfl;by_cases h2:ds.length=2
  ·match ds,h2 with
   | [x,y],_ =>
    have hc:evF G c (dflT T) (.cmp (.call jw (.cons (.var 1) .nil) 0) (.nm 1) (.seq (.var 0)) .none [(Nm.n 1,1)]) ([.va (.tuple [x,y])]++List.replicate 1 .un) = .ok (.list [.bool (isW x),.bool (isW y)],true):=by
     have:=cmp_of (G:=G) (c:=c) (dfl:=dflT T) (elt:=(.call jw (.cons (.var 1) .nil) 0)) (tg := .nm 1) (it := .seq (.var 0)) (ifs := .none) (own:=[(Nm.n 1,1)]) (en:=[.va (.tuple [x,y])]++List.replicate 1 .un) (xs:=[x,y]) (e:=fun d=>d) (h:=fun d => .bool (isW d)) (by simp [val]) (by simp;omega) (fun x _=>by simp [val,wipe,hw x]);rw [this];rfl
    simp only [List.cons_append,List.nil_append,List.replicate_succ,List.replicate_zero] at hc;have ha:allB [PyData.bool (isW x),.bool (isW y)] = .ok (isW x&&isW y):=by
     show ((allB []).bind _ |>.bind _)=_;show R.ok (isW x&&(isW y&&true))=_;rw [Bool.and_true]
    by_cases hxy:(isW x&&isW y)=true
    ·obtain ⟨hx,hy⟩:=(Bool.and_eq_true_iff.mp hxy);obtain ⟨a,rfl⟩:∃a,x = .int a:=by cases x <;> first | exact ⟨_,rfl⟩ | cases hx
     obtain ⟨b,rfl⟩:∃b,y = .int b:=by cases y <;> first | exact ⟨_,rfl⟩ | cases hy
     have hi0:sem2 .idx (.tuple [.int a,.int b]) (.int 0)=v1 (.int a):=rfl;have hi1:sem2 .idx (.tuple [.int a,.int b]) (.int 1)=v1 (.int b):=rfl;have hF:isF (.tuple [.int a,.int b])=(decide (0<b)&&Nat.gcd a.natAbs b.natAbs==1):=rfl;rw [hF];have ha:allB [PyData.bool true,.bool true] = .ok true:=rfl;by_cases hb:0<b
     ·have e1:=hg a.natAbs b.toNat;rw [Int.toNat_of_nonneg (by omega),show b.toNat=b.natAbs by omega] at e1;have hb':¬(b≤0):=by omega
      unfold bo b_is_fraction;simp [val,ht,hl,hc,ha,hi0,hi1,hb,e1,isW];generalize Nat.gcd a.natAbs b.natAbs=g;by_cases g1:g=1
      ·subst g1;rfl
      ·have:¬((g:Int)=1):=by omega
       rw [beq_eq_false_iff_ne.mpr g1,beq_eq_false_iff_ne.mpr this]
     ·unfold bo b_is_fraction;simp [val,ht,hl,hc,ha,hi0,hi1,hb,isW]
    ·have hF:isF (.tuple [x,y])=false:=by
      cases x <;> cases y <;> first | rfl | exact absurd rfl hxy
     rw [hF];have hxy':(isW x&&isW y)=false:=by simpa using hxy
     rw [hxy'] at ha;unfold bo b_is_fraction;simp [val,ht,hl,hc,ha]
  ·have hF:isF (.tuple ds)=false:=by
    unfold isF;split
    ·rename_i h;cases h;exact absurd rfl h2
    ·rfl
   rw [hF];have h2':¬((ds.length:Int)=2):=by omega
   unfold bo b_is_fraction;simp [val,ht,hl,h2']
 ·have ht':isTy d (.bi "tuple")=false:=by simpa using ht
  have hF:isF d=false:=by
   cases d with
   | tuple ds=>exact absurd rfl ht
   | _=>rfl
  rw [hF];unfold bo b_is_fraction;simp [val,ht']
end
abbrev Sx (l:List Nat):Str:=⟨l.toArray⟩
abbrev tx (l:List Nat):D := .str (Sx l)
def asc (l:List Nat):Bool:=l.all fun c=>decide (c<128)
def digB (c:Nat):Bool:=decide (48≤c)&&decide (c≤57)
theorem Sx_len (l:List Nat):(Sx l).length=l.length:=SX.S_len l
theorem Sx_cat (a b:List Nat):Sx a++Sx b=Sx (a++b):=SX.S_cat a b
theorem asc_app {a b:List Nat}:asc (a++b)=(asc a&&asc b):=List.all_append
theorem asc_cons {c:Nat} {b:List Nat}:asc (c::b)=(decide (c<128)&&asc b):=rfl
theorem strOk_S {l:List Nat} (h:asc l=true):PyData.strOk (Sx l)=true:=by
 unfold PyData.strOk;rw [←Array.all_toList];refine List.all_eq_true.mpr fun c hc=>?_;have:=List.all_eq_true.mp h c hc;simp at this ⊢;omega
theorem shp_S {l:List Nat} (h:asc l=true):SeqAt.shaped (tx l)=true:=by
 have h1:=strOk_S h;simp [SeqAt.shaped,PyData.canLay0,PyData.depth,h1]
theorem eqS {a b:List Nat} (ha:asc a=true) (hb:asc b=true):sem2 .eq (tx a) (tx b)=v1 (.bool (a==b)):=by
 rw [s2_eq,if_pos ⟨shp_S ha,shp_S hb⟩];show v1 (.bool (Sx a==Sx b))=_;rw [show (Sx a==Sx b)=(a==b) from SX.S_beq a b]
theorem line_v:line=16777216:=rfl
def cutAt (s:Nat):List Nat→List Nat×Option (List Nat)
 | []=>([],none)
 | c::r=>if c=s then ([],some r) else (c::(cutAt s r).1,(cutAt s r).2)
theorem cut_some {s:Nat}:∀{l b:List Nat},(cutAt s l).2=some b→l=(cutAt s l).1++s::b∧s ∉ (cutAt s l).1
 | [],_,h=>by cases h
 | c::r,b,h=>by
  by_cases hc:c=s
  ·simp [cutAt,hc] at h ⊢;exact h
  ·simp [cutAt,hc] at h ⊢;obtain ⟨h1,h2⟩:=cut_some h;exact ⟨h1,fun e=>hc e.symm,h2⟩
def splt (s:Nat):List Nat→List (List Nat)
 | []=>[[]]
 | c::r=>if c=s then []::splt s r else (match splt s r with
  | []=>[[c]]
  | w::ws=>(c::w)::ws)
theorem splt_ne (s:Nat):∀l,splt s l≠[]
 | []=>by simp [splt]
 | c::r=>by
  unfold splt;split
  ·simp
  ·split <;> simp
def hd2 (a:List Nat):List (List Nat)→List (List Nat)
 | []=>[a]
 | w::ws=>(a++w)::ws
theorem splt_cut (s:Nat):∀l,splt s l=(match (cutAt s l).2 with
  | none=>[l]
  | some b=>(cutAt s l).1::splt s b)
 | []=>rfl
 | c::r=>by
  have ih:=splt_cut s r;by_cases h:c=s
  ·simp [splt,cutAt,h]
  ·cases e:(cutAt s r).2 with
   | none =>
    rw [e] at ih;simp [splt,cutAt,h,e,ih]
   | some b =>
    rw [e] at ih;simp [splt,cutAt,h,e,ih]
theorem ke:PyData.str "" = tx []:=by rfl
theorem k0:PyData.str "0" = tx [48]:=by rfl
theorem kx:PyData.str "x" = tx [120]:=by rfl
theorem km:PyData.str "-" = tx [45]:=by rfl
theorem kp:PyData.str "+" = tx [43]:=by rfl
theorem ksl:PyData.str "/" = tx [47]:=by rfl
def numI (l:List Nat):Option Nat:=if l=[]∨l.all digB=false then none else if l.head?=some 48∧l≠[48] then none else some (NumText.digitsVal l)
section
variable {G:Nat→D} {c:Nat→List Sl→R (D×Bool)} {T:List Fn} {nm:Nm}
end
def low2 (n d:Nat):Option Rat:=if 2≤d∧(Rat.divInt n d).num=(n:Int)∧(Rat.divInt n d).den=d then some (Rat.divInt n d) else none
def uns (l:List Nat):Option Rat:=match (cutAt 47 l).2 with
 | none=>(numI l).map fun n=>((n:Nat):Rat)
 | some b=>(match numI (cutAt 47 l).1,numI b with
  | some n,some d=>low2 n d
  | _,_=>none)
section
variable {G:Nat→D} {c:Nat→List Sl→R (D×Bool)} {T:List Fn} {nm:Nm}
end
def pwI (l:List Nat):Option Nat:=if l=[] then some 0 else if l=[120] then some 1 else if [120,94].isPrefixOf l=true then (numI (l.drop 2)).bind fun n=>if 2≤n then some n else none else none
def rdT (w:List Nat):Option (Nat×Rat):=(match (cutAt 120 w).2 with
  | none=>some 0
  | some t=>pwI (120::t)).bind fun h=>(if (cutAt 120 w).1=[]∧(cutAt 120 w).2.isSome=true then some 1 else uns (cutAt 120 w).1).bind fun q =>
 if q=0 then none else if q=1∧(cutAt 120 w).1≠[]∧0<h then none else some (h,q)
section
variable {G:Nat→D} {c:Nat→List Sl→R (D×Bool)} {T:List Fn} {nm:Nm}
end
def prs:List (List Nat)→Option (List (List Nat×List Nat))
 | []=>some []
 | [_]=>none
 | s::w::r=>(prs r).map ((s,w) :: ·)
def sgnB (s:List Nat):Bool:=s==[43]||s==[45]
def hdT (w:List Nat):Bool×List Nat:=if w.take 1=[45] then (true,w.drop 1) else (false,w)
def tms (l:List Nat):Option (List (Bool×List Nat)):=(prs (splt 32 l).tail).bind fun ps=>if ps.all (fun p=>sgnB p.1)=true then some (hdT ((splt 32 l).headD [])::ps.map fun p=>(p.1==[45],p.2)) else none
theorem prs_some:∀{r:List (List Nat)} {ps:List (List Nat×List Nat)},prs r=some ps→r=ps.flatMap fun p=>[p.1,p.2]
 | [],ps,h=>by cases h;rfl
 | [_],ps,h=>by cases h
 | s::w::r,ps,h=>by
  have h':(prs r).map ((s,w) :: ·)=some ps:=h;cases e:prs r with
  | none=>rw [e] at h';cases h'
  | some q =>
   rw [e] at h';cases h';rw [prs_some e];rfl
section
variable {G:Nat→D} {c:Nat→List Sl→R (D×Bool)} {T:List Fn} {nm:Nm}
theorem prs_mem {r:List (List Nat)} {ps:List (List Nat×List Nat)} (h:prs r=some ps) {p:List Nat×List Nat} (hp:p∈ps):p.1∈r∧p.2∈r:=by
 rw [prs_some h];constructor
 ·exact List.mem_flatMap.mpr ⟨p,hp,by simp⟩
 ·exact List.mem_flatMap.mpr ⟨p,hp,by simp⟩
end
def ptm:List (Bool×List Nat)→Option (List (Nat×Rat))
 | []=>some []
 | p::r=>(rdT p.2).bind fun t=>(ptm r).map ((t.1,if p.1=true then -t.2 else t.2) :: ·)
section
variable {G:Nat→D} {c:Nat→List Sl→R (D×Bool)} {T:List Fn} {nm:Nm}
end
def PwOk (l:List Nat):Prop:=∀ps,(tms l).bind ptm=some ps→∀p∈ps,p.1≤99999
section
variable {G:Nat→D} {c:Nat→List Sl→R (D×Bool)} {T:List Fn} {nm:Nm}
end
abbrev nL (n:Nat):List Nat:=TL.numL n
def nt (i:Int):List Nat:=if i<0 then 45::nL i.natAbs else nL i.natAbs
def tt (q:Rat):List Nat:=nt q.num++(if q.den=1 then [] else 47::nL q.den)
def lxx (h:Nat):List Nat:=if h=0 then [] else if h=1 then [120] else 120::94::nL h
def trm (h:Nat) (q:Rat):List Nat:=if q=1∧0<h then lxx h else tt q++lxx h
def ab (q:Rat):Rat:=if q<0 then -q else q
def stp1 (p:List Rat) (acc:List Nat) (h:Nat):List Nat:=if p.getD h 0=0 then acc else if acc=[] then (if p.getD h 0<0 then [45] else [])++trm h (ab (p.getD h 0)) else acc++32::(if p.getD h 0<0 then 45 else 43)::32::trm h (ab (p.getD h 0))
def Wd (w:Nat) (q:Rat):Prop:=q.num.natAbs<10^w∧q.den<10^w
theorem tx_num (i:Int):PyData.str (Str.ofString (toString i))=tx (nt i):=by
 have key:Str.ofString (toString i)=Sx (nt i):=by
  refine TL.ext_tl ?_;show _=nt i;unfold nt;cases i with
  | ofNat n =>
   rw [if_neg (show ¬(Int.ofNat n<0) by have:=Int.natCast_nonneg n;exact fun z=>absurd z (by show ¬((n:Int)<0);omega))];exact TL.tl_num n
  | negSucc n =>
   rw [if_pos (Int.negSucc_lt_zero n)];have h1:toString (Int.negSucc n) = "-" ++ toString (n+1):=rfl;have h2:=TL.tl_num (n+1);show (Str.ofString (toString (Int.negSucc n))).cps.toList=_;rw [h1,PyProof.Rows.signs_ofString,String.toList_append,List.map_append];have h3:(Str.ofString (toString (((n+1:Nat)):Int))).cps.toList=TL.numL (n+1):=h2;rw [PyProof.Rows.signs_ofString] at h3;have h4:toString (((n+1:Nat)):Int)=toString (n+1):=rfl;rw [h4] at h3;rw [h3];rfl
 rw [key]
theorem asc_nL (n:Nat):asc (nL n)=true:=List.all_eq_true.mpr fun c hc=>by
 have:=TL.numL_digits n c hc;exact decide_eq_true (by omega)
theorem asc_nt (i:Int):asc (nt i)=true:=by
 unfold nt;split
 ·rw [asc_cons,asc_nL];rfl
 ·exact asc_nL _
theorem asc_tt (q:Rat):asc (tt q)=true:=by
 unfold tt;rw [asc_app,asc_nt];split
 ·rfl
 ·rw [asc_cons,asc_nL];rfl
theorem nL_len {n w:Nat} (h0:0<w) (h:n<10^w):(nL n).length≤w:=TL.numL_len h0 h
theorem Wd.ab {w:Nat} {q:Rat} (h:Wd w q):Wd w (ab q):=by
 unfold AW.ab;split
 ·unfold Wd;rw [Rat.neg_num,Rat.neg_den,Int.natAbs_neg];exact h
 ·exact h
theorem lg10 {n w:Nat} (h:n<10^w) (hw:w≤500):n.log2<1920:=by
 have h1:(10:Nat)^w≤10^(3*167):=Nat.pow_le_pow_right (by decide) (by omega);have h2:(10:Nat)^(3*167)≤2^(10*167):=by rw [Nat.pow_mul,Nat.pow_mul];exact Nat.pow_le_pow_left (by decide) 167
 by_cases h0:n=0
 ·subst h0;decide
 ·have h4:n<2^(10*167):=Nat.lt_of_lt_of_le h (Nat.le_trans h1 h2);have:=(Nat.log2_lt h0).mpr h4;omega
section
variable {G:Nat→D} {c:Nat→List Sl→R (D×Bool)} {T:List Fn} {nm:Nm}
theorem addS {a b:List Nat} (h:a.length+b.length≤line):sem2 .add (tx a) (tx b)=v1 (tx (a++b)):=by
 show (if (Sx a).length+(Sx b).length≤line then v1 (.str (Sx a++Sx b)) else .no)=_;rw [Sx_len,Sx_len,if_pos h,Sx_cat]
theorem strS {i:Int} (h:i.natAbs.log2<1920):sem1 .strI (.int i)=v1 (tx (nt i)):=by
 show (if i.natAbs.log2<1920 then v1 (.str (toString i)) else .no)=_;rw [if_pos h,tx_num]
theorem fr_i0 (q:Rat):sem2 .idx (fr q) (.int 0)=v1 (.int q.num):=rfl
theorem fr_i1 (q:Rat):sem2 .idx (fr q) (.int 1)=v1 (.int (q.den:Int)):=rfl
def SpPTt (c:Nat→List Sl→R (D×Bool)) (j:Nat):Prop:=∀(w:Nat) (q:Rat),0<w→w≤500→Wd w q→c j [.va (fr q)]=va (tx (tt q))
end
def ut (q:Rat):List Nat:=nL q.num.natAbs++(if q.den=1 then [] else 47::nL q.den)
def Rn (k:Nat) (l:List Nat):Prop:=∀m,m <:+: l→m.all digB=true→m.length≤k
theorem Rn.mono {k j:Nat} {l:List Nat} (h:Rn k l) (hk:k≤j):Rn j l:=fun m hm hd=>Nat.le_trans (h m hm hd) hk
theorem Rn.sub {k:Nat} {l l':List Nat} (h:Rn k l) (hs:l' <:+: l):Rn k l':=fun m hm hd=>h m (hm.trans hs) hd
theorem Rn.len {k:Nat} {l:List Nat} (h:l.length≤k):Rn k l:=fun m hm _=>Nat.le_trans hm.length_le h
theorem Rn.app {j k:Nat} {a b:List Nat} (ha:Rn j a) (hb:Rn k b):Rn (j+k) (a++b):=fun m hm hd=>by
 rcases List.infix_append_iff.mp hm with h | h | ⟨x,y,e,h1,h2⟩
 ·have:=ha m h hd;omega
 ·have:=hb m h hd;omega
 ·subst e;rw [List.all_append] at hd;have hd:=Bool.and_eq_true_iff.mp hd;have:=ha x h1.isInfix hd.1;have:=hb y h2.isInfix hd.2;rw [List.length_append];omega
theorem Rn.sep {k:Nat} {a b:List Nat} {s:Nat} (ha:Rn k a) (hb:Rn k b) (hs:digB s=false):Rn k (a++s::b):=fun m hm hd=>by
 have cut:∀y:List Nat,y.all digB=true→y <+: s::b→y=[]:=fun y hy hp=>by
  cases y with
  | nil=>rfl
  | cons z r =>
   have:=List.cons_prefix_cons.mp hp;rw [this.1,List.all_cons,hs] at hy;cases hy
 rcases List.infix_append_iff.mp hm with h | h | ⟨x,y,e,h1,h2⟩
 ·exact ha m h hd
 ·rcases List.infix_cons_iff.mp h with h | h
  ·rw [cut m hd h];exact Nat.zero_le _
  ·exact hb m h hd
 ·subst e;rw [List.all_append] at hd;have hd:=Bool.and_eq_true_iff.mp hd;rw [cut y hd.2 h2,List.append_nil];exact ha x h1.isInfix hd.1
theorem Rn.cons {k:Nat} {b:List Nat} {s:Nat} (hb:Rn k b) (hs:digB s=false):Rn k (s::b):=Rn.sep (a:=[]) (Rn.len (Nat.zero_le _)) hb hs
theorem Rn.nil {k:Nat}:Rn k []:=Rn.len (Nat.zero_le _)
theorem Rn.nL {w n:Nat} (h0:0<w) (h:n<10^w):Rn w (nL n):=Rn.len (nL_len h0 h)
theorem Rn.tt {w:Nat} {q:Rat} (h0:0<w) (h:Wd w q):Rn w (tt q):=by
 have h1:=Rn.nL h0 h.1;have h2:=Rn.nL h0 h.2;have h3:Rn w (nt q.num):=by
  unfold nt;split
  ·exact h1.cons rfl
  ·exact h1
 unfold AW.tt;split
 ·rw [List.append_nil];exact h3
 ·exact h3.sep h2 rfl
theorem Rn.lxx {w h:Nat} (h0:0<w) (hh:h<10^w):lxx h=[]∨∃t,lxx h=120::t∧Rn w t:=by
 unfold AW.lxx;by_cases z:h=0
 ·rw [if_pos z];exact .inl rfl
 ·rw [if_neg z];by_cases z1:h=1
  ·rw [if_pos z1];exact .inr ⟨[],rfl,Rn.nil⟩
  ·rw [if_neg z1];exact .inr ⟨_,rfl,(Rn.nL h0 hh).cons rfl⟩
theorem Rn.trm {w h:Nat} {q:Rat} (h0:0<w) (hq:Wd w q) (hh:h<10^w):Rn w (trm h q):=by
 have h1:=Rn.tt h0 hq;unfold AW.trm;rcases Rn.lxx h0 hh with e | ⟨t,e,ht⟩
 ·rw [e,List.append_nil];split
  ·exact Rn.nil
  ·exact h1
 ·rw [e];split
  ·exact ht.cons rfl
  ·exact h1.sep ht rfl
theorem Rn.stp {w h:Nat} {p:List Rat} {acc:List Nat} (h0:0<w) (hq:Wd w (p.getD h 0)) (hh:h<10^w) (ha:Rn w acc):Rn w (stp1 p acc h):=by
 have h1:=Rn.trm h0 hq.ab hh;unfold stp1;split
 ·exact ha
 ·split
  ·split
   ·exact h1.cons rfl
   ·exact h1
  ·exact ha.sep ((h1.cons rfl).cons (by split <;> rfl)) rfl
theorem hdT_in (w:List Nat):(hdT w).2 <:+: w:=by
 unfold hdT;split
 ·exact (List.drop_suffix 1 w).isInfix
 ·exact List.infix_rfl
theorem splt_in {s:Nat}:∀{l:List Nat},∀w∈splt s l,w <:+: l:=fun {l}=>by
 generalize hn:l.length=n;induction n using Nat.strongRecOn generalizing l with
 | _ n ih =>
  intro w hw;rw [splt_cut] at hw;cases e:(cutAt s l).2 with
  | none =>
   rw [e] at hw;have hw:w∈[l]:=hw;rw [List.mem_singleton] at hw;rw [hw];exact List.infix_rfl
  | some b =>
   rw [e] at hw;have hw:w∈(cutAt s l).1::splt s b:=hw;obtain ⟨e1,_⟩:=cut_some e;rcases List.mem_cons.mp hw with rfl | hw
   ·exact ⟨[],s::b,by rw [List.nil_append];exact e1.symm⟩
   ·have hl:=congrArg List.length e1;rw [List.length_append,List.length_cons] at hl;have:=ih b.length (by omega) rfl w hw;exact this.trans ⟨(cutAt s l).1++[s],[],by rw [List.append_nil,List.append_assoc];exact e1.symm⟩
theorem tms_in {l:List Nat} {ts:List (Bool×List Nat)} (h:tms l=some ts):∀t∈ts,t.2 <:+: l:=by
 unfold tms at h;obtain ⟨ps,hp,h⟩:=Option.bind_eq_some_iff.mp h;split at h
 case isFalse=>cases h
 cases h;have hm:=fun w hw=>splt_in (s:=32) (l:=l) w hw;cases hs:splt 32 l with
 | nil=>exact absurd hs (splt_ne 32 l)
 | cons w0 r =>
  rw [hs] at hp hm;have hp:prs r=some ps:=hp;intro t ht;rcases List.mem_cons.mp ht with rfl | ht
  ·exact (hdT_in w0).trans (hm w0 List.mem_cons_self)
  ·obtain ⟨p,hpp,rfl⟩:=List.mem_map.mp ht;exact hm p.2 (List.mem_cons_of_mem _ (prs_mem hp hpp).2)
theorem val_lt:∀(l:List Nat),l.all digB=true→NumText.digitsVal l<10^l.length:=fun l=>by
 generalize hn:l.length=n;induction n generalizing l with
 | zero =>
  intro _;rw [List.length_eq_zero_iff.mp hn];decide
 | succ n ih =>
  intro hd;have hne:l≠[]:=by intro z;rw [z] at hn;cases hn
  have e:=List.dropLast_concat_getLast hne;have hl:l.dropLast.length=n:=by rw [List.length_dropLast];omega
  rw [←e,List.all_append] at hd;have hd:=Bool.and_eq_true_iff.mp hd;have h1:=ih l.dropLast hl hd.1;have h2:digB (l.getLast hne)=true:=by simpa using hd.2
  have h3:l.getLast hne≤57:=by
   unfold digB at h2;exact of_decide_eq_true (Bool.and_eq_true_iff.mp h2).2
  rw [←e,NumText.digitsVal_snoc,Nat.pow_succ];omega
theorem numI_lt {l:List Nat} {n:Nat} (h:numI l=some n):l.all digB=true∧n<10^l.length:=by
 unfold numI at h;split at h
 ·cases h
 ·rename_i z;split at h
  ·cases h
  ·cases h;have hd:l.all digB=true:=by
    cases e:l.all digB with
    | true=>rfl
    | false=>exact absurd (.inr e) z
   exact ⟨hd,val_lt l hd⟩
theorem rdT_lt {w:List Nat} {x:Nat×Rat} (h:rdT w=some x):x.1≤1∨∃m,m <:+: w∧m.all digB=true∧x.1<10^m.length:=by
 unfold rdT at h;obtain ⟨h1,e1,h⟩:=Option.bind_eq_some_iff.mp h;obtain ⟨q,_,h⟩:=Option.bind_eq_some_iff.mp h;have hx:x.1=h1:=by
  split at h
  ·cases h
  ·split at h
   ·cases h
   ·cases h;rfl
 rw [hx];cases e:(cutAt 120 w).2 with
 | none =>
  rw [e] at e1;have e1:some 0=some h1:=e1;injection e1 with e1
  left;omega
 | some t =>
  rw [e] at e1;have e1:pwI (120::t)=some h1:=e1;unfold pwI at e1;rw [if_neg (by simp)] at e1;split at e1
  ·injection e1 with e1;left;omega
  ·split at e1
   ·obtain ⟨n,en,e1⟩:=Option.bind_eq_some_iff.mp e1;split at e1
    ·injection e1 with e1
     subst e1;obtain ⟨d1,d2⟩:=numI_lt en;right
     refine ⟨_,?_,d1,d2⟩;obtain ⟨e2,_⟩:=cut_some e;refine List.IsInfix.trans (l₂:=120::t) (List.drop_suffix 2 _).isInfix ?_;exact ⟨(cutAt 120 w).1,[],by rw [List.append_nil];exact e2.symm⟩
    ·cases e1
   ·cases e1
theorem ptm_mem:∀{ts:List (Bool×List Nat)} {ps:List (Nat×Rat)},ptm ts=some ps→∀p∈ps,∃t∈ts,∃q,rdT t.2=some (p.1,q)
 | [],ps,h=>by cases h;intro p hp;cases hp
 | t::r,ps,h=>by
  have h':((rdT t.2).bind fun q=>(ptm r).map ((q.1,if t.1=true then -q.2 else q.2) :: ·))=some ps:=h;obtain ⟨q,e,h'⟩:=Option.bind_eq_some_iff.mp h';obtain ⟨qs,e2,rfl⟩:=Option.map_eq_some_iff.mp h';intro p hp;rcases List.mem_cons.mp hp with rfl | hp
  ·exact ⟨t,List.mem_cons_self,q.2,e⟩
  ·obtain ⟨t',ht',h⟩:=ptm_mem e2 p hp;exact ⟨t',List.mem_cons_of_mem _ ht',h⟩
theorem PwOk.of {l:List Nat} (h:Rn 5 l):PwOk l:=fun ps hps p hp=>by
 obtain ⟨ts,h1,h2⟩:=Option.bind_eq_some_iff.mp hps;obtain ⟨t,ht,q,e⟩:=ptm_mem h2 p hp;rcases rdT_lt e with z | ⟨m,hm,hd,z⟩
 ·have z:p.1≤1:=z;omega
 ·have z:p.1<10^m.length:=z;have h5:=h m (hm.trans (tms_in h1 t ht)) hd;have:(10:Nat)^m.length≤10^5:=Nat.pow_le_pow_right (by decide) h5;omega
section
variable {G:Nat→D} {c:Nat→List Sl→R (D×Bool)} {T:List Fn} {nm:Nm}
theorem ftt_ok {w:Nat} {q:Rat} (h0:0<w) (hw:w≤500) (h:Wd w q):bo G c T b_fraction_text [.va (fr q)] 0=va (tx (tt q)):=by
 have s0:=strS (i:=q.num) (lg10 h.1 hw);have s1:=strS (i:=(q.den:Int)) (lg10 (by simpa using h.2) hw);have i0:=fr_i0 q;have i1:=fr_i1 q;have l1:=nL_len h0 h.1;have l2:=nL_len h0 h.2;have ln:(nt q.num).length≤w+1:=by unfold nt;split <;> first | omega | (simp only [List.length_cons,List.length_nil];omega)
 have ld:nt (q.den:Int)=nL q.den:=by unfold nt;rw [if_neg (by omega)];simp
 rw [ld] at s1;unfold tt;by_cases hd:q.den=1
 ·rw [if_pos hd,List.append_nil];generalize fr q=Q at *
  unfold bo b_fraction_text;simp [-s2_adds,val,i0,i1,s0,hd]
 ·have e1:¬((q.den:Int)=1):=by omega
  have a1:=addS (a:=nt q.num) (b:=[47]) (by rw [line_v,List.length_singleton];omega);have a2:=addS (a:=nt q.num++[47]) (b:=nL q.den) (by rw [line_v,List.length_append,List.length_singleton];omega);rw [List.append_assoc,List.singleton_append] at a2;rw [if_neg hd];generalize fr q=Q at *
  unfold bo b_fraction_text;simp [-s2_adds,val,ksl,i0,i1,s0,s1,a1,a2,e1,hd]
def SpFracE (c:Nat→List Sl→R (D×Bool)) (j:Nat):Prop:=∀x y:D,(isW x=false∨isW y=false∨y = .int 0)→c j [.va x,.va y] = .ex 0
theorem fracE_ok {jw jg:Nat} (hw:SpWholeA c jw) {x y:D} (h:isW x=false∨isW y=false∨y = .int 0):bo G c T (b_fraction jw 0 jg) [.va x,.va y] 1 = .ex 0:=by
 have ex:=hw x;have ey:=hw y;rcases h with h | h | h
 ·unfold bo b_fraction;simp [val,ex,h]
 ·rw [h] at ey;generalize isW x=b at *
  unfold bo b_fraction;cases b <;> simp [val,ex,ey]
 ·subst h;have w0:isW (.int 0)=true:=rfl;rw [w0] at ey;generalize isW x=b at *
  unfold bo b_fraction;cases b <;> simp [val,ex,ey]
structure SpTurnE (c:Nat→List Sl→R (D×Bool)) (j:Nat):Prop where
 no:∀q:Rat,q=0→c j [.va (fr q)] = .ex 0
theorem turnE_ok {jf:Nat} {q:Rat} (h:q=0):bo G c T (b_turned 0 jf) [.va (fr q)] 0 = .ex 0:=by
 subst h;have i0:=fr_i0 0;have z:(0:Rat).num=0:=rfl;generalize fr 0=Q at *
 unfold bo b_turned;simp [val,i0,z]
structure SpRef02 (c:Nat→List Sl→R (D×Bool)) (j:Nat):Prop where
 yes:c j [.un,.un,.er 0]=va (.bool true)
theorem ref02:boR G c T b_law_refused_8 (.er 0) 4=va (.bool true):=by
 unfold boR b_law_refused_8;simp [val,erTy]
def SpNum02 (c:Nat→List Sl→R (D×Bool)) (j:Nat):Prop:=∀x:Int,∃v:Int,c j [.va (.int x)]=va (.int v)∧v.natAbs≤2^160
theorem mx31 (x k:Int):(mixV x k).natAbs≤2^31:=by
 have:=mixV_nn x k;have e:(2:Nat)^31=2147483648:=by decide
 omega
theorem nab {a b:Int} {m n:Nat} (h1:a.natAbs≤2^m) (h2:b.natAbs≤2^n):(a*b).natAbs≤2^(m+n):=by
 rw [Int.natAbs_mul,Nat.pow_add];exact Nat.mul_le_mul h1 h2
theorem number02_ok {jm:Nat} (hm:SpMix c jm) (x:Int):∃v:Int,bo G c T (b_law_number_2 jm) [.va (.int x)] 1=va (.int v)∧v.natAbs≤2^160:=by
 have e1:=hm x 91 (by decide);have e2:=hm x 92 (by decide);have e3:=hm x 93 (by decide);have e4:=hm x 94 (by decide);have e6:=hm x 96 (by decide);have b1:=mx31 x 91;have b2:=mx31 x 92;have b3:=mx31 x 93;have b4:=mx31 x 94;have b6:=mx31 x 96;generalize mixV x 91=m1 at *
 generalize mixV x 92=m2 at *
 generalize mixV x 93=m3 at *
 generalize mixV x 94=m4 at *
 generalize mixV x 96=m6 at *
 have c12:=nab b1 b2;have c123:=nab c12 b3;have c1234:=nab c123 b4;have c6:=nab c1234 b6;have k1:mulOk m1 m2=true:=mulOk_le b1 b2 (by decide);have k2:mulOk (m1*m2) m3=true:=mulOk_le c12 b3 (by decide);have k3:mulOk (m1*m2*m3) m4=true:=mulOk_le c123 b4 (by decide);have k4:mulOk (m1*m2*m3*m4) m6=true:=mulOk_le c1234 b6 (by decide);generalize hF:m1*m2*m3*m4=F at *
 have bF:F.natAbs≤2^160:=Nat.le_trans c1234 (Nat.pow_le_pow_right (by decide) (by decide));have bG:(F*m6).natAbs≤2^160:=Nat.le_trans c6 (Nat.pow_le_pow_right (by decide) (by decide));have c8:(8:Nat)≤line:=by unfold line;omega
 have p160:(2001:Nat)≤2^160:=by decide
 have d1:0≤(x.fdiv 8).fmod 25∧(x.fdiv 8).fmod 25<25:=by
  rw [Int.fmod_eq_emod_of_nonneg _ (by decide)];omega
 have d2:0≤(x.fdiv 8).fmod 2001∧(x.fdiv 8).fmod 2001<2001:=by
  rw [Int.fmod_eq_emod_of_nonneg _ (by decide)];omega
 have hr:0≤x.fmod 8∧x.fmod 8<8:=by
  rw [Int.fmod_eq_emod_of_nonneg _ (by decide)];omega
 have v1':∀k:Nat,k<8→x.fmod 8=(k:Int)→bo G c T (b_law_number_2 jm) [.va (.int x)] 1=va (.int ([(x.fdiv 8).fmod 25-12,0,1,F,-F,(x.fdiv 8).fmod 2001-1000,-1,F*m6].getD k 0)):=fun k hk he=>by
  have ei:sem2 .idx (.list [.int ((x.fdiv 8).fmod 25-12),.int 0,.int 1,.int F,.int (-F),.int ((x.fdiv 8).fmod 2001-1000),.int (-1),.int (F*m6)]) (.int (k:Int))=v1 (.int ([(x.fdiv 8).fmod 25-12,0,1,F,-F,(x.fdiv 8).fmod 2001-1000,-1,F*m6].getD k 0)):=by
   match k,hk with
   | 0,_=>rfl
   | 1,_=>rfl
   | 2,_=>rfl
   | 3,_=>rfl
   | 4,_=>rfl
   | 5,_=>rfl
   | 6,_=>rfl
   | 7,_=>rfl
  unfold bo b_law_number_2;simp [val,e1,e2,e3,e4,e6,k1,k2,k3,k4,hF,c8,he,ei]
 obtain ⟨k,ek⟩:∃k:Nat,x.fmod 8=(k:Int):=⟨(x.fmod 8).toNat,by omega⟩;refine ⟨_,v1' k (by omega) ek,?_⟩;match k,(show k<8 by omega) with
 | 0,_=>show ((x.fdiv 8).fmod 25-12).natAbs≤_;omega
 | 1,_=>exact Nat.zero_le _
 | 2,_=>show 1≤_;omega
 | 3,_=>exact bF
 | 4,_=>show (-F).natAbs≤_;rw [Int.natAbs_neg];exact bF
 | 5,_=>show ((x.fdiv 8).fmod 2001-1000).natAbs≤_;omega
 | 6,_=>show 1≤_;omega
 | 7,_=>exact bG
theorem wd_of {q:Rat} (h:Bd 200 q):Wd 100 q:=by
 have e:(2:Nat)^200<10^100:=by decide
 exact ⟨Nat.lt_of_le_of_lt h.1 e,Nat.lt_of_le_of_lt h.2 e⟩
def SpWr02 (c:Nat→List Sl→R (D×Bool)) (j:Nat):Prop:=∀q:Rat,Bd 200 q→c j [.va (fr q)]=va (.bool true)
theorem wr02_ok {jt:Nat} (ht:SpPTt c jt) {q:Rat} (h:Bd 200 q):bo G c T (b_law_words_right jt) [.va (fr q)] 1=va (.bool true):=by
 have w:=wd_of h;have et:=ht 100 q (by decide) (by decide) w;have s0:=strS (i:=q.num) (lg10 w.1 (by decide));have s1:=strS (i:=(q.den:Int)) (lg10 (w:=100) (by rw [Int.natAbs_natCast];exact w.2) (by decide));have i0:=fr_i0 q;have i1:=fr_i1 q;have l1:=nL_len (by decide) w.1;have l2:=nL_len (by decide) w.2;have ln:(nt q.num).length≤101:=by unfold nt;split <;> first | omega | (simp only [List.length_cons,List.length_nil];omega)
 have ld:nt (q.den:Int)=nL q.den:=by unfold nt;rw [if_neg (by omega)];simp
 rw [ld] at s1;unfold tt at et;by_cases hd:q.den=1
 ·rw [if_pos hd,List.append_nil] at et;have eq:=eqS (asc_nt q.num) (asc_nt q.num);generalize fr q=Q at *
  unfold bo b_law_words_right;simp [-s2_adds,val,et,i0,i1,s0,hd,eq]
 ·have e1:¬((q.den:Int)=1):=by omega
  have a1:=addS (a:=nt q.num) (b:=[47]) (by rw [line_v,List.length_singleton];omega);have a2:=addS (a:=nt q.num++[47]) (b:=nL q.den) (by rw [line_v,List.length_append,List.length_singleton];omega);rw [List.append_assoc,List.singleton_append] at a2;rw [if_neg hd] at et;have at':=asc_tt q;unfold tt at at';rw [if_neg hd] at at';have eq:=eqS at' at';generalize fr q=Q at *
  unfold bo b_law_words_right;simp [-s2_adds,val,ksl,et,i0,i1,s0,s1,a1,a2,e1,hd,eq]
def SpLess02 (c:Nat→List Sl→R (D×Bool)) (j:Nat):Prop:=∀a b:Rat,Bd 200 a→Bd 200 b→c j [.va (fr a),.va (fr b)]=va (.bool (decide (a<b)))
theorem less02_ok {a b:Rat} (ha:Bd 200 a) (hb:Bd 200 b):bo G c T b_is_less [.va (fr a),.va (fr b)] 0=va (.bool (decide (a<b))):=by
 have a0:=fr_i0 a;have a1:=fr_i1 a;have b0:=fr_i0 b;have b1:=fr_i1 b;have m1:mulOk a.num (b.den:Int)=true:=mulOk_le (a:=200) (b:=200) ha.1 (by rw [Int.natAbs_natCast];exact hb.2) (by omega);have m2:mulOk b.num (a.den:Int)=true:=mulOk_le (a:=200) (b:=200) hb.1 (by rw [Int.natAbs_natCast];exact ha.2) (by omega);have e:decide (a<b)=decide (a.num*(b.den:Int)<b.num*(a.den:Int)):=by congr 1;exact propext (Rat.lt_iff a b)
 rw [e];generalize fr a=A at *
 generalize fr b=B at *
 unfold bo b_is_less;simp [val,a0,a1,b0,b1,m1,m2]
theorem two02_ok {p0 p1 p2 p3 p4 p5 p6 p7 p8 p9:Nat} (h0:SpPlus c p0) (h1:SpPlus c p1) (h2:SpBy c p2) (h3:SpBy c p3) (h4:SpNeg c p4) (h5:SpWr02 c p5) (h6:SpLess02 c p6) (h7:SpRef02 c p7) (h8:SpTurn c p8) (h8':SpTurnE c p8) (h9:SpFrac c p9) {q u:Rat} (hq:Bd 200 q) (hu:Bd 200 u) :
  bo G c T (b_law_two_right p0 p1 p2 p3 p4 p5 p6 p7 p8 p9) [.va (fr q),.va (fr u)] 1=va (.bool true):=by
 have oq:Ok q:=hq.mono (by decide);have ou:Ok u:=hu.mono (by decide);have e0:=h0 q u oq ou;have e1:=h1 q u oq ou;have e2:=h2 q u oq ou;have e3:=h3 q u oq ou;have e4:=h4 q;have e5:=h5 q hq;have e6:=h6 q u hq hu;have r0:=h7.yes;have n1:=ne_fr (q+u) (q+u);have n2:=ne_fr (q*u) (q*u);have n4:sem2 .ne (fr (-q)) (.tuple [.int (-q.num),.int (q.den:Int)])=v1 (.bool false):=by
  have:(PyData.tuple [.int (-q.num),.int (q.den:Int)])=fr (-q):=by unfold fr;rw [Rat.neg_num,Rat.neg_den]
  rw [this,ne_fr];simp
 have i0:=fr_i0 q;have i1:=fr_i1 q;have j0:=fr_i0 u;have j1:=fr_i1 u;have c2:(2:Nat)≤line:=by unfold line;omega
 have m1:mulOk q.num (u.den:Int)=true:=mulOk_le (a:=200) (b:=200) hq.1 (by rw [Int.natAbs_natCast];exact hu.2) (by omega);have m2:mulOk u.num (q.den:Int)=true:=mulOk_le (a:=200) (b:=200) hu.1 (by rw [Int.natAbs_natCast];exact hq.2) (by omega);have el:decide (q<u)=decide (q.num*(u.den:Int)<u.num*(q.den:Int)):=by congr 1;exact propext (Rat.lt_iff q u)
 rw [el] at e6;have nb:∀b:Bool,sem2 .ne (.bool b) (.bool b)=v1 (.bool false):=fun b=>by cases b <;> rfl
 have nb':=nb (decide (q.num*(u.den:Int)<u.num*(q.den:Int)));by_cases z:q=0
 ·have e8:=h8'.no q z;have qn:q.num=0:=by rw [z];rfl
  generalize fr (-q)=NQ at *
  generalize fr (q+u)=A at *
  generalize fr (q*u)=B at *
  generalize fr q=Q at *
  generalize fr u=U at *
  simp at n1 n2;simp only [qn,Int.zero_mul,Int.neg_zero] at n4 i0 m1 nb' e6;unfold bo b_law_two_right;simp [val,e0,e1,e2,e3,e4,e5,e6,n1,n2,n4,i0,i1,j0,j1,c2,m1,m2,nb',e8,r0,qn,isTy,rfR]
 ·have qn:q.num≠0:=by rw [Ne,Rat.num_eq_zero];exact z
  have e8:=h8 q z;have e9:=h9 (q.den:Int) q.num qn;rw [inv_divInt z] at e9;have eq8:=eq_fr q⁻¹ q⁻¹;generalize fr q⁻¹ = IQ at *
  generalize fr (-q)=NQ at *
  generalize fr (q+u)=A at *
  generalize fr (q*u)=B at *
  generalize fr q=Q at *
  generalize fr u=U at *
  simp at n1 n2 eq8;unfold bo b_law_two_right;simp [val,e0,e1,e2,e3,e4,e5,e6,n1,n2,n4,i0,i1,j0,j1,c2,m1,m2,nb',e8,e9,eq8,qn,isTy]
def SpTwo02 (c:Nat→List Sl→R (D×Bool)) (j:Nat):Prop:=∀q u:Rat,Bd 200 q→Bd 200 u→c j [.va (fr q),.va (fr u)]=va (.bool true)
def SpOdd02 (c:Nat→List Sl→R (D×Bool)) (j:Nat):Prop:=∀x:Int,c j [.va (.int x)]=va (.bool true)
def odds:List D:=[.none,.bool true,.bool false,.str "1", .tuple [.int 1,.int 2],.list [.int 1],.dict [],.str "x"]
def somes:List D:=[.none,.int 5,.bool true,.str "1/2", .list [.int 1,.int 2],.tuple [.int 1],.tuple [.int 1,.int 2,.int 3],.tuple [.int 1,.int 0],.tuple [.int 1,.int (-2)],.tuple [.int 2,.int 4],.tuple [.int 0,.int 2],.tuple [.bool true,.int 2]]
def somes2:List D:=[.tuple [.int 1,.bool true],.tuple [.str "1", .int 2],.tuple [],.dict []]
theorem odd02_ok {p0 p1 p2:Nat} (d1:dflT T p1 1=[.int 1]) (h0:SpRef02 c p0) (h1:SpFracE c p1) (h2:SpIsFrA c p2) (x:Int):bo G c T (b_law_odd_right p0 p1 p2) [.va (.int x)] 4=va (.bool true):=by
 have r0:=h0.yes;have c0:(0:Nat)≤line:=Nat.zero_le _;have c1:(1:Nat)≤line:=by unfold line;omega
 have c2:(2:Nat)≤line:=by unfold line;omega
 have c3:(3:Nat)≤line:=by unfold line;omega
 have c4:(4:Nat)≤line:=by unfold line;omega
 have c4':(4:Nat)<line:=by unfold line;omega
 have c8:(8:Nat)≤line:=by unfold line;omega
 have c12:(12:Nat)≤line:=by unfold line;omega
 have c16:(16:Nat)≤line:=by unfold line;omega
 have hr:0≤x.fmod 8∧x.fmod 8<8:=by
  rw [Int.fmod_eq_emod_of_nonneg _ (by decide)];omega
 have hs:0≤(x.fdiv 8).fmod 16∧(x.fdiv 8).fmod 16<16:=by
  rw [Int.fmod_eq_emod_of_nonneg _ (by decide)];omega
 obtain ⟨k,ek⟩:∃k:Nat,x.fmod 8=(k:Int):=⟨(x.fmod 8).toNat,by omega⟩;obtain ⟨m,em⟩:∃m:Nat,(x.fdiv 8).fmod 16=(m:Int):=⟨((x.fdiv 8).fmod 16).toNat,by omega⟩;obtain ⟨o,eo,wo⟩:∃o:D,sem2 .idx (.list odds) (.int (k:Int))=v1 o∧isW o=false:=by
  match k,(show k<8 by omega) with
  | 0,_=>exact ⟨_,rfl,rfl⟩
  | 1,_=>exact ⟨_,rfl,rfl⟩
  | 2,_=>exact ⟨_,rfl,rfl⟩
  | 3,_=>exact ⟨_,rfl,rfl⟩
  | 4,_=>exact ⟨_,rfl,rfl⟩
  | 5,_=>exact ⟨_,rfl,rfl⟩
  | 6,_=>exact ⟨_,rfl,rfl⟩
  | 7,_=>exact ⟨_,rfl,rfl⟩
 obtain ⟨s,es,fs⟩:∃s:D,sem2 .idx (.list (somes++somes2)) (.int (m:Int))=v1 s∧isF s=false:=by
  match m,(show m<16 by omega) with
  | 0,_=>exact ⟨_,rfl,rfl⟩
  | 1,_=>exact ⟨_,rfl,rfl⟩
  | 2,_=>exact ⟨_,rfl,rfl⟩
  | 3,_=>exact ⟨_,rfl,rfl⟩
  | 4,_=>exact ⟨_,rfl,rfl⟩
  | 5,_=>exact ⟨_,rfl,rfl⟩
  | 6,_=>exact ⟨_,rfl,rfl⟩
  | 7,_=>exact ⟨_,rfl,by decide⟩
  | 8,_=>exact ⟨_,rfl,by decide⟩
  | 9,_=>exact ⟨_,rfl,by decide⟩
  | 10,_=>exact ⟨_,rfl,by decide⟩
  | 11,_=>exact ⟨_,rfl,rfl⟩
  | 12,_=>exact ⟨_,rfl,rfl⟩
  | 13,_=>exact ⟨_,rfl,rfl⟩
  | 14,_=>exact ⟨_,rfl,rfl⟩
  | 15,_=>exact ⟨_,rfl,rfl⟩
  | n+16,hn=>exact absurd hn (by omega)
 have f1:=h1 o (.int 1) (.inl wo);have f3:=h1 (.int 1) o (.inr (.inl wo));have f4:=h1 (.int (x.fmod 99)) (.int 0) (.inr (.inr rfl));have f5:=h2 s;rw [fs] at f5;have ea:sem2 .add (.list somes) (.list somes2) = .ok (.list (somes++somes2),true):=by
  rw [s2_addl,if_pos (by show 12+4≤line;omega)]
 have hw:wksR G c (dflT T) p0 [0,1,2,3,4,5,6,7,8] [.va (.int x),.va o,.un,.un,.un] (.cons (.call p1 (.cons (.var 1) .nil) 1) (.cons (.call p1 (.cons (.var 1) (.cons (.con (.int 1)) .nil)) 0) (.cons (.call p1 (.cons (.con (.int 1)) (.cons (.var 1) .nil)) 0) (.cons (.call p1 (.cons (.op2 .mod (.var 0) (.con (.int 99))) (.cons (.con (.int 0)) .nil)) 0) .nil))))
   = .ok [.bool true,.bool true,.bool true,.bool true]:=by
  simp [wksR,val,f1,f3,f4,d1,r0,rfR]
 have hin:sem2 .inn (.bool false) (.list [.bool true,.bool true,.bool true,.bool true])=v1 (.bool false):=by
  show (if SeqAt.shaped (.bool false)=true∧SeqAt.shaped (.list [.bool true,.bool true,.bool true,.bool true])=true then v1 (.bool (List.any [PyData.bool true,.bool true,.bool true,.bool true] fun z=>z.eqv (.bool false))) else .no)=_;rw [if_pos ⟨by decide +kernel,by decide +kernel⟩];rfl
 unfold bo b_law_odd_right;simp only [List.cons_append,List.nil_append,List.replicate_succ,List.replicate_zero];have w1:evS G c (dflT T) (.asg (.nm 1) (.op2 .idx (.lst (.cons (.con .none) (.cons (.con (.bool true)) (.cons (.con (.bool false)) (.cons (.con (.str "1")) (.cons (.tup (.cons (.con (.int 1)) (.cons (.con (.int 2)) .nil))) (.cons (.lst (.cons (.con (.int 1)) .nil)) (.cons .emp (.cons (.con (.str "x")) .nil))))))))) (.op2 .mod (.var 0) (.con (.int 8))))) [.va (.int x),.un,.un,.un,.un] = .ok (.nx [.va (.int x),.va o,.un,.un,.un]):=by
  have eo:sem2 .idx (.list [.none,.bool true,.bool false,.str "1", .tuple [.int 1,.int 2],.list [.int 1],.dict [],.str "x"]) (.int (k:Int))=v1 o:=eo;simp [val,ek,eo,c1,c2,c8]
 rw [ess_cons,w1];show outF (evSs G c (dflT T) (.wks _ _ _ _ _ _) _)=_;rw [ess_wks];have len:[Sl.va (.int x),.va o,.un,.un,.un].length=5:=rfl;rw [len,if_pos (by decide),show [Sl.va (.int x),.va o,.un,.un,.un].set 2 .un=[Sl.va (.int x),.va o,.un,.un,.un] from rfl,hw];show outF (if 4<line then (match sem2 .inn (.bool false) (.list [.bool true,.bool true,.bool true,.bool true]) with
   | .ok (.bool true,_) => .ok (.rt (.bool false) false)
   | .ok (.bool false,_)=>evSs G c (dflT T) _ [Sl.va (.int x),.va o,.un,.un,.un]
   | _ => .no) else .no)=_
 rw [if_pos c4',hin];show outF (evSs G c (dflT T) _ [Sl.va (.int x),.va o,.un,.un,.un])=_;clear hw f1 f3 f4 r0 hin w1 eo
 have w3:evS G c (dflT T) (.asg (.nm 3) (.lst (.cons (.con .none) (.cons (.con (.int 5)) (.cons (.con (.bool true)) (.cons (.con (.str "1/2")) (.cons (.lst (.cons (.con (.int 1)) (.cons (.con (.int 2)) .nil))) (.cons (.tup (.cons (.con (.int 1)) .nil)) (.cons (.tup (.cons (.con (.int 1)) (.cons (.con (.int 2)) (.cons (.con (.int 3)) .nil)))) (.cons (.tup (.cons (.con (.int 1)) (.cons (.con (.int 0)) .nil))) (.cons (.tup (.cons (.con (.int 1)) (.cons (.op1 .neg (.con (.int 2))) .nil))) (.cons (.tup (.cons (.con (.int 2)) (.cons (.con (.int 4)) .nil))) (.cons (.tup (.cons (.con (.int 0)) (.cons (.con (.int 2)) .nil))) (.cons (.tup (.cons (.con (.bool true)) (.cons (.con (.int 2)) .nil))) .nil)))))))))))))) [.va (.int x),.va o,.un,.un,.un] = .ok (.nx [.va (.int x),.va o,.un,.va (.list somes),.un]):=by
  simp [val,c1,c2,c3,c12,somes]
 have ea:sem2 .add (.list somes) (.list [.tuple [.int 1,.bool true],.tuple [.str "1", .int 2],.tuple [],.dict []]) = .ok (.list (somes++somes2),true):=ea;rw [ess_cons,w3];show outF (evSs G c (dflT T) _ [Sl.va (.int x),.va o,.un,.va (.list somes),.un])=_;have el:(evS G c (dflT T) (.asg (.nm 3) (.op2 .add (.var 3) (.lst (.cons (.tup (.cons (.con (.int 1)) (.cons (.con (.bool true)) .nil))) (.cons (.tup (.cons (.con (.str "1")) (.cons (.con (.int 2)) .nil))) (.cons (.tup .nil) (.cons .emp .nil))))))) [.va (.int x),.va o,.un,.va (.list somes),.un]) = .ok (.nx [.va (.int x),.va o,.un,.va (.list (somes++somes2)),.un]):=by
  generalize somes++somes2=L at *
  generalize somes=L0 at *
  simp [-s2_addl,val,c0,c2,c4,ea]
 rw [ess_cons,el];show outF (evSs G c (dflT T) _ [Sl.va (.int x),.va o,.un,.va (.list (somes++somes2)),.un])=_;generalize somes++somes2=L at *
 simp [val,em,es,f5]
theorem bd_dI {a b:Int} {n:Nat} (hb:b≠0) (h1:a.natAbs≤2^n) (h2:b.natAbs≤2^n):Bd n (Rat.divInt a b):=by
 obtain ⟨d1,d2⟩:=divInt_le (a:=a) hb;exact ⟨Nat.le_trans d1 h1,Nat.le_trans d2 h2⟩
theorem law_k02 {p0 p1 p2 p3 p4 p5 p6:Nat} (d2:dflT T p2 1=[.int 1]) (h0:SpMix c p0) (h1:SpNum02 c p1) (h2:SpFrac c p2) (h3:SpFrac c p3) (h4:SpIsFr c p4) (h5:SpTwo02 c p5) (h6:SpOdd02 c p6) (ns:List Int) (hn:ns.length≤1000) :
  bo G c T (b_law_21 p0 p1 p2 p3 p4 p5 p6) [.va (.list (ns.map .int))] 8=va (.bool true):=by
 have c3:(3:Nat)≤line:=by unfold line;omega
 have c2:(2:Nat)≤line:=by unfold line;omega
 have ec:semSl (.list (ns.map .int)) none (some 80) = .ok (.list ((ns.take 80).map .int),true):=by
  have:=cutL_to (ns.map PyData.int) 80;show R.ok (PyData.list (cutL (ns.map .int) none (some ((80:Nat):Int))),true)=_;rw [this,List.map_take]
 have ea:sem2 .add (.list ((ns.take 80).map .int)) (.list [.int 0,.int 1,.int 2]) = .ok (.list ((ns.take 80++[0,1,2]).map .int),true):=by
  rw [s2_addl,if_pos (by rw [List.length_map,List.length_take];show _+3≤_;unfold line;omega),List.map_append];rfl
 obtain ⟨ks,hks⟩:∃ks,ks=ns.take 80++[0,1,2]:=⟨_,rfl⟩;rw [←hks] at ea;have kl:ks.length≤83:=by rw [hks,List.length_append,List.length_take];simp;omega
 have sq:seqR (.list (ks.map .int)) = .ok (ks.map .int):=rfl;generalize (ns.take 80).map PyData.int=N2 at *
 generalize ns.map PyData.int=NS at *
 unfold bo b_law_21;simp only [List.cons_append,List.nil_append,List.replicate_succ,List.replicate_zero];rw [ess_cons,es_for];have itE:evI G c (dflT T) (.enum (.op2 .add (.slc (.var 0) .none (.some (.con (.int 80)))) (.lst (.cons (.con (.int 0)) (.cons (.con (.int 1)) (.cons (.con (.int 2)) .nil)))))) [.va (.list NS),.un,.un,.un,.un,.un,.un,.un,.un] = .ok ((enumN 0 ks).map fun p => .tuple [.int (p.1:Nat),.int p.2]):=by
  rw [←enumD_map];simp [-List.map_map,-s2_addl,val,ec,ea,sq,c3]
 rw [itE];simp only [lf_ok];refine forR_then (P:=fun r=>outF (r.bind _)=_) (I:=fun i en=>∃z1 z2 z3 z4 z5 z6 z7 z8,en=[.va (.list NS),z1,z2,z3,z4,z5,z6,z7,z8]) ?_ ⟨_,_,_,_,_,_,_,_,rfl⟩ ?_
 ·rintro i en d hi' ⟨z1,z2,z3,z4,z5,z6,z7,z8,rfl⟩;rw [List.getElem?_map,enumN_get] at hi';cases hx':ks[i]? with
  | none=>rw [hx'] at hi';cases hi'
  | some x =>
   rw [hx'] at hi';cases Option.some.inj hi';have hil:=(List.getElem?_eq_some_iff.mp hx').1;rw [Nat.zero_add];have e0:=h0 x (i:Int) (by omega);obtain ⟨m0,_⟩:=mixV_nn x (i:Int);generalize mixV x (i:Int)=m at *
   have e1:=h0 m 1 (by decide);have e2:=h0 m 2 (by decide);have e3:=h0 m 3 (by decide);have e4:=h0 m 4 (by decide);generalize mixV m 1=m1 at *
   generalize mixV m 2=m2 at *
   generalize mixV m 3=m3 at *
   generalize mixV m 4=m4 at *
   obtain ⟨v,ev,bv⟩:=h1 m1;obtain ⟨w,ew,bw⟩:=h1 m2;obtain ⟨r,er,br⟩:=h1 m3;have ev:c p1 [.va (.int m1)]=va (.int v):=ev;have ew:c p1 [.va (.int m2)]=va (.int w):=ew;have er:c p1 [.va (.int m3)]=va (.int r):=er;have p7:(60:Nat)≤2^160:=by decide
   obtain ⟨u,hu,u0,bu⟩:∃u:Int,(if w=0 then (7:Int) else w)=u∧u≠0∧u.natAbs≤2^160:=by
    by_cases z:w=0
    ·exact ⟨7,by rw [if_pos z],by decide,by show 7≤_;omega⟩
    ·exact ⟨w,by rw [if_neg z],z,bw⟩
   have EU:∀y0 y1 y2 y4 y5 y6 y7 y8:Sl,evF G c (dflT T) (.or (.call p1 (.cons (.call p0 (.cons (.var 3) (.cons (.con (.int 2)) .nil)) 0) .nil) 0) (.con (.int 7))) [y0,y1,y2,.va (.int m),y4,y5,y6,y7,y8]=v1 (.int u):=fun y0 y1 y2 y4 y5 y6 y7 y8=>by
    by_cases z:w=0
    ·rw [if_pos z] at hu;subst hu;simp [val,e2,ew,z]
    ·rw [if_neg z] at hu;subst hu;simp [val,e2,ew,z];rfl
   have fm:0≤m.fmod 60∧m.fmod 60<60:=by
    rw [Int.fmod_eq_emod_of_nonneg _ (by decide)];omega
   have g1:=h2 v u u0;have g2:=h3 v u u0;have b1:Bd 200 (Rat.divInt v u):=(bd_dI u0 bv bu).mono (by decide);have g3:=h2 r 1 (by decide);have g4:=h2 r (1+m.fmod 60) (by omega);have b2:Bd 200 (Rat.divInt r (1+m.fmod 60)):=(bd_dI (by omega) br (by omega)).mono (by decide);have ed:Rat.divInt r 1=((r:Int):Rat):=by rw [Rat.divInt_eq_div];simp;grind
   rw [ed,fr_int] at g3;generalize Rat.divInt v u=q1 at *
   generalize Rat.divInt r (1+m.fmod 60)=q2 at *
   have t1:=h5 q1 q2 b1 b2;have t2:=h5 q2 q1 b2 b1;have t3:=h5 q1 q1 b1 b1;have k1:=h4 q1;have o1:=h6 m4;have n1:=ne_fr q1 q1;have n2:sem2 .ne (.tuple [.int r,.int 1]) (.tuple [.int r,.int 1])=v1 (.bool false):=by
    rw [←fr_int,ne_fr];simp
   generalize fr q1=Q1 at *
   generalize fr q2=Q2 at *
   simp at n1;refine ⟨[.va (.list NS),.va (.int (i:Nat)),.va (.int x),.va (.int m),.va (.int v),.va (.int u),.va (.int r),.va Q1,.va Q2],.inl ?_,_,_,_,_,_,_,_,_,rfl⟩;generalize hE:E.or (.call p1 (.cons (.call p0 (.cons (.var 3) (.cons (.con (.int 2)) .nil)) 0) .nil) 0) (.con (.int 7))=EE at *
   simp [val,e0,e1,e3,e4,ev,er,EU,g1,g2,g3,g4,t1,t2,t3,k1,o1,n1,n2,c2,d2]
 ·rintro en ⟨z1,z2,z3,z4,z5,z6,z7,z8,rfl⟩;simp [val]
end
end AW
namespace Law
open PySem PySem.Spec PyProof.Rows AW
abbrev G:Nat→D:=fun x=>((t.cons[x]?).map (·.2)).getD .none
noncomputable abbrev C (k:Nat):Nat→List Sl→AW.R (D×Bool):=callN G t.T k
theorem h0_SpWhole (k:Nat) (hk:0<k):SpWhole (callN G t.T k) 0:=by
 unfold SpWhole;intros
 rw [callN_bo (ss:=[_]) hk rfl rfl ?_]
 ·apply whole_ok  <;> assumption
 ·rfl
theorem h0_SpWholeA (k:Nat) (hk:0<k):SpWholeA (callN G t.T k) 0:=by
 unfold SpWholeA;intros
 rw [callN_bo (ss:=[_]) hk rfl rfl ?_]
 ·apply wholeA_ok  <;> assumption
 ·rfl
theorem h1_SpGcd (k:Nat) (hk:1<k):SpGcd (callN G t.T k) 1:=by
 unfold SpGcd;intros
 rw [callN_bo (ss:=[_,_]) hk rfl rfl ?_]
 ·apply gcd_ok  <;> assumption
 ·rfl
theorem h2_SpFrac (k:Nat) (hk:2<k):SpFrac (callN G t.T k) 2:=by
 unfold SpFrac;intros
 rw [callN_bo (ss:=[_,_]) hk rfl rfl ?_]
 ·apply frac_ok (h0_SpWhole 2 (by decide)) (h1_SpGcd 2 (by decide)) <;> assumption
 ·rfl
theorem h2_SpFracE (k:Nat) (hk:2<k):SpFracE (callN G t.T k) 2:=by
 unfold SpFracE;intros
 rw [callN_bo (ss:=[_,_]) hk rfl rfl ?_]
 ·apply fracE_ok (h0_SpWholeA 2 (by decide)) <;> assumption
 ·rfl
theorem h3_SpIsFr (k:Nat) (hk:3<k):SpIsFr (callN G t.T k) 3:=by
 unfold SpIsFr;intros
 rw [callN_bo (ss:=[_]) hk rfl rfl ?_]
 ·apply is_fraction_ok (h0_SpWhole 3 (by decide)) (h1_SpGcd 3 (by decide)) <;> assumption
 ·rfl
theorem h3_SpIsFrA (k:Nat) (hk:3<k):SpIsFrA (callN G t.T k) 3:=by
 unfold SpIsFrA;intros
 rw [callN_bo (ss:=[_]) hk rfl rfl ?_]
 ·apply is_fractionA_ok (h0_SpWholeA 3 (by decide)) (h1_SpGcd 3 (by decide)) <;> assumption
 ·rfl
theorem h4_SpMix (k:Nat) (hk:4<k):SpMix (callN G t.T k) 4:=by
 unfold SpMix;intros
 rw [callN_bo (ss:=[_,_]) hk rfl rfl ?_]
 ·apply mixed_ok  <;> assumption
 ·rfl
theorem h5_SpFrac (k:Nat) (hk:5<k):SpFrac (callN G t.T k) 5:=by
 unfold SpFrac;intros
 rw [callN_bo (ss:=[_,_]) hk rfl rfl ?_]
 ·apply low_ok  <;> assumption
 ·rfl
theorem h6_SpNum02 (k:Nat) (hk:6<k):SpNum02 (callN G t.T k) 6:=by
 unfold SpNum02;intros
 rw [callN_bo (ss:=[_]) hk rfl rfl ?_]
 ·apply number02_ok (h4_SpMix 6 (by decide)) <;> assumption
 ·rfl
theorem h7_SpPlus (k:Nat) (hk:7<k):SpPlus (callN G t.T k) 7:=by
 unfold SpPlus;intros
 rw [callN_bo (ss:=[_,_]) hk rfl rfl ?_]
 ·apply plus_ok (h2_SpFrac 7 (by decide)) <;> assumption
 ·rfl
theorem h8_SpNeg (k:Nat) (hk:8<k):SpNeg (callN G t.T k) 8:=by
 unfold SpNeg;intros
 rw [callN_bo (ss:=[_]) hk rfl rfl ?_]
 ·apply negated_ok  <;> assumption
 ·rfl
theorem h9_SpBy (k:Nat) (hk:9<k):SpBy (callN G t.T k) 9:=by
 unfold SpBy;intros
 rw [callN_bo (ss:=[_,_]) hk rfl rfl ?_]
 ·apply by_ok (h2_SpFrac 9 (by decide)) <;> assumption
 ·rfl
theorem h10_SpTurn (k:Nat) (hk:10<k):SpTurn (callN G t.T k) 10:=by
 unfold SpTurn;intros
 rw [callN_bo (ss:=[_]) hk rfl rfl ?_]
 ·apply turned_ok (h2_SpFrac 10 (by decide)) <;> assumption
 ·rfl
theorem h10_SpTurnE (k:Nat) (hk:10<k):SpTurnE (callN G t.T k) 10:=by
 try unfold SpTurnE
 constructor
 ·intros
  rw [callN_bo (ss:=[_]) hk rfl rfl ?_]
  ·apply turnE_ok  <;> assumption
  ·rfl
theorem h11_SpLess02 (k:Nat) (hk:11<k):SpLess02 (callN G t.T k) 11:=by
 unfold SpLess02;intros
 rw [callN_bo (ss:=[_,_]) hk rfl rfl ?_]
 ·apply less02_ok  <;> assumption
 ·rfl
theorem h12_SpPlus (k:Nat) (hk:12<k):SpPlus (callN G t.T k) 12:=by
 unfold SpPlus;intros
 rw [callN_bo (ss:=[_,_]) hk rfl rfl ?_]
 ·apply plus_ok (h5_SpFrac 12 (by decide)) <;> assumption
 ·rfl
theorem h13_SpBy (k:Nat) (hk:13<k):SpBy (callN G t.T k) 13:=by
 unfold SpBy;intros
 rw [callN_bo (ss:=[_,_]) hk rfl rfl ?_]
 ·apply by_ok (h5_SpFrac 13 (by decide)) <;> assumption
 ·rfl
theorem h14_SpRef02 (k:Nat) (hk:14<k):SpRef02 (callN G t.T k) 14:=by
 try unfold SpRef02
 constructor
 ·intros
  rw [callN_boR hk rfl rfl];apply ref02  <;> assumption
theorem h15_SpPTt (k:Nat) (hk:15<k):SpPTt (callN G t.T k) 15:=by
 unfold SpPTt;intros
 rw [callN_bo (ss:=[_]) hk rfl rfl ?_]
 ·apply ftt_ok  <;> assumption
 ·rfl
theorem h16_SpWr02 (k:Nat) (hk:16<k):SpWr02 (callN G t.T k) 16:=by
 unfold SpWr02;intros
 rw [callN_bo (ss:=[_]) hk rfl rfl ?_]
 ·apply wr02_ok (h15_SpPTt 16 (by decide)) <;> assumption
 ·rfl
theorem h17_SpTwo02 (k:Nat) (hk:17<k):SpTwo02 (callN G t.T k) 17:=by
 unfold SpTwo02;intros
 rw [callN_bo (ss:=[_,_]) hk rfl rfl ?_]
 ·apply two02_ok (h7_SpPlus 17 (by decide)) (h12_SpPlus 17 (by decide)) (h9_SpBy 17 (by decide)) (h13_SpBy 17 (by decide)) (h8_SpNeg 17 (by decide)) (h16_SpWr02 17 (by decide)) (h11_SpLess02 17 (by decide)) (h14_SpRef02 17 (by decide)) (h10_SpTurn 17 (by decide)) (h10_SpTurnE 17 (by decide)) (h5_SpFrac 17 (by decide)) <;> assumption
 ·rfl
theorem h18_SpOdd02 (k:Nat) (hk:18<k):SpOdd02 (callN G t.T k) 18:=by
 unfold SpOdd02;intros
 rw [callN_bo (ss:=[_]) hk rfl rfl ?_]
 ·apply odd02_ok rfl (h14_SpRef02 18 (by decide)) (h2_SpFracE 18 (by decide)) (h3_SpIsFrA 18 (by decide)) <;> assumption
 ·rfl
theorem hlaw (ns:List Int) (hl:ns.length≤63):callN G t.T 20 19 [.va (.list (ns.map .int))] = .ok (.bool true,false) :=
 (callN_bo (ss:=[_]) (by decide) rfl rfl (by rfl)).trans (law_k02 rfl (h4_SpMix 19 (by decide)) (h6_SpNum02 19 (by decide)) (h2_SpFrac 19 (by decide)) (h5_SpFrac 19 (by decide)) (h3_SpIsFr 19 (by decide)) (h17_SpTwo02 19 (by decide)) (h18_SpOdd02 19 (by decide)) ns (by omega))
end Law
theorem PySem.Challenge.cw_areawright_k02_fractions_holds : PySem.Challenge.rw_areawright_k02_fractions.Holds :=
  holds_of fun ns hl=>Law.hlaw ns hl
