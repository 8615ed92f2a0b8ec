import PyProof.Rows.All
import PyProof.NoPylong
import PyProof.CallStr
import PyProof.CompFree
import PyProof.DictWalks
import PyProof.EnumFor
import PyProof.EnumMake
import PyProof.ExcBaseAll.Exception
import PyProof.ExcInit
import PyProof.WalksPairs
import PyProof.TupleOfSeq
import KE.IntBitsLaws
import KE.KDictSum
import KE.KPar
import KE.KRevIter
import KE.KSuper
import KE.KTryOn
import Wide.FinOn
import OpenK.AllK
import Wide.All
import Lean
import PySem.Challenge.RW_nn0421_01
set_option maxRecDepth 100000
set_option linter.all false
set_option genInjectivity false
set_option genSizeOf false
set_option compiler.extract_closed false
set_option exponentiation.threshold 2000
set_option Elab.async false
namespace Mine.Internal
open PySem PySem.W PySem.Calls PyProof.Rows
theorem ae:type_of% @Nat.le_trans:=@Nat.le_trans
theorem ag:type_of% @List.length_map:=@List.length_map
theorem ah:type_of% @wpAny_bind:=@wpAny_bind
theorem aj:type_of% @congrArg:=@congrArg
theorem ak:type_of% @List.length_append:=@List.length_append
theorem al:type_of% @if_pos:=@if_pos
theorem ao:type_of% @Nat.le_refl:=@Nat.le_refl
theorem aq:type_of% @Option.some.inj:=@Option.some.inj
theorem av:type_of% @if_neg:=@if_neg
theorem aw:type_of% @wpAny_pure:=@wpAny_pure
theorem ax:type_of% @List.mem_of_getElem?:=@List.mem_of_getElem?
theorem ay:type_of% @List.map_append:=@List.map_append
theorem az:type_of% @wpAny_mono:=@wpAny_mono
theorem aA:type_of% @List.getElem?_map:=@List.getElem?_map
theorem aB:type_of% @List.mem_map:=@List.mem_map
theorem aC:type_of% @List.getElem?_eq_getElem:=@List.getElem?_eq_getElem
theorem aD:type_of% @of_decide_eq_true:=@of_decide_eq_true
theorem aF:type_of% @List.mem_singleton:=@List.mem_singleton
theorem aG:type_of% @decide_eq_true:=@decide_eq_true
theorem aH:type_of% @Nat.le_of_lt:=@Nat.le_of_lt
theorem aI:type_of% @List.mem_append:=@List.mem_append
theorem aJ:type_of% @List.map_map:=@List.map_map
theorem aK:type_of% @Nat.succ_le_succ:=@Nat.succ_le_succ
theorem aL:type_of% @Nat.zero_le:=@Nat.zero_le
theorem aM:type_of% @List.mem_cons:=@List.mem_cons
theorem aN:type_of% @List.map_cons:=@List.map_cons
theorem aO:type_of% @List.getElem?_eq_some_iff:=@List.getElem?_eq_some_iff
theorem aP:type_of% @List.append_assoc:=@List.append_assoc
theorem aQ:type_of% @List.length_range:=@List.length_range
theorem aR:type_of% @Nat.lt_of_lt_of_le:=@Nat.lt_of_lt_of_le
theorem aS:type_of% @List.append_nil:=@List.append_nil
theorem aT:type_of% @List.mem_filter:=@List.mem_filter
theorem aU:type_of% @Nat.le_succ:=@Nat.le_succ
theorem aV:type_of% @Int.ofNat_lt:=@Int.ofNat_lt
theorem aW:type_of% @Nat.le_add_right:=@Nat.le_add_right
theorem aX:type_of% @Nat.lt_of_le_of_lt:=@Nat.lt_of_le_of_lt
theorem aY:type_of% @wpAny_holding:=@wpAny_holding
theorem aZ:type_of% @Array.length_toList:=@Array.length_toList
theorem ba:type_of% @List.getElem?_append_right:=@List.getElem?_append_right
theorem bb:type_of% @List.length_take:=@List.length_take
theorem bc:type_of% @List.length_set:=@List.length_set
theorem bd:type_of% @List.getElem?_set_self:=@List.getElem?_set_self
theorem bf:type_of% @Nat.add_le_add_right:=@Nat.add_le_add_right
theorem bg:type_of% @List.getElem?_append_left:=@List.getElem?_append_left
theorem bh:type_of% @List.all_eq_true:=@List.all_eq_true
theorem bj:type_of% @Int.natCast_nonneg:=@Int.natCast_nonneg
theorem bn:type_of% @Nat.le_of_eq:=@Nat.le_of_eq
theorem bp:type_of% @List.mem_iff_getElem:=@List.mem_iff_getElem
theorem bq:type_of% @Nat.add_le_add_left:=@Nat.add_le_add_left
theorem br:type_of% @List.length_filter_le:=@List.length_filter_le
theorem bt:type_of% @Heap.get?_push_of_some:=@Heap.get?_push_of_some
theorem bu:type_of% @decide_eq_false:=@decide_eq_false
theorem bv:type_of% @List.length_replicate:=@List.length_replicate
theorem bw:type_of% @Nat.add_le_add:=@Nat.add_le_add
theorem bx:type_of% @List.nodup_nil:=@List.nodup_nil
theorem bz:type_of% @Nat.ne_of_lt:=@Nat.ne_of_lt
theorem bA:type_of% @Nat.zero_add:=@Nat.zero_add
theorem bC:type_of% @Int.ofNat_inj:=@Int.ofNat_inj
theorem bD:type_of% @Heap.lt_size:=@Heap.lt_size
theorem bG:type_of% @wpAny_standAt:=@wpAny_standAt
theorem bH:type_of% @List.nodup_append:=@List.nodup_append
theorem bJ:type_of% @wpAny_newObj_type:=@wpAny_newObj_type
theorem bK:type_of% @List.length_take_le':=@List.length_take_le'
theorem bL:type_of% @List.filter_append:=@List.filter_append
theorem bM:type_of% @List.mem_append_left:=@List.mem_append_left
theorem bO:type_of% @Nat.succ.inj:=@Nat.succ.inj
theorem bP:type_of% @Nat.lt_succ_self:=@Nat.lt_succ_self
theorem bQ:type_of% @List.lookup_cons:=@List.lookup_cons
theorem bR:type_of% @List.nodup_cons:=@List.nodup_cons
theorem bS:type_of% @Nat.mul_le_mul_left:=@Nat.mul_le_mul_left
theorem bU:type_of% @List.length_cons:=@List.length_cons
theorem bW:type_of% @Nat.le_succ_of_le:=@Nat.le_succ_of_le
theorem bX:type_of% @List.getElem?_set_ne:=@List.getElem?_set_ne
theorem bY:type_of% @Heap.get?_push_size:=@Heap.get?_push_size
theorem bZ:type_of% @List.cons.inj:=@List.cons.inj
theorem b0:type_of% @List.filter_sublist:=@List.filter_sublist
theorem b6:type_of% @List.mem_append_right:=@List.mem_append_right
theorem b7:type_of% @Int.ofNat_le:=@Int.ofNat_le
theorem b8:type_of% @Nat.lt_irrefl:=@Nat.lt_irrefl
theorem b9:type_of% @List.getElem?_inj:=@List.getElem?_inj
theorem ca:type_of% @beq_eq_false_iff_ne:=@beq_eq_false_iff_ne
theorem cb:type_of% @List.length_drop:=@List.length_drop
theorem cg:type_of% @List.getElem?_range:=@List.getElem?_range
theorem ch:type_of% @List.mem_range:=@List.mem_range
theorem ci:type_of% @List.take_append_drop:=@List.take_append_drop
theorem cj:type_of% @List.filter_cons:=@List.filter_cons
theorem ck:type_of% @beq_self_eq_true:=@beq_self_eq_true
theorem cm:type_of% @wpAny_loadPart_at:=@wpAny_loadPart_at
theorem cn:type_of% @List.range_succ:=@List.range_succ
theorem cq:type_of% @Int.toNat_natCast:=@Int.toNat_natCast
theorem cr:type_of% @Nat.min_le_left:=@Nat.min_le_left
theorem cu:type_of% @Nat.min_eq_left:=@Nat.min_eq_left
theorem cw:type_of% @List.getD_eq_getElem?_getD:=@List.getD_eq_getElem?_getD
theorem cx:type_of% @List.map_congr_left:=@List.map_congr_left
theorem cy:type_of% @Heap.get?_update_self:=@Heap.get?_update_self
theorem cz:type_of% @List.take_of_length_le:=@List.take_of_length_le
theorem cA:type_of% @List.mem_cons_of_mem:=@List.mem_cons_of_mem
theorem cB:type_of% @List.getElem?_eq_none:=@List.getElem?_eq_none
theorem cC:type_of% @List.filter_cons_of_neg:=@List.filter_cons_of_neg
theorem cD:type_of% @List.mem_of_mem_take:=@List.mem_of_mem_take
theorem cF:type_of% @Nat.pow_le_pow_right:=@Nat.pow_le_pow_right
theorem cG:type_of% @List.Nodup.length_le_of_subset:=@List.Nodup.length_le_of_subset
theorem cH:type_of% @Nat.eq_of_beq_eq_true:=@Nat.eq_of_beq_eq_true
theorem cI:type_of% @Nat.add_sub_cancel_left:=@Nat.add_sub_cancel_left
abbrev LN:=List Nat
abbrev LQ:=List Str
abbrev LJ:=List Int
abbrev LX:=List Expr
abbrev LU:=List Value
abbrev LZ:=List (Nat×Nat)
theorem dQ{p:Prop}[Decidable p](h:decide p=true:=by exact rfl):p:=aD h
noncomputable section
theorem cX{P:Prop}(h:false=true):P:=nomatch h
theorem I4{P:Prop}(h:true=false):P:=nomatch h
theorem cR{P:Prop}{α:Type _}{x:α}(h:none=some x):P:=nomatch h
theorem iP{P:Prop}{α:Type _}{x:α}(h:some x=none):P:=nomatch h
theorem wN{P:Prop}{α:Type _}{x:α}{l:List α}(h:[]=x::l):P:=nomatch h
theorem jE{P:Prop}{α:Type _}{x:α}{l:List α}(h:x::l=[]):P:=nomatch h
theorem dh{P:Prop}{α:Type _}{x:α}(h:x∈[]):P:=nomatch h
theorem WX{P:Prop}{n:Nat}(h:n<0):P:=nomatch h
theorem nA{P:Prop}{n:Nat}(h:0=n+1):P:=nomatch h
theorem uh{P:Prop}{n:Nat}(h:n+1=0):P:=nomatch h
inductive CV where
|Z8|none|bool (b:Bool)|int (i:Int)|str (s:Str)|ref (a:Nat)|other (v:Value)
noncomputable def cv:Value->CV
| .none=>.none
| .bool b=>.bool b
| .int i _=>.int i
| .str s _=>.str s
| .ref a=>.ref a
|v=>.other v
def me:Option Value->CV
| .none=>.Z8
| .some v=>cv v
inductive uq(i:Int):Value->Prop
|mk (t):uq i (.int i t)
inductive wZ(i:Str):Value->Prop
|mk (t):wZ i (.str i t)
def Dp(v:Value):CV->Prop
| .none=>v=.none
| .bool b=>v=.bool b
| .int i=>uq i v
| .str s=>wZ s v
| .ref a=>v=.ref a
| .other w=>v=w
| .Z8=>False
theorem MZ(v:Value):Dp v (cv v):=by cases v<;>first|rfl|exact .mk _
theorem rO{v:Value}{c:CV}(h:cv v=c):Dp v c:=h▸MZ v
theorem uU{v:Value}(h:cv v=.none):v=.none:=rO h
theorem uT{v:Value}{b}(h:cv v=.bool b):v=.bool b:=rO h
theorem fM{v:Value}{i}(h:cv v=.int i):uq i v:=rO h
theorem iH{v:Value}{i}(h:cv v=.str i):wZ i v:=rO h
theorem rN{v:Value}{a}(h:cv v=.ref a):v=.ref a:=rO h
noncomputable def iZ:List String:=["__init__","states","grammar","value","what","at","kind","text","worth","names","terminal_count","lefts","lengths","befores","defaults","numbers","state","terminal","way","rules","chosen","rows","gotos","conflicts","settled","mode","get","level_of","number","shifts","moves","looks","reductions","barred","token","expected","index","accepted","faults","tables","handler","most","lone","values","looked","count","answer","left","right","action","line","before","levels","expect","start","by_left","offsets","owners","item_count","kernel","symbol","items","firsts","item","closer","built","name","rule","children","outcome","told","explicit","append","settle_levels","row","extend","begin","lone_rule","terminal_of","note","length","act","go_on","reduce","goto","tell_fault","finish","insert","join","rule_of","after","close","number_of","pop","startswith","default","needs","step","shift","is_terminal","symbol_count","wanted","rules_of","added","dot_of","expand","is_leaf","is_clean","offer","look","is_consistent","place","settle_one","is_established","fail","leaves"]
def nm(n:Nat):Str:=Str.ofString (iZ.getD n "")
noncomputable def yK:List (Nat×List (Nat×Option Nat)):=[
 (117,[(6,none),(7,none),(5,none),(8,none),(0,some 100),(70,some 107)]),
 (250,[(16,none),(17,none),(18,none),(19,none),(20,none),(0,some 240),(70,some 247)]),
 (292,[(9,none),(10,none),(11,none),(12,none),(13,none),(14,none),(15,none),(2,none),(21,none),(22,none),(23,none),(24,none),(25,none),(0,some 268),(71,some 282),(84,some 289),(17,some 149),(47,some 156),(80,some 163),(51,some 170),(95,some 191),(49,some 205),(35,some 212),(110,some 219)]),
 (344,[(2,none),(28,none),(29,none),(22,none),(31,none),(33,none),(24,none),(0,some 315),(73,some 322),(112,some 329),(74,some 336),(23,some 341)]),
 (435,[(34,none),(16,none),(35,none),(36,none),(0,some 418),(70,some 425)]),
 (463,[(37,none),(3,none),(38,none),(30,none),(0,some 453),(107,some 460)]),
 (630,[(39,none),(40,none),(41,none),(42,none),(1,none),(43,none),(44,none),(45,none),(46,none),(3,none),(38,none),(30,none),(0,some 482),(76,some 489),(69,some 496),(108,some 517),(96,some 524),(109,some 531),(77,some 538),(78,some 545),(79,some 552),(111,some 559),(86,some 566),(97,some 573),(113,some 580),(98,some 587),(83,some 594),(81,some 601),(82,some 608),(35,some 615),(85,some 620),(114,some 627)]),
 (653,[(28,none),(47,none),(48,none),(27,none),(49,none),(50,none),(51,none),(0,some 650)]),
 (735,[(9,none),(10,none),(19,none),(52,none),(53,none),(54,none),(55,none),(56,none),(57,none),(58,none),(0,some 669),(100,some 676),(99,some 683),(28,some 697),(102,some 704),(63,some 711),(89,some 718),(104,some 725),(90,some 732)]),
 (803,[(28,none),(59,none),(60,none),(61,none),(30,none),(32,none),(0,some 786),(84,some 793),(110,some 800)]),
 (845,[(2,none),(62,none),(0,some 821),(101,some 828),(103,some 835),(91,some 842)]),
 (922,[(2,none),(1,none),(0,some 884),(84,some 891)]),
 (964,[(2,none),(64,none),(1,none),(15,none),(0,some 940),(92,some 947),(105,some 954),(65,some 961)]),
 (1037,[(66,none),(67,none),(68,none),(0,some 989),(106,some 996),(70,some 1010),(115,some 1015),(32,some 1020)]),
 (1072,[(66,none),(67,none),(68,none),(34,none),(0,some 1055),(106,some 1062),(70,some 1010),(115,some 1015),(32,some 1020)]),
 (1124,[(9,none),(0,some 1100),(98,some 1107),(83,some 1114)])]
def mt(K n:Nat):Option (Option Nat):=(yK.lookup K).bind λl=>l.lookup n
set_option genCtorIdx false in
inductive fh where
|list|tup|Z7 (ks:LJ)|Z4 (ks:LQ)|Z2 (ks:List LJ)|inst (C:Nat) (ns:LN)
structure fK where
t:fh
vs:List CV
noncomputable def fh.Z0:fh->Bool
| .inst ..=>true
|_=>false
noncomputable abbrev H:=Nat->Option fK
noncomputable def dR(σ:H)(a:Nat)(o:fK):H:=λb=>if b=a then some o else σ b
theorem iB(σ:H)(a:Nat)(o:fK):dR σ a o a=some o:=al rfl
theorem eU(σ:H){a b:Nat}(o:fK)(h:b≠a):dR σ a o b=σ b:=av h
theorem ez{α:Type}{x:Option α}{y:α}(h:x=none)(k:x=some y):False:=nomatch h.symm.trans k
theorem qX(σ:H){a b:Nat}(o:fK){x:fK}(hn:σ a=none)(h:σ b=some x):dR σ a o b=some x:=
 (eU σ o λe=>ez hn (e▸h)).trans h
inductive own(σ:H)(a:Nat):Prop
|at{o}:σ a=some o->own σ a
|dx {o}:σ (a+1)=some o->o.t.Z0=true->own σ a
inductive eV{β:Type}(P:β->Prop)(Q:List β->Prop):List β->Prop
|mk {b bs}:P b->Q bs->eV P Q (b::bs)
inductive ro{α β:Type}(R:α->β->Prop)(bs:List β)(i:Nat)(a:α):Prop
|mk {b}:bs[i]?=some b->R a b->ro R bs i a
def Rel2{α β:Type}(R:α->β->Prop)(as:List α):List β->Prop:=List.rec (motive:=λ_=>List β->Prop) (λbs=>bs=[]) (λa _ O bs=>eV (R a) O bs) as
section
variable{α β γ:Type}{R R':α->β->Prop}{as as':List α}{bs bs':List β}{a:α}{b:β}
theorem Rel2.nil:Rel2 R [] []:=rfl
theorem Rel2.cons(h:R a b)(k:Rel2 R as bs):Rel2 R (a::as) (b::bs):=⟨h,k⟩
theorem Rel2.hd(h:Rel2 R (a::as) (b::bs)):R a b:=by cases h with|mk h _=>exact h
theorem Rel2.tl(h:Rel2 R (a::as) (b::bs)):Rel2 R as bs:=by cases h with|mk _ h=>exact h
theorem Rel2.mono(k:∀a b,R a b->R' a b):∀{bs},Rel2 R as bs->Rel2 R' as bs:=by
 induction as with
 |nil=>exactλh=>h
 |cons a as O=>exactλh=>eV.casesOn h λx y=>⟨k _ _ x,O y⟩
theorem Rel2.len:∀{bs},Rel2 R as bs->bs.length=as.length:=by
 induction as with
 |nil=>exactλh=>h▸rfl
 |cons a as O=>exactλh=>eV.casesOn (motive:=λbs _=>bs.length=as.length+1) h λ_ y=>aj Nat.succ (O y)
theorem Rel2.get:∀{bs}{i:Nat},Rel2 R as bs->as[i]?=some a->ro R bs i a:=by
 induction as with
 |nil=>exactλ_ e=>nomatch e
 |cons x as O=>
  intro bs i h e
  refine eV.casesOn (motive:=λbs _=>ro R bs i a) h λU hr=>?_
  cases i with
  |zero=>exact⟨rfl,aq e▸U⟩
  |succ i=>exact(O hr e).casesOn λq r=>⟨q,r⟩
theorem Rel2.app(k:Rel2 R as' bs'):∀{bs},Rel2 R as bs->Rel2 R (as++as') (bs++bs'):=by
 induction as with
 |nil=>exactλh=>(show _=_ from h)▸k
 |cons a as O=>exactλh=>eV.casesOn (motive:=λbs _=>Rel2 R (a::(as++as')) (bs++bs')) h λx y=>⟨x,O y⟩
theorem Rel2.set(k:R a b):∀{bs}(i:Nat),Rel2 R as bs->Rel2 R (as.set i a) (bs.set i b):=by
 induction as with
 |nil=>exactλi h=>(show _=_ from h)▸rfl
 |cons x as O=>
  intro bs i h
  refine eV.casesOn (motive:=λbs _=>Rel2 R ((x::as).set i a) (bs.set i b)) h λU hr=>?_
  cases i with
  |zero=>exact⟨k,hr⟩
  |succ i=>exact⟨U,O i hr⟩
theorem Rel2.take(n:Nat):∀{as bs},Rel2 R as bs->Rel2 R (as.take n) (bs.take n):=by
 induction n with
 |zero=>exactλh=>rfl
 |succ n O=>
  intro as bs h
  cases as with
  |nil=>exact(show _=_ from h)▸rfl
  |cons a as=>exact eV.casesOn (motive:=λbs _=>Rel2 R ((a::as).take (n+1)) (bs.take (n+1))) h λx y=>⟨x,O y⟩
theorem Rel2.drop(n:Nat):∀{as bs},Rel2 R as bs->Rel2 R (as.drop n) (bs.drop n):=by
 induction n with
 |zero=>exactλh=>h
 |succ n O=>
  intro as bs h
  cases as with
  |nil=>exact(show _=_ from h)▸rfl
  |cons a as=>exact eV.casesOn (motive:=λbs _=>Rel2 R ((a::as).drop (n+1)) (bs.drop (n+1))) h λx y=>O y
theorem Rel2.rev:∀{bs},Rel2 R as bs->Rel2 R as.reverse bs.reverse:=by
 induction as with
 |nil=>exactλh=>(show _=_ from h)▸rfl
 |cons a as O=>exactλh=>eV.casesOn (motive:=λbs _=>Rel2 R (a::as).reverse bs.reverse) h λx y=>by rw[List.reverse_cons,List.reverse_cons];exact Rel2.app (Rel2.cons x .nil) (O y)
theorem Rel2.rep(h:R a b):∀n,Rel2 R (List.replicate n a) (List.replicate n b)
|0=>rfl
|n+1=>⟨h,Rel2.rep h n⟩
theorem Rel2.map{f:γ->α}{l:List γ}:∀{bs},Rel2 (λx=>R (f x)) l bs->Rel2 R (l.map f) bs:=by
 induction l with
 |nil=>exactλh=>h
 |cons a as O=>exactλh=>eV.casesOn (motive:=λbs _=>Rel2 R (f a::as.map f) bs) h λx y=>⟨x,O y⟩
end
inductive pz(n:Nat)(Q:List DictEntry->List CV->Prop):List DictEntry->List CV->Prop
|mk {h t v es vs}:Q es vs->pz n Q (⟨h,.str (nm n) t,v⟩::es) (cv v::vs)
def lD(es:List DictEntry)(ns:LN)(vs:List CV):Prop:=List.rec (motive:=λ_=>List DictEntry->List CV->Prop) (λes vs=>es=[]/\vs=[]) (λn _ O es vs=>pz n O es vs) ns es vs
structure PW where
prog:Program
w:World
section
variable(P:PW)
inductive IsL(h:Heap)(a:Nat):List CV->Prop
|mk {items:Array Value}:h.PlainList a items->items.size<=2^25->IsL h a (items.toList.map cv)
inductive IsT(h:Heap)(a:Nat):List CV->Prop
|mk {items:Array Value}:IsTup h a items->items.size<=2^25->IsT h a (items.toList.map cv)
inductive iC(h:Heap)(a:Nat):LJ->List CV->Prop
|mk {kvs:List (Int×Value)}:h.DictAt (intKind P.prog P.w) a kvs kvs.length->iC h a (kvs.map (·.1)) (kvs.map λx=>cv x.2)
inductive jH(h:Heap)(a:Nat):LQ->List CV->Prop
|mk {kvs:List (Str×Value)}:h.DictOf (PySem.strKind P.prog P.w) a kvs->jH h a (kvs.map (·.1)) (kvs.map λx=>cv x.2)
inductive jI(h:Heap)(a:Nat):List LJ->List CV->Prop
|mk {kvs:List (LJ×Addr×Value)}:h.DictOfH (tupleKind (intKind P.prog P.w)) a kvs->jI h a (kvs.map (·.1)) (kvs.map λx=>cv x.2.2)
inductive jz(h:Heap)(C:Nat)(ns:LN)(vs:List CV):Nat->Prop
|mk {dx es n}:h.get? (dx+1)=some (instObj C dx)->h.get? dx=some (PySem.W.dictOf es n)->lD es ns vs->ns.Nodup->(∀n∈ns,n<iZ.length)->es.length<=1000->jz h C ns vs (dx+1)
def jK(h:Heap)(a:Nat)(o:fK):Prop:=match o.t with
| .list=>IsL h a o.vs
| .tup=>IsT h a o.vs
| .Z7 ks=>iC P h a ks o.vs
| .Z4 ks=>jH P h a ks o.vs
| .Z2 ks=>jI P h a ks o.vs
| .inst C ns=>jz h C ns o.vs a
structure dY(base h:Heap)(σ:H):Prop where
at_:∀a o,σ a=some o->jK P h a o
new:∀a,own σ a->base.get? a=none
apart:∀a o,σ (a+1)=some o->o.t.Z0=true->σ a=none
end
def nR(h h':Heap):Prop:=∀t x items n,h.get? t=some x->x.cls=.type "tuple"->x.data=.seq items n->h'.get? t=some x
section
variable{P:PW}{base h h':Heap}{σ:H}
noncomputable def AA:Data->Bool
| .cell _=>true
| .fields _=>true
|_=>false
inductive pN(h:Heap)(a:Nat):Prop
|mk {x}:h.get? a=some x->AA x.data=false->pN h a
theorem pN.dat{a:Nat}{x:Obj}{d:Data}(e:h.get? a=some x)(q:x.data=d)(n:AA d=false):pN h a:=⟨e,q▸n⟩
theorem jK.there{a:Nat}{o:fK}(r:jK P h a o):pN h a:=by
 obtain ⟨t,vs⟩:=o
 cases t with
 |list=>exact IsL.casesOn (motive:=λ_ _=>_) r λx _=>x.elim λ_ q=>⟨q,rfl⟩
 |tup=>exact IsT.casesOn (motive:=λ_ _=>_) r λx _=>x.elim λ_ y=>y.2.2.elim λ_ e=>.dat y.1 e rfl
 |Z7 ks=>exact iC.casesOn (motive:=λ_ _ _=>_) r λx=>x.elim λ_ x=>x.elim λ_ y=>.dat y.1 y.2.2.1 rfl
 |Z4 ks=>exact jH.casesOn (motive:=λ_ _ _=>_) r λx=>x.elim λ_ x=>x.elim λ_ x=>x.elim λ_ y=>.dat y.1 y.2.2.1 rfl
 |Z2 ks=>exact jI.casesOn (motive:=λ_ _ _=>_) r λx=>x.elim λ_ x=>x.elim λ_ x=>x.elim λ_ y=>.dat y.1 y.2.2.1 rfl
 |inst C ns=>exact jz.casesOn (motive:=λa _=>pN h a) r λq _ _ _ _ _=>⟨q,rfl⟩
theorem jz.dict{C:Nat}{ns:LN}{vs:List CV}{a:Nat}(r:jz h C ns vs (a+1)):∃es n,h.get? a=some (PySem.W.dictOf es n):=by
 generalize e:a+1=b at r
 exact r.casesOn (motive:=λb _=>a+1=b->_) (λ_ q _ _ _ _ e=>⟨_,_,bO e▸q⟩) e
theorem OI{o:fK}{a:Nat}(r:jK P h a o)(i:o.t.Z0=true):∃C ns,jz h C ns o.vs a:=by
 obtain ⟨t,vs⟩:=o
 cases t with
 |inst C ns=>exact⟨C,ns,r⟩
 |_=>cases i
theorem dY.dict(R:dY P base h σ){a:Nat}{o:fK}(e:σ (a+1)=some o)(i:o.t.Z0=true):∃es n,h.get? a=some (PySem.W.dictOf es n):=
 let⟨_,_,r⟩:=OI (R.at_ _ _ e) i;r.dict
theorem dY.Y1(R:dY P base h σ){a:Nat}(o:own σ a):pN h a:=
 o.casesOn (λq=>(R.at_ _ _ q).there) λq i=>(R.dict q i).elim λ_ x=>x.elim λ_ e=>⟨e,rfl⟩
theorem dY.lt(R:dY P base h σ){a:Nat}(o:own σ a):a<h.objs.size:=(R.Y1 o).casesOn λe _=>bD e
theorem dY.Y6(R:dY P base h σ){c:Nat}{o:Obj}(hc:h.get? c=some o)(hd:AA o.data=true)(q:own σ c):False:=
 (R.Y1 q).casesOn λe n=>by cases e.symm.trans hc;exact nomatch n.symm.trans hd
theorem dY.fresh(R:dY P base h σ){a:Nat}(o:h.objs.size<=a):σ a=none:=by
 cases q:σ a with
 |none=>rfl
 |some x=>exact absurd (R.lt (.at q)) (Nat.not_lt.mpr o)
theorem dY.ZJ(R:dY P base h σ){a:Nat}(o:h.objs.size<=a):¬own σ a:=λq=>absurd (R.lt q) (Nat.not_lt.mpr o)
theorem jK.mono{a:Nat}{o:fK}(r:jK P h a o)(k1:∀x,h.get? a=some x->h'.get? a=some x)(k2:o.t.Z0=true->∀dx x,a=dx+1->h.get? dx=some x->h'.get? dx=some x)(k3:nR h h'):jK P h' a o:=by
 obtain ⟨t,vs⟩:=o
 cases t with
 |list=>exact IsL.casesOn (motive:=λvs _=>IsL h' a vs) r λx z=>⟨x.imp λ_=>k1 _,z⟩
 |tup=>exact IsT.casesOn (motive:=λvs _=>IsT h' a vs) r λx z=>⟨x.imp λ_=>.imp_left (k1 _),z⟩
 |Z7 ks=>exact iC.casesOn (motive:=λks vs _=>iC P h' a ks vs) r λx=>⟨x.imp λ_=>.imp λ_=>.imp_left (k1 _)⟩
 |Z4 ks=>exact jH.casesOn (motive:=λks vs _=>jH P h' a ks vs) r λx=>⟨x.imp λ_=>.imp λ_=>.imp λ_=>.imp_left (k1 _)⟩
 |Z2 ks=>exact jI.casesOn (motive:=λks vs _=>jI P h' a ks vs) r λx=>⟨x.imp λ_=>.imp λ_=>.imp λ_=>.imp (k1 _) (.imp_right (.imp_right (.imp_right (.imp_left λg x U=>
  (g x U).imp λ_=>.imp λ_=>.imp λ_ q=>⟨k3 _ _ _ _ q.1 q.2.1 q.2.2.1,q.2⟩))))⟩
 |inst C ns=>exact jz.casesOn (motive:=λa _=>(∀x,h.get? a=some x->h'.get? a=some x)->(true=true->∀dx x,a=dx+1->h.get? dx=some x->h'.get? dx=some x)->jz h' C ns vs a) r (λq1 q2 O q4 q5 q6 k1 k2=>⟨k1 _ q1,k2 rfl _ _ rfl q2,O,q4,q5,q6⟩) k1 k2
theorem dY.mono(R:dY P base h σ)(k:∀a x,own σ a->h.get? a=some x->h'.get? a=some x)(k3:nR h h'):dY P base h' σ:=
 ⟨λa o e=>(R.at_ a o e).mono (λx=>k a x (.at e)) (λi dx x O=>k dx x (.dx (O▸e) i)) k3,R.new,R.apart⟩
theorem dY.keeps(R:dY P base h σ)(k:∀b o,h.get? b=some o->h'.get? b=some o):dY P base h' σ:=
 R.mono (λa x _=>k a x) λt x _ _ q _ _=>k t x q
theorem nR.but{L:Nat}{x:Obj}(hs:Heap.SameBut L h h')(O:h.get? L=some x)(U:∀items n,x.cls=.type "tuple"->x.data=.seq items n->False):nR h h':=λt y items n q c d=>
 (hs.2 t λe=>by subst e;cases O.symm.trans q;exact U _ _ c d).trans q
theorem AH{a b:Nat}{o o':fK}(hs:σ a=some o)(hi:o'.t.Z0=true->o.t.Z0=true)(O:own (dR σ a o') b):own σ b:=by
 cases O with
 |«at» q=>
  by_cases e:b=a
  ·exact .at (e▸hs)
  ·exact .at ((eU _ _ e).symm.trans q)
 |dx q i=>
  by_cases e:b+1=a
  ·subst e
   cases (iB _ _ _).symm.trans q
   exact .dx hs (hi i)
  ·exact .dx ((eU _ _ e).symm.trans q) i
theorem dY.update{a L:Nat}{o o':fK}{x:Obj}(R:dY P base h σ)(U:σ a=some o)(hi:o'.t.Z0=true->o.t.Z0=true)(hL:L=a∨(L+1=a/\o.t.Z0=true))(hn:o.t.Z0=false->L=a->True)
 (hs:Heap.SameBut L h h') (hx:h.get? L=some x) (hT:∀items n,x.cls=.type "tuple"->x.data=.seq items n->False) (ho':jK P h' a o') (hl:L=a->o.t.Z0=false):dY P base h' (dR σ a o'):=by
 have k3:=nR.but hs hx hT
 refine⟨λb y hb=>?_,λb hb=>R.new b (AH U hi hb),λb y hb i=>?_⟩
 ·by_cases e:b=a
  ·subst e;cases (iB _ _ _).symm.trans hb;exact ho'
  ·have hb:=(eU _ _ e).symm.trans hb
   refine(R.at_ b y hb).mono (λz q=>(hs.2 b λO=>?_).trans q) (λi dx z ed q=>(hs.2 dx λO=>?_).trans q) k3
   ·subst O
    rcases hL with O|⟨O,i⟩
    ·exact e O
    ·exact ez (R.apart b o (O▸U) i) hb
   ·subst O
    rcases hL with O|⟨O,_⟩
    ·exact ez (R.apart dx y (ed▸hb) i) (O▸U)
    ·exact e (ed.trans O)
 ·by_cases e:b+1=a
  ·subst e
   cases (iB _ _ _).symm.trans hb
   exact(eU _ _ (bz (bP b))).trans (R.apart b o U (hi i))
  ·have hb:=(eU _ _ e).symm.trans hb
   have hn':=R.apart b y hb i
   exact(eU _ _ λO=>ez hn' (O▸U)).trans hn'
def jc(h:Heap)(a:Nat):Prop:=∀(b:Nat)(y:Obj),h.get? b=some y->b<a
theorem jc.size(h:Heap):jc h h.objs.size:=λb y q=>bD q
theorem jc.none{a b:Nat}(f:jc h a)(hb:a<=b):h.get? b=none:=by
 cases q:h.get? b with
 |none=>rfl
 |some x=>exact absurd (f b x q) (Nat.not_lt.mpr hb)
theorem dY.Zw(R:dY P base h σ){a b:Nat}(f:jc h a)(hb:a<=b):σ b=none:=by
 cases q:σ b with
 |none=>rfl
 |some x=>exact(R.at_ b x q).there.casesOn λe _=>(ez (f.none hb) e).elim
theorem qK{a b:Nat}{o:fK}(O:own (dR σ a o) b):own σ b∨b=a∨(b+1=a/\o.t.Z0=true):=by
 cases O with
 |«at» q=>
  by_cases e:b=a
  ·exact .inr (.inl e)
  ·exact .inl (.at ((eU _ _ e).symm.trans q))
 |dx q i=>
  by_cases e:b+1=a
  ·subst e
   cases (iB _ _ _).symm.trans q
   exact .inr (.inr ⟨rfl,i⟩)
  ·exact .inl (.dx ((eU _ _ e).symm.trans q) i)
theorem dY.alloc{a dx:Nat}{o:fK}(R:dY P base h σ)(ha:jc h dx)(hd:a=dx∨(a=dx+1))(hi:o.t.Z0=true->a=dx+1)(hb:base.StaysIn h)
 (k:∀b x,h.get? b=some x->h'.get? b=some x) (ho:jK P h' a o):dY P base h' (dR σ a o):=by
 have R':=R.keeps k
 have U:dx<=a:=hd.elim (λe=>e▸ao _) λe=>e▸aU _
 have hnb:∀b:Nat,dx<=b->base.get? b=Option.none:=λb O=>by
  cases q:base.get? b with
  |none=>rfl
  |some x=>exact(ez (ha.none O) (hb b x q)).elim
 refine⟨λb x O=>?_,λb O=>?_,λb y O i=>?_⟩
 ·by_cases e:b=a
  ·subst e;cases (iB _ _ _).symm.trans O;exact ho
  ·exact R'.at_ b x ((eU _ _ e).symm.trans O)
 ·rcases qK O with q|q|⟨q,i⟩
  ·exact R.new b q
  ·exact hnb b (q▸U)
  ·exact hnb b (bn (bO ((hi i).symm.trans q.symm)))
 ·by_cases e:b+1=a
  ·subst e
   cases (iB _ _ _).symm.trans O
   exact(eU _ _ (bz (bP b))).trans (R.Zw ha (bn (bO (hi i)).symm))
  ·have O:=(eU _ _ e).symm.trans O
   refine(eU _ _ λe2=>?_).trans (R.apart b y O i)
   exact ez (R.Zw ha (bW (e2▸U))) O
end
inductive w2(B:Heap)(σ':H)(h':Heap)(a:Nat)(o:Obj):Prop
|mk (sl):h'.get? a=some {o with slots:=sl}->(((B.get? a).isSome=true∨∀es n,o.data≠.dict es n)->sl=o.slots)->¬own σ' a->w2 B σ' h' a o
def eD(B:Heap)(σ:H)(h:Heap)(σ':H)(h':Heap):Prop:=∀a o,h.get? a=some o->¬own σ a->w2 B σ' h' a o
section
variable{B:Heap}{σ σ' σ₁ σ₂:H}{h h' h₁ h₂:Heap}{a:Nat}{o:Obj}
theorem eD.exact(k:∀a o,h.get? a=some o->¬own σ a->h'.get? a=some o/\¬own σ' a):eD B σ h σ' h':=
 λa o e n=>⟨o.slots,(k a o e n).1,λ_=>rfl,(k a o e n).2⟩
theorem eD.refl(B:Heap)(σ:H)(h:Heap):eD B σ h σ h:=.exact λ_ _ e n=>⟨e,n⟩
theorem eD.trans(x:eD B σ h σ₁ h₁)(y:eD B σ₁ h₁ σ₂ h₂):eD B σ h σ₂ h₂:=λa o e n=>
 (x a o e n).casesOn λsl U q1 n1=>(y a _ U n1).casesOn λO e2 q2 n2=>⟨O,e2,λc=>(q2 c).trans (q1 c),n2⟩
theorem eD.same(k:∀b o,h.get? b=some o->h'.get? b=some o):eD B σ h σ h':=.exact λa o e n=>⟨k a o e,n⟩
theorem eD.at(k:eD B σ h σ' h')(e:h.get? a=some o)(n:¬own σ a)(c:(B.get? a).isSome=true∨∀es n,o.data≠.dict es n):h'.get? a=some o:=
 (k a o e n).casesOn λsl U q1 _=>U.trans (by rw[q1 c])
theorem eD.slots(k:eD B σ h σ' h')(e:h.get? a=some o)(n:¬own σ a):∃sl,h'.get? a=some {o with slots:=sl}:=
 (k a o e n).casesOn λsl U _ _=>⟨sl,U⟩
theorem eD.ZX(k:eD B σ h σ' h')(e:h.get? a=some o)(n:¬own σ a):¬own σ' a:=(k a o e n).casesOn λ_ _ _ n=>n
end
inductive BI where
 |len|list|tuple|sorted|abs|int|str
 deriving DecidableEq
inductive GV where
 |no|bo (b:Bool)|nu (i:Int)|tx (s:Str)|fn (a:Nat)|cls (a:Nat)|bi (b:BI)|range|enumerate|reversed|pe|ZI
 deriving DecidableEq
structure SC where
names:LQ
gl:List (Str×GV)
gtab:Str->Option GV
pen:Option Nat
cells:LQ
structure B3(K:Frag)(Kc n:Nat)(r:Option Nat):Prop where
plain:plainGet K Kc (nm n)=true
dict:hasDictIn K Kc=true
find:findIn K (.ref Kc) (nm n)=some (r.map .ref)
fn:∀f,r=some f->isFn K (.ref f)=true
keep:∀f,r=some f->keepIn K (.ref f)=true
lt:n<iZ.length
structure B4(K:Frag)(Kc n:Nat):Prop where
set:findIn K (.ref Kc) "__setattr__"=some (some (.builtin "object.__setattr__"))
over:plainOver K Kc=true
YE:takerIn K Kc (nm n)=some none
noncomputable def wg:LQ:=["$end","error","$undefined"]
structure Gd extends PW where
C:Nat
K:Frag
base:Heap
mg:Str->Option Value
mb:Str->Option Value
X:K.In base
g:base.Ns mainGlobals mg
b:base.Ns builtinsNs mb
nolimit:base.NoLimit
sys:(base.get? sysModules).isSome=true
cls:∀Kc n r,mt Kc n=some r->B3 K Kc n r
set:∀Kc n,mt Kc n=some none->B4 K Kc n
new:∀Kc f,mt Kc 0=some (some f)->makesIn K Kc=true
sa:Nat
sv:Array Value
ZS:LJ
sl:base.IsList sa sv
si:IntsAre sv.toList ZS
sz:ZS.length<=63
oa:Nat
ov:Array Value
ot:IsTup base oa ov
os:ov.toList.map cv=wg.map .str
def yf(G:Gd):GV->Value->Prop
| .no,v=>cv v=.none
| .bo b,v=>cv v=.bool b
| .nu i,v=>cv v=.int i
| .tx s,v=>cv v=.str s
| .fn a,v=>v=.ref a/\keepIn G.K (.ref a)=true
| .cls a,v=>v=.ref a/\keepIn G.K (.ref a)=true
| .pe,v=>v=.ref G.C
| .ZI,v=>v=.ref G.oa
|_,_=>False
noncomputable def rJ:BI->Value
| .len=>.builtin "len"
| .list=>.type "list"
| .tuple=>.type "tuple"
| .sorted=>.builtin "sorted"
| .abs=>.builtin "abs"
| .int=>.type "int"
| .str=>.type "str"
def vc:GV->Option Value
| .bi b=>some (rJ b)
| .range=>some (.type "range")
| .enumerate=>some (.type "enumerate")
| .reversed=>some (.type "reversed")
|_=>none
inductive pA(G:Gd)(x:Str)(g:GV):Prop
|gl {v}:G.mg x=some v->yf G g v->pA G x g
|bi {v}:G.mg x=none->G.mb x=some v->vc g=some v->pA G x g
structure lL(d:Nat)(A:Around):Prop where
depth:A.depth+4*d<recursionLimit
units:A.units+20*d+100<cLine
inductive wR(σ:H)(h:Heap)(L:Nat):Prop
|mk {o es n}:¬own σ L->h.get? L=some o->o.data=.dict es n->wR σ h L
structure nG(base:Heap)(σ:H)(h:Heap)(l:List Env):Prop where
ff:h.FunFrames base l
out:∀env∈l,∀L:Nat,env.frame=some L->wR σ h L
structure c8(G:Gd)(qh:Bool)(d:Nat)(A:Around)(σ:H)(h:Heap):Prop where
room:lL d A
hd:qh=true->A.handled=none
l0:∃l,A.frames=some l
fr:∀l,A.frames=some l->nG G.base σ h l
st:G.base.StaysIn h
rep:dY G.toPW G.base h σ
theorem NX{base h h':Heap}{l:List Env}(x:h.FunFrames base l)(k:∀env∈l,∀L,env.frame=some L->∀o,h.get? L=some o->(∀vs,o.data≠.fields vs)->∃o',h'.get? L=some o'/\∀vs,o'.data≠.fields vs):h'.FunFrames base l:=by
 induction l with
 |nil=>exact trivial
 |cons env l ih=>
  obtain ⟨hk,⟨L,o,hf,hn,ho,hd⟩,hr⟩:=x
  obtain ⟨o',O,U⟩:=k env (.head _) L hf o ho hd
  exact⟨hk,⟨L,o',hf,hn,O,U⟩,ih hr λe he=>k e (.tail _ he)⟩
theorem Gs{o:Obj}{es n}{vs:Array Value}(h:o.data=.dict es n)(q:o.data=.fields vs):False:=nomatch h.symm.trans q
section
variable{G:Gd}{qh:Bool}{d:Nat}{A:Around}{σ σ':H}{h h':Heap}
theorem lL.YY(r:lL d A):A.units+100<cLine:=aX (bf (aW _ _) _) r.units
theorem lL.Zh(r:lL d A):A.depth<recursionLimit:=aX (aW _ _) r.depth
theorem c8.nolimit(a:c8 G qh d A σ h):h.NoLimit:=G.nolimit.keeps a.st
theorem c8.K(a:c8 G qh d A σ h):G.K.In h:=G.X.keeps a.st
theorem nG.step{base:Heap}{l:List Env}(f:nG base σ h l)(k:∀env∈l,∀L o,env.frame=some L->h.get? L=some o->∀es n,o.data=.dict es n->∃o' es n,h'.get? L=some o'/\o'.data=.dict es n/\¬own σ' L):nG base σ' h' l:=by
 refine⟨NX f.ff λenv he L hL o ho hd=>?_,λenv he L hL=>?_⟩
 ·refine(f.out env he L hL).casesOn λn O U=>?_
  obtain ⟨o',es,n,q1,q2,_⟩:=k env he L _ hL O _ _ U
  exact⟨o',q1,λvs q=>Gs q2 q⟩
 ·refine(f.out env he L hL).casesOn λn O U=>?_
  obtain ⟨o',es,n,q1,q2,q3⟩:=k env he L _ hL O _ _ U
  exact⟨q3,q1,q2⟩
theorem nG.keep{base B:Heap}{l:List Env}(f:nG base σ h l)(k:eD B σ h σ' h'):nG base σ' h' l:=f.step λenv he L o O U es n hd=>
 (f.out env he L O).casesOn λno _ _=>(k L o U no).casesOn λsl e _ n1=>⟨_,es,n,e,hd,n1⟩
theorem c8.step(a:c8 G qh d A σ h)(k:eD G.base σ h σ' h')(r:dY G.toPW G.base h' σ'):c8 G qh d A σ' h':=
 ⟨a.room,a.hd,a.l0,λl hl=>(a.fr l hl).keep k,λb o O=>k.at (a.st b o O) (λob=>ez (a.rep.new b ob) O) (.inl (O▸rfl)),r⟩
end
inductive BK(env:Env)(h:Heap)(x:Str)(r:CV):Prop
|loc {m}:env.kindOf x=some .local->h.Ns env.locals m->me (m x)=r->BK env h x r
|cell {c o v}:env.kindOf x=some .cell∨env.kindOf x=some .free->env.cells.lookup x=some c->h.get? c=some o->o.data=.cell v->me v=r->BK env h x r
structure pq(env:Env):Prop where
kind:env.scope.kind=.function
globals:env.globals=mainGlobals
builtins:env.builtins=builtinsNs
inductive B2(base:Heap)(σ:H)(h:Heap)(c:Nat):Prop
|mk {o v}:¬own σ c->base.get? c=none->h.get? c=some o->o.data=.cell v->B2 base σ h c
structure d5(base:Heap)(env:Env)(names:LQ)(h:Heap)(σ:H)(ρ:List CV):Prop where
len:names.length=ρ.length
var:∀(i:Nat)(x:Str)(r:CV),names[i]?=some x->ρ[i]?=some r->BK env h x r
ns:∃m,h.Ns env.locals m
ZX:¬own σ env.locals
nb:base.get? env.locals=none
ZP:∀x c,env.kindOf x=some .cell->env.cells.lookup x=some c->B2 base σ h c
Zy:∀x y c,env.cells.lookup x=some c->env.cells.lookup y=some c->x=y
nodup:names.Nodup
plain:∀x∈names,(x==("__classdict__":Str))=false/\(x==("__debug__":Str))=false
section
variable{base:Heap}{env:Env}{names:LQ}{h h':Heap}{σ σ':H}{ρ:List CV}
theorem d5.to(F:d5 base env names h σ ρ)(U:∀m,h.Ns env.locals m->h'.Ns env.locals m)(no:¬own σ' env.locals)
 (hc:∀x c o v,env.cells.lookup x=some c->h.get? c=some o->o.data=.cell v->∃o',h'.get? c=some o'/\o'.data=.cell v)
 (hno:∀x c,env.kindOf x=some .cell->env.cells.lookup x=some c->¬own σ' c):d5 base env names h' σ' ρ:=
 ⟨F.len,λi x r hx hr=>(F.var i x r hx hr).casesOn (λh1 O h3=>.loc h1 (U _ O) h3) λh1 O h3 h4 h5=>let⟨_,q1,q2⟩:=hc _ _ _ _ O h3 h4;.cell h1 O q1 q2 h5,F.ns.imp U,no,F.nb,
  λx c hk hl=>(F.ZP x c hk hl).casesOn λ_ O h3 h4=>let⟨_,q1,q2⟩:=hc _ _ _ _ hl h3 h4;⟨hno x c hk hl,O,q1,q2⟩,F.Zy,F.nodup,F.plain⟩
theorem Mk{o:Obj}{v}(h:o.data=.cell v)(es n)(q:o.data=.dict es n):False:=nomatch h.symm.trans q
theorem d5.keep{B:Heap}(F:d5 base env names h σ ρ)(k:eD B σ h σ' h')(O:∀c o v,h.get? c=some o->o.data=.cell v->¬own σ c):d5 base env names h' σ' ρ:=
 F.to (λm ⟨o,es,ep,ho,r⟩=>let⟨_,e⟩:=k.slots ho F.ZX;⟨_,es,ep,e,r⟩) (let⟨m,o,es,ep,ho,_⟩:=F.ns;k.ZX ho F.ZX)
  (λx c o v _ U h4=>⟨o,k.at U (O c o v U h4) (.inr (Mk h4)),h4⟩) λx c hk hl=>(F.ZP x c hk hl).casesOn λh1 _ U _=>k.ZX U h1
theorem d5.on{G:Gd}{qh d A}(F:d5 G.base env names h σ ρ)(a:c8 G qh d A σ h)(k:eD G.base σ h σ' h'):d5 G.base env names h' σ' ρ:=
 F.keep k λc o v O hd=>a.rep.Y6 O (hd▸rfl)
end
def ur(base:Heap)(l:List Env)(σ:H)(h:Heap)(σ':H)(B:Heap):Prop:=
 ∀a o,h.get? a=some o->¬own σ a->(∀env∈l,env.frame≠some a)->w2 base σ' B a o
inductive Cg(σ':H)(h':Heap)(a:Nat)(o:Obj):Prop
|mk (sl):h'.get? a=some {o with slots:=sl}->¬own σ' a->Cg σ' h' a o
def nM(l:List Env)(σ:H)(h:Heap)(σ':H)(h':Heap):Prop:=
 ∀env∈l,∀L o,env.frame=some L->h.get? L=some o->¬own σ L->Cg σ' h' L o
structure jd(G:Gd)(l:List Env)(σ:H)(h:Heap)(σ':H)(B h':Heap):Prop where
rep:dY G.toPW G.base B σ'
st:G.base.StaysIn B
kept:ur G.base l σ h σ' B
fr:nM l σ h σ' h'
structure Fx(s s':Shared):Prop where
os:s'.os=s.os
gens:s'.gens=s.gens
theorem Fx.refl(s:Shared):Fx s s:=⟨rfl,rfl⟩
theorem Fx.trans{s s₁ s₂:Shared}(x:Fx s s₁)(y:Fx s₁ s₂):Fx s s₂:=⟨y.os.trans x.os,y.gens.trans x.gens⟩
inductive eF(G:Gd)(A:Around)(X:H->Prop)(σ:H)(s:Shared)(s':Shared):Value->Prop
|mk {σ' B ea a0 l}:A.frames=some l->Heap.FlyingW B l ea (.ref G.C) a0 s'.heap->jd G l σ s.heap σ' B s'.heap->Fx s s'->X σ'->eF G A X σ s s' (.ref ea)
structure St(G:Gd)(σ:H)(s:Shared)(σ':H)(s':Shared):Prop where
rep:dY G.toPW G.base s'.heap σ'
keep:eD G.base σ s.heap σ' s'.heap
fx:Fx s s'
inductive e8{α:Type}(G:Gd)(σ:H)(s:Shared)(Q:α->H->Prop)(v:α)(s':Shared):Prop
|mk {σ'}:St G σ s σ' s'->Q v σ'->e8 G σ s Q v s'
structure Fc where
env:Env
S:SC
k:Nat
qh:Bool
section
variable(G:Gd)(F:Fc)
def Tr{α:Type}(ρ:List CV)(σ:H)(t:Sem α)(Q:α->H->Prop)(X:H->Prop):Prop:=
 ∀A s,c8 G F.qh (F.k+1) A σ s.heap->d5 G.base F.env F.S.names s.heap σ ρ->wpAny (model G.prog G.w) A t (e8 G σ s Q) (λe s'=>eF G A X σ s s' e) s
inductive w9(G:Gd)(A:Around)(σ:H)(s:Shared)(Q:CV->H->Prop)(X:H->Prop):Result->Shared->Prop
|ret {v s' σ'}:St G σ s σ' s'->Q (cv v) σ'->w9 G A σ s Q X (.ok (.ret v)) s'
|exc {e s'}:eF G A X σ s s' e->w9 G A σ s Q X (.error e) s'
def jZ(d:Nat)(f:Value)(args:List CV)(σ:H)(Q:CV->H->Prop)(X:H->Prop):Prop:=
 ∀A s vals,c8 G true d A σ s.heap->vals.map cv=args->codeAny (model G.prog G.w) A (.call f ⟨vals,[]⟩) (w9 G A σ s Q X) s
end
section
variable{G:Gd}{F:Fc}{α β:Type}{ρ:List CV}{σ σ₁:H}{X X':H->Prop}{s s₁ s':Shared}{A:Around}{e:Value}
theorem St.refl(r:dY G.toPW G.base s.heap σ):St G σ s σ s:=⟨r,.refl _ _ _,.refl _⟩
theorem St.trans{σ₂:H}{s₂:Shared}(x:St G σ s σ₁ s₁)(y:St G σ₁ s₁ σ₂ s₂):St G σ s σ₂ s₂:=⟨y.rep,x.keep.trans y.keep,x.fx.trans y.fx⟩
theorem c8.on{qh d}(a:c8 G qh d A σ s.heap)(x:St G σ s σ₁ s₁):c8 G qh d A σ₁ s₁.heap:=a.step x.keep x.rep
theorem ur.before{base:Heap}{l:List Env}{σ':H}{h h₁ B:Heap}(k:eD base σ h σ₁ h₁)(x:ur base l σ₁ h₁ σ' B):ur base l σ h σ' B:=λa o e n f=>
 (k a o e n).casesOn λsl U q1 n1=>(x a _ U n1 f).casesOn λO e2 q2 n2=>⟨O,e2,λc=>(q2 c).trans (q1 c),n2⟩
theorem nM.before{base:Heap}{l:List Env}{σ':H}{h h₁ h':Heap}(k:eD base σ h σ₁ h₁)(x:nM l σ₁ h₁ σ' h'):nM l σ h σ' h':=λenv he L o U e n=>
 (k L o e n).casesOn λsl e1 _ n1=>(x env he L _ U e1 n1).casesOn λO e2 n2=>⟨O,e2,n2⟩
theorem jd.before{l:List Env}{σ':H}{h h₁ B h':Heap}(k:eD G.base σ h σ₁ h₁)(x:jd G l σ₁ h₁ σ' B h'):jd G l σ h σ' B h':=⟨x.rep,x.st,x.kept.before k,x.fr.before k⟩
theorem eF.mono(k:St G σ s σ₁ s₁)(x:eF G A X σ₁ s₁ s' e):eF G A X σ s s' e:=x.casesOn λhl O S fx U=>⟨hl,O,S.before k.keep,k.fx.trans fx,U⟩
theorem eF.imp(q:∀σ',X σ'->X' σ')(x:eF G A X σ s s' e):eF G A X' σ s s' e:=x.casesOn λhl O S fx U=>⟨hl,O,S,fx,q _ U⟩
theorem e8.mono{Q O:α->H->Prop}{v:α}(x:e8 G σ s Q v s')(q:∀σ',Q v σ'->O v σ'):e8 G σ s O v s':=x.casesOn λst h=>⟨st,q _ h⟩
theorem e8.pre{Q:α->H->Prop}{v:α}(k:St G σ s σ₁ s₁)(x:e8 G σ₁ s₁ Q v s'):e8 G σ s Q v s':=x.casesOn λst h=>⟨k.trans st,h⟩
theorem Tr.pure{v:α}{Q:α->H->Prop}(h:Q v σ):Tr G F ρ σ (pure v) Q X:=λ_ s a _=>aw ⟨.refl a.rep,h⟩
theorem Tr.imp{t:Sem α}{Q O:α->H->Prop}(h:Tr G F ρ σ t Q X)(U:∀v σ',Q v σ'->O v σ')(hx:∀σ',X σ'->X' σ'):Tr G F ρ σ t O X':=
 λA s a f=>az (h A s a f) (λv s' x=>x.mono (U v)) λ_ _ x=>x.imp hx
theorem Tr.mono{t:Sem α}{Q O:α->H->Prop}(h:Tr G F ρ σ t Q X)(U:∀v σ',Q v σ'->O v σ'):Tr G F ρ σ t O X:=h.imp U λ_ x=>x
theorem Tr.bind{t:Sem α}{g:α->Sem β}{R:α->H->Prop}{Q:β->H->Prop}(h:Tr G F ρ σ t R X)(k:∀v σ₁,R v σ₁->Tr G F ρ σ₁ (g v) Q X):Tr G F ρ σ (t>>=g) Q X:=
 λA s a f=>ah (az (h A s a f) (λv s₁ x=>x.casesOn λst q=>
  az (k v _ q A s₁ (a.on st) (f.on a st.keep)) (λu O y=>y.pre st) λe O x=>x.mono st) λ_ _ x=>x)
theorem Tr.holding{vs:LU}{t:Sem α}{Q:α->H->Prop}(h:Tr G F ρ σ t Q X):Tr G F ρ σ (holding vs t) Q X:=λA s a f=>aY (h A s a f)
theorem Tr.operate{vs:LU}{m:Sem Value}{Q:Value->H->Prop}(h:Tr G F ρ σ m Q X):Tr G F ρ σ (operate vs m) Q X:=λA s a f=>wpAny_operateT (h A s a f)
theorem Tr.standAt{pos:Pos}{g:Unit->Sem β}{Q:β->H->Prop}(h:Tr G F ρ σ (g ()) Q X):Tr G F ρ σ (standAt pos>>=g) Q X:=λA s a f=>ah (bG (h A s a f))
theorem Tr.letGo{e:Expr}{o r:Value}{g:Unit->Sem β}{Q:β->H->Prop}(h:Tr G F ρ σ (g ()) Q X):Tr G F ρ σ (letTemporaryGo e o r>>=g) Q X:=λA s a f=>ah (wpAny_letTemporaryGo (h A s a f))
theorem Tr.release{vs keep:LU}{g:Unit->Sem β}{Q:β->H->Prop}(h:Tr G F ρ σ (g ()) Q X):Tr G F ρ σ (release vs keep>>=g) Q X:=λA s a f=>ah (wpAny_release (h A s a f))
inductive pL(Q:α->Prop)(s:Shared)(v:α)(s':Shared):Prop
|mk:s'.heap=s.heap->s'.os=s.os->s'.gens=s.gens->Q v->pL Q s v s'
theorem Tr.same{t:Sem α}{Q:α->H->Prop}(h:∀A s,c8 G F.qh (F.k+1) A σ s.heap->d5 G.base F.env F.S.names s.heap σ ρ->wpAny (model G.prog G.w) A t (pL (λv=>Q v σ) s) (λe s'=>eF G A X σ s s' e) s):Tr G F ρ σ t Q X:=
 λA s a f=>az (h A s a f) (λv s' x=>x.casesOn λU O e3 q=>⟨⟨U▸a.rep,U▸.refl _ _ _,O,e3⟩,q⟩) λ_ _ x=>x
end
set_option genCtorIdx false in
inductive D where
|none|bool (b:Bool)|int (i:Int)|str (s:Str)
|con (t:fh) (ds:List D)
|raw (a:Nat)
abbrev LD:=List D
noncomputable abbrev D.list(ds:LD):D:=.con .list ds
noncomputable abbrev D.tup(ds:LD):D:=.con .tup ds
noncomputable abbrev D.Z7(ks:LJ)(ds:LD):D:=.con (.Z7 ks) ds
noncomputable abbrev D.Z4(ks:LQ)(ds:LD):D:=.con (.Z4 ks) ds
noncomputable abbrev D.Z2(ks:List LJ)(ds:LD):D:=.con (.Z2 ks) ds
noncomputable abbrev D.inst(K:Nat)(ns:LN)(ds:LD):D:=.con (.inst K ns) ds
def fh.wf(n:Nat):fh->Prop
| .Z7 ks=>ks.length=n
| .Z4 ks=>ks.length=n
| .Z2 ks=>ks.length=n
| .inst _ ns=>ns.length=n
|_=>True
inductive pC(σ:H)(t:fh)(n:Nat)(Q:List CV->Prop):CV->Prop
|mk {a vs}:σ a=some ⟨t,vs⟩->t.wf n->Q vs->pC σ t n Q (.ref a)
def dp(σ:H)(d:D):CV->Prop:=D.rec (motive_1:=λ_=>CV->Prop) (motive_2:=λ_=>List CV->Prop) (λv=>v=.none) (λb v=>v=.bool b) (λi v=>v=.int i) (λs v=>v=.str s)
 (λt ds O v=>pC σ t ds.length O v) (λa v=>v=.ref a) (λvs=>vs=[]) (λ_ _ p q vs=>eV p q vs) d
theorem Ol(σ:H)(ds:LD):(D.rec_1 (motive_1:=λ_=>CV->Prop) (motive_2:=λ_=>List CV->Prop) (λv=>v=.none) (λb v=>v=.bool b) (λi v=>v=.int i) (λs v=>v=.str s)
 (λt ds O v=>pC σ t ds.length O v) (λa v=>v=.ref a) (λvs=>vs=[]) (λ_ _ p q vs=>eV p q vs) ds:List CV->Prop)=Rel2 (dp σ) ds:=by
 induction ds with
 |nil=>rfl
 |cons d ds O=>exact aj (eV (dp σ d)) O
theorem Ew(σ:H)(t:fh)(ds:LD):dp σ (.con t ds)=pC σ t ds.length (Rel2 (dp σ) ds):=aj (pC σ t ds.length) (Ol σ ds)
theorem dp.con{σ:H}{t:fh}{ds:LD}{c:CV}(h:dp σ (.con t ds) c):pC σ t ds.length (Rel2 (dp σ) ds) c:=Ew σ t ds▸h
theorem dp.Zt{σ:H}{t:fh}{ds:LD}{a:Nat}{vs:List CV}(e:σ a=some ⟨t,vs⟩)(w:t.wf ds.length)(h:Rel2 (dp σ) ds vs):dp σ (.con t ds) (.ref a):=Ew σ t ds▸⟨e,w,h⟩
abbrev dW(σ:H)(ds:LD)(vs:List CV):Prop:=Rel2 (dp σ) ds vs
def fv(σ σ':H):Prop:=∀a o,σ a=some o->σ' a=some o
theorem fv.refl(σ:H):fv σ σ:=λ_ _ h=>h
theorem fv.trans{σ σ' O:H}(x:fv σ σ')(y:fv σ' O):fv σ O:=λa o h=>y a o (x a o h)
theorem fv.alloc{σ:H}{c:Nat}(h:σ c=none)(o:fK):fv σ (dR σ c o):=λa x q=>qX σ o h q
theorem dp.mono{σ σ':H}(x:fv σ σ'){d:D}{v:CV}:dp σ d v->dp σ' d v:=by
 refine D.rec (motive_1:=λd=>∀v,dp σ d v->dp σ' d v) (motive_2:=λds=>∀vs,Rel2 (dp σ) ds vs->Rel2 (dp σ') ds vs) (λ_ h=>h) (λ_ _ h=>h) (λ_ _ h=>h) (λ_ _ h=>h) (λt ds O v h=>?_) (λ_ _ h=>h) (λ_ h=>h) (λd ds p q vs h=>?_) d _
 ·exact h.con.casesOn λe w r=>.Zt (x _ _ e) w (O _ r)
 ·exact eV.casesOn h λa b=>⟨p _ a,q _ b⟩
theorem dW.mono{σ σ':H}(x:fv σ σ'){ds:LD}{vs:List CV}(h:dW σ ds vs):dW σ' ds vs:=Rel2.mono (λ_ _=>dp.mono x) h
theorem dp.ne{σ:H}{d:D}{v:CV}(h:dp σ d v)(e:v=.Z8):False:=by
 subst e
 cases d with
 |con t ds=>generalize q:CV.Z8=c at h;exact h.con.casesOn (motive:=λc _=>CV.Z8=c->False) (λ_ _ _ q=>nomatch q) q
 |_=>exact nomatch h
inductive cJ where
|sh (d:D)|own (j:Nat)
abbrev LV:=List cJ
set_option genCtorIdx false in
inductive Ob where
|Z3 (d:D)|list (vs:LV)|tup (vs:LV)|Z7 (es:List (Int×cJ))|Z4 (es:List (Str×cJ))|Z2 (es:List (LJ×cJ))|inst (K:Nat) (fs:List (Nat×cJ))
abbrev LB:=List Ob
abbrev XT:=List Ob->Prop
abbrev KT:=cJ->XT
noncomputable def Ob.tag:Ob->fh
| .Z7 es=>.Z7 (es.map (·.1))
| .Z4 es=>.Z4 (es.map (·.1))
| .Z2 es=>.Z2 (es.map (·.1))
| .inst K es=>.inst K (es.map (·.1))
| .tup _=>.tup
|_=>.list
noncomputable def Ob.vals:Ob->LV
| .list vs=>vs
| .tup vs=>vs
| .Z7 es=>es.map (·.2)
| .Z4 es=>es.map (·.2)
| .Z2 es=>es.map (·.2)
| .inst _ es=>es.map (·.2)
| .Z3 _=>[]
noncomputable def Ob.ZY:Ob->Option D
| .Z3 d=>some d
|_=>none
theorem Ob.wf(ob:Ob):ob.tag.wf ob.vals.length:=by
 cases ob with
 |list=>exact trivial
 |tup=>exact trivial
 |Z3=>exact trivial
 |_=>exact(ag _).trans (ag _).symm
theorem Ob.YS{ob:Ob}{d:D}(h:ob.ZY=some d):ob=.Z3 d:=by
 cases ob with
 |Z3=>cases h;rfl
 |_=>exact cR h
noncomputable def Az(vs:LV):fh->Ob
| .list=>.list vs
| .tup=>.tup vs
| .Z7 ks=>.Z7 (ks.zip vs)
| .Z4 ks=>.Z4 (ks.zip vs)
| .Z2 ks=>.Z2 (ks.zip vs)
| .inst K ns=>.inst K (ns.zip vs)
theorem RT{t:fh}{vs:LV}(w:t.wf vs.length):(Az vs t).tag=t/\(Az vs t).vals=vs:=by
 have a:∀{K:Type}{ks:List K},ks.length=vs.length->(ks.zip vs).map (·.1)=ks:=λh=>List.map_fst_zip (bn h)
 have b:∀{K:Type}{ks:List K},ks.length=vs.length->(ks.zip vs).map (·.2)=vs:=λh=>List.map_snd_zip (bn h.symm)
 cases t with
 |list=>exact⟨rfl,rfl⟩
 |tup=>exact⟨rfl,rfl⟩
 |inst K ns=>exact⟨aj (fh.inst K) (a w),b w⟩
 |Z7 ks=>exact⟨aj fh.Z7 (a w),b w⟩
 |Z4 ks=>exact⟨aj fh.Z4 (a w),b w⟩
 |Z2 ks=>exact⟨aj fh.Z2 (a w),b w⟩
structure Pt where
as:LN
μ:H
σ:H
inductive iF(as:LN)(j:Nat):CV->Prop
|mk {a}:as[j]?=some a->iF as j (.ref a)
def cM(p:Pt):cJ->CV->Prop
| .sh d=>dp p.μ d
| .own j=>iF p.as j
inductive w4(p:Pt)(a:Nat)(ob:Ob):Prop
|mk {cs}:p.μ a=none->p.σ a=some ⟨ob.tag,cs⟩->Rel2 (cM p) ob.vals cs->w4 p a ob
inductive mc(p:Pt)(a:Nat)(ob:Ob):Prop
|Z3 {d}:ob.ZY=some d->(p.μ a).isSome=true->dp p.μ d (.ref a)->mc p a ob
|live:ob.ZY=none->w4 p a ob->mc p a ob
structure c5(p:Pt)(M:LB):Prop where
sub:fv p.μ p.σ
nodup:p.as.Nodup
len:p.as.length=M.length
ob:∀(j c:Nat)(ob:Ob),p.as[j]?=some c->M[j]?=some ob->mc p c ob
structure Gr(p q:Pt):Prop where
mu:fv p.μ q.μ
keep:∀a o,a∉p.as->p.σ a=some o->q.σ a=some o
ZL:∀a,q.σ a=none->p.σ a=none
new:∀a,(q.μ a).isSome=true->(p.μ a).isSome=true∨p.σ a=none∨a∈p.as
ZC:∃ns,q.as=p.as++ns/\∀a∈ns,p.σ a=none
section
variable{p q r:Pt}{M:LB}
theorem cM.up(x:fv p.μ q.μ)(e:∀j a:Nat,p.as[j]?=some a->q.as[j]?=some a){v:cJ}{c:CV}(h:cM p v c):cM q v c:=by
 cases v with
 |sh d=>exact dp.mono x h
 |own j=>exact iF.casesOn h λa=>⟨e _ _ a⟩
theorem lO{α:Type}{l m:List α}{j:Nat}{a:α}(h:l[j]?=some a):(l++m)[j]?=some a:=(bg (aO.mp h).1).trans h
theorem Gr.at(g:Gr p q){j a:Nat}(h:p.as[j]?=some a):q.as[j]?=some a:=g.ZC.elim λ_ e=>e.1▸lO h
theorem cM.gr(g:Gr p q){v:cJ}{c:CV}(h:cM p v c):cM q v c:=h.up g.mu λ_ _=>g.at
theorem valRs.gr(g:Gr p q){vs:LV}{cs:List CV}(h:Rel2 (cM p) vs cs):Rel2 (cM q) vs cs:=Rel2.mono (λ_ _=>cM.gr g) h
theorem cM.ne{v:cJ}{c:CV}(h:cM p v c)(e:c=.Z8):False:=by
 cases v with
 |sh d=>exact dp.ne h e
 |own j=>exact iF.casesOn (motive:=λc _=>c=.Z8->False) h (λ_ e=>nomatch e) e
theorem Gr.refl(p:Pt):Gr p p:=⟨.refl _,λ_ _ _ h=>h,λ_ h=>h,λ_ h=>.inl h,[],(aS _).symm,λ_ h=>dh h⟩
theorem Gr.trans(x:Gr p q)(y:Gr q r):Gr p r:=by
 obtain ⟨ns,U,n1⟩:=x.ZC
 obtain ⟨ms,e2,n2⟩:=y.ZC
 have out:∀a,a∈q.as->a∈p.as∨p.σ a=none:=λa h=>(aI.mp (U▸h)).imp_right (n1 a)
 exact⟨x.mu.trans y.mu,λa o h O=>y.keep a o (λq=>(out a q).elim h λe=>ez e O) (x.keep a o h O),λa h=>x.ZL a (y.ZL a h),
  λa h=>(y.new a h).elim (x.new a) λh=>h.elim (λh=>.inr (.inl (x.ZL a h))) λh=>.inr (out a h).symm,
  ns++ms,e2.trans (U▸aP _ _ _),λa h=>(aI.mp h).elim (n1 a) λh=>x.ZL a (n2 a h)⟩
theorem c5.nil(st:c5 p M){c:Nat}(h:p.σ c=none):p.μ c=none:=by
 cases q:p.μ c with
 |none=>rfl
 |some x=>exact(ez h (st.sub c x q)).elim
theorem c5.has(st:c5 p M){c:Nat}(h:c∈p.as)(e:p.σ c=none):False:=by
 obtain ⟨j,O,q⟩:=bp.mp h
 have hm:=aC (st.len▸O)
 refine(st.ob j c _ ((aC O).trans (aj _ q)) hm).casesOn (λ_ i _=>?_) λ_ l=>l.casesOn λ_ s _=>ez e s
 exact cX ((st.nil e▸i:(none:Option fK).isSome=true))
theorem mc.up(x:fv p.μ q.μ)(e:∀j a:Nat,p.as[j]?=some a->q.as[j]?=some a){c:Nat}(hm:p.μ c=none->q.μ c=none)(hs:∀o,p.σ c=some o->q.σ c=some o){ob:Ob}(h:mc p c ob):mc q c ob:=by
 refine h.casesOn (λf s d=>.Z3 f ?_ (d.mono x)) λf l=>.live f (l.casesOn λn s r=>⟨hm n,hs _ s,r.mono λ_ _=>cM.up x e⟩)
 exact(Option.isSome_iff_exists.mp s).elim λo h=>((x _ _ h)▸rfl)
theorem c5.share(st:c5 p M){c:Nat}(o:fK)(h:p.σ c=none):c5 ⟨p.as,dR p.μ c o,dR p.σ c o⟩ M/\Gr p ⟨p.as,dR p.μ c o,dR p.σ c o⟩:=by
 have nx:=fv.alloc (st.nil h) o
 have ne:∀{a x},p.σ a=some x->a≠c:=λq e=>ez h (e▸q)
 refine⟨⟨λa x q=>?_,st.nodup,st.len,λj a ob O hb=>(st.ob j a ob O hb).up (p:=p) (q:=⟨p.as,dR p.μ c o,dR p.σ c o⟩) nx (λ_ _ h=>h) (λn=>(eU _ _ λe=>?_).trans n) λx=>qX _ _ h⟩,nx,λa x _=>qX _ _ h,λa q=>?_,λa q=>?_,[],(aS _).symm,λ_ h=>dh h⟩
 ·by_cases e:a=c
  ·subst e;exact(iB _ _ _).trans ((iB _ _ _).symm.trans q)
  ·exact(eU _ _ e).trans (st.sub a x ((eU _ _ e).symm.trans q))
 ·exact st.has (ax O) (e▸h)
 ·by_cases e:a=c
  ·exact e▸h
  ·exact(eU _ _ e).symm.trans q
 ·by_cases e:a=c
  ·exact .inr (.inl (e▸h))
  ·exact .inl ((eU p.μ _ e).symm▸q)
theorem N3{α:Type}{l:List α}{x:α}{j:Nat}{y:α}(h:(l++[x])[j]?=some y):l[j]?=some y∨(j=l.length/\y=x):=by
 by_cases e:j<l.length
 ·exact .inl ((bg e).symm.trans h)
 ·have h:=(ba (Nat.le_of_not_lt e)).symm.trans h
  cases q:j-l.length with
  |zero=>rw[q] at h;exact .inr ⟨Nat.le_antisymm (Nat.le_of_sub_eq_zero q) (Nat.le_of_not_lt e),(aq h).symm⟩
  |succ n=>rw[q] at h;exact cR h
theorem tW{α:Type}(l:List α)(x:α):(l++[x])[l.length]?=some x:=List.getElem?_concat_length
theorem c5.Y2(st:c5 p M){c:Nat}{cs:List CV}{ob:Ob}(h:p.σ c=none)(l:ob.ZY=none)(ho:Rel2 (cM p) ob.vals cs):
 c5 ⟨p.as++[c],p.μ,dR p.σ c ⟨ob.tag,cs⟩⟩ (M++[ob])/\Gr p ⟨p.as++[c],p.μ,dR p.σ c ⟨ob.tag,cs⟩⟩:=by
 refine⟨⟨λa x q=>qX _ _ h (st.sub a x q),?_,?_,λj a O U hb=>?_⟩,.refl _,λa x _=>qX _ _ h,λa q=>?_,λa q=>.inl q,[c],rfl,λa q=>aF.mp q▸h⟩
 ·exact bH.mpr ⟨st.nodup,List.pairwise_singleton _ c,λa U b hb e=>st.has U (e.trans (aF.mp hb)▸h)⟩
 ·rw[ak,ak,st.len];rfl
 ·rcases N3 U with q|⟨q,e⟩
  ·have hb:=(bg (st.len▸(aO.mp q).1)).symm.trans hb
   exact(st.ob j a O q hb).up (p:=p) (q:=⟨p.as++[c],p.μ,dR p.σ c ⟨ob.tag,cs⟩⟩) (.refl _) (λ_ _=>lO) (λn=>n) λx=>qX _ _ h
  ·subst q e
   rw[st.len] at hb
   cases (tW M ob).symm.trans hb
   exact .live l ⟨st.nil h,iB _ _ _,ho.mono λ_ _=>cM.up (p:=p) (q:=⟨p.as++[a],p.μ,dR p.σ a ⟨ob.tag,cs⟩⟩) (.refl _) λ_ _=>lO⟩
 ·by_cases e:a=c
  ·exact e▸h
  ·exact(eU _ _ e).symm.trans q
theorem c5.live(st:c5 p M){j c:Nat}{ob:Ob}(O:p.as[j]?=some c)(hm:M[j]?=some ob)(l:ob.ZY=none):w4 p c ob:=
 (st.ob j c ob O hm).casesOn (λf _ _=>(ez l f).elim) λ_ x=>x
theorem c5.inj(st:c5 p M){i j c:Nat}(hi:p.as[i]?=some c)(O:p.as[j]?=some c):i=j:=(b9 (aO.mp hi).1 st.nodup).mp (hi.trans O.symm)
theorem c5.put(st:c5 p M){j c:Nat}{cs:List CV}{ob ob':Ob}(O:p.as[j]?=some c)(hm:M[j]?=some ob)(l:ob.ZY=none)(l':ob'.ZY=none)(ho:Rel2 (cM p) ob'.vals cs):
 c5 ⟨p.as,p.μ,dR p.σ c ⟨ob'.tag,cs⟩⟩ (M.set j ob')/\Gr p ⟨p.as,p.μ,dR p.σ c ⟨ob'.tag,cs⟩⟩:=by
 refine(st.live O hm l).casesOn λh1 h2 _=>⟨⟨λa x q=>(eU _ _ λe=>ez h1 (e▸q)).trans (st.sub a x q),st.nodup,st.len.trans (bc ..).symm,λk a U ha hb=>?_⟩,.refl _,
  λa x hn q=>(eU _ _ λe:a=c=>hn (e▸ax O)).trans q,λa q=>?_,λa q=>.inl q,[],(aS _).symm,λ_ h=>dh h⟩
 ·by_cases e:k=j
  ·subst e
   cases O.symm.trans ha
   cases (bd (aO.mp hm).1).symm.trans hb
   exact .live l' ⟨h1,iB _ _ _,ho⟩
  ·have hb:=(bX (Ne.symm e)).symm.trans hb
   exact(st.ob k a U ha hb).up (p:=p) (q:=⟨p.as,p.μ,dR p.σ c ⟨ob'.tag,cs⟩⟩) (.refl _) (λ_ _ h=>h) (λn=>n) λx=>(eU _ _ λq:a=c=>e (st.inj ha (q▸O))).trans
 ·by_cases e:a=c
  ·subst e;exact(ez q (iB _ _ _)).elim
  ·exact(eU _ _ e).symm.trans q
def iI(M:LB):cJ->Option D
| .sh d=>some d
| .own j=>(M[j]?).bind Ob.ZY
noncomputable def data(M:LB):LV->Option LD
|[]=>some []
|v::r=>(iI M v).bind λd=>(data M r).map λds=>d::ds
def fR(M:LB)(ob:Ob):Option D:=match ob.ZY with
|some d=>some d
|none=>(data M ob.vals).map (.con ob.tag)
def c7(M:LB):cJ->Option D
| .sh d=>some d
| .own j=>(M[j]?).bind (fR M)
def qY:D->Option Ob
| .con t ds=>some (Az (ds.map .sh) t)
|_=>none
def view(M:LB):cJ->Option Ob
| .sh d=>qY d
| .own j=>(M[j]?).bind λob=>match ob.ZY with
 |some d=>qY d
 |none=>some ob
theorem oB{α β:Type}{o:Option α}{f:α->Option β}{b:β}(h:o.bind f=some b):∃a,o=some a/\f a=some b:=Option.bind_eq_some_iff.mp h
theorem oM{α β:Type}{o:Option α}{f:α->β}{b:β}(h:o.map f=some b):∃a,o=some a/\f a=b:=Option.map_eq_some_iff.mp h
inductive wX(p:Pt)(ob:Ob):CV->Prop
|mk {a cs}:p.σ a=some ⟨ob.tag,cs⟩->Rel2 (cM p) ob.vals cs->wX p ob (.ref a)
variable(st:c5 p M)
include st
theorem mK{v:cJ}{d:D}{c:CV}(h:iI M v=some d)(r:cM p v c):dp p.μ d c:=by
 cases v with
 |sh e=>cases h;exact r
 |own j=>
  obtain ⟨ob,U,O⟩:=oB h
  exact iF.casesOn r λha=>(st.ob j _ ob ha U).casesOn (λf _ h=>aq (f.symm.trans O)▸h) λf _=>(ez f O).elim
theorem uV{vs:LV}:∀{ds:LD}{cs:List CV},data M vs=some ds->Rel2 (cM p) vs cs->dW p.μ ds cs:=by
 induction vs with
 |nil=>intro ds cs h r;cases h;exact r
 |cons v vs U=>
  intro ds cs h r
  obtain ⟨d,h1,h2⟩:=oB h
  obtain ⟨O,h3,rfl⟩:=oM h2
  exact eV.casesOn (motive:=λcs _=>dW p.μ (d::O) cs) r λa b=>⟨mK st h1 a,U h3 b⟩
omit st in
theorem M4{vs:LV}:∀{ds:LD},data M vs=some ds->vs.length=ds.length:=by
 induction vs with
 |nil=>intro ds h;cases h;rfl
 |cons v vs O=>
  intro ds h
  obtain ⟨d,h1,U⟩:=oB h
  obtain ⟨ds',h3,rfl⟩:=oM U
  exact aj Nat.succ (O h3)
theorem GK{c:Nat}{ob:Ob}{d:D}{cs:List CV}(h:fR M ob=some d)(l:ob.ZY=none)(r:Rel2 (cM p) ob.vals cs){σ':H}(x:fv p.μ σ')(O:σ' c=some ⟨ob.tag,cs⟩):dp σ' d (.ref c):=by
 unfold fR at h
 rw[l] at h
 obtain ⟨ds,U,rfl⟩:=oM h
 exact .Zt O (M4 U▸ob.wf) ((uV st U r).mono x)
theorem xP{v:cJ}{d:D}{c:CV}(h:c7 M v=some d)(r:cM p v c):dp p.σ d c:=by
 cases v with
 |sh e=>cases h;exact dp.mono st.sub r
 |own j=>
  obtain ⟨ob,U,O⟩:=oB h
  refine iF.casesOn r λha=>(st.ob j _ ob ha U).casesOn (λf _ h=>?_) λf l=>l.casesOn λ_ s r=>GK st O f r st.sub s
  unfold fR at O
  rw[f] at O
  cases O;exact h.mono st.sub
theorem IS{d:D}{ob:Ob}{c:CV}(h:qY d=some ob)(r:dp p.μ d c):wX p ob c:=by
 cases d with
 |con t ds=>
  cases h
  refine r.con.casesOn λe w r=>?_
  obtain ⟨U,O⟩:=RT (t:=t) (vs:=ds.map .sh) ((ag _).symm▸w)
  exact⟨(st.sub _ _ e).trans (by rw[U]),by rw[O];exact Rel2.map r⟩
 |_=>exact cR h
theorem Ww{v:cJ}{ob:Ob}{c:CV}(h:view M v=some ob)(r:cM p v c):wX p ob c:=by
 cases v with
 |sh d=>exact IS st h r
 |own j=>
  obtain ⟨U,h1,O⟩:=oB h
  refine iF.casesOn r λha=>(st.ob j _ U ha h1).casesOn (λf _ h=>?_) λf l=>?_
  ·rw[f] at O;exact IS st O h
  ·rw[f] at O;cases O;exact l.casesOn λ_ s r=>⟨s,r⟩
theorem c5.freeze{j:Nat}{ob:Ob}{d:D}(hm:M[j]?=some ob)(hd:fR M ob=some d):∃U,c5 ⟨p.as,U,p.σ⟩ (M.set j (.Z3 d))/\Gr p ⟨p.as,U,p.σ⟩:=by
 have O:=(aO.mp hm).1
 cases l:ob.ZY with
 |some d'=>
  unfold fR at hd
  rw[l] at hd
  cases hd
  cases ob.YS l
  refine⟨p.μ,?_,.refl _⟩
  rw[show M.set j (.Z3 d)=M from(aO.mp hm).2▸List.set_getElem_self O]
  exact st
 |none=>
  obtain ⟨c,hj⟩:∃c,p.as[j]?=some c:=⟨_,aC (st.len.symm▸O)⟩
  refine(st.live hj hm l).casesOn λ{cs}h1 h2 h3=>?_
  have nx:=fv.alloc h1 ⟨ob.tag,cs⟩
  refine⟨dR p.μ c ⟨ob.tag,cs⟩,⟨λa x q=>?_,st.nodup,st.len.trans (bc ..).symm,λk a ob2 ha hb=>?_⟩,nx,λa x _ q=>q,λa q=>q,λa q=>?_,[],(aS _).symm,λ_ h=>dh h⟩
  ·by_cases e:a=c
   ·subst e;exact h2.trans ((iB _ _ _).symm.trans q)
   ·exact st.sub a x ((eU _ _ e).symm.trans q)
  ·by_cases e:k=j
   ·subst e
    cases hj.symm.trans ha
    cases (bd O).symm.trans hb
    exact .Z3 rfl (aj Option.isSome (iB p.μ c _)) (GK st hd l h3 nx (iB _ _ _))
   ·have hb:=(bX (Ne.symm e)).symm.trans hb
    exact(st.ob k a ob2 ha hb).up (p:=p) (q:=⟨p.as,dR p.μ c ⟨ob.tag,cs⟩,p.σ⟩) nx (λ_ _ h=>h) (λn=>(eU _ _ λq:a=c=>e (st.inj ha (q▸hj))).trans n) λx h=>h
  ·by_cases e:a=c
   ·exact .inr (.inr (e▸ax hj))
   ·exact .inl ((eU p.μ _ e).symm▸q)
end
noncomputable def mx:Nat:=2^24-1
theorem iu{n:Nat}(h:n<=mx):n<=sizeLine:=ae h dQ
theorem vK{n:Nat}(h:n<=mx):n<=2^25:=ae h dQ
theorem FI{n:Nat}(h:n<=mx):(n:Int)<2^63:=Int.lt_of_le_of_lt (b7.mpr h) dQ
inductive Got{α β:Type}(R:Pt->β->α->Prop)(p:Pt)(K:β->XT)(v:α)(σ':H):Prop
|mk {x M as μ}:Gr p ⟨as,μ,σ'⟩->c5 ⟨as,μ,σ'⟩ M->R ⟨as,μ,σ'⟩ x v->K x M->Got R p K v σ'
inductive dk(p:Pt)(X:XT)(σ':H):Prop
|mk {M as μ}:Gr p ⟨as,μ,σ'⟩->c5 ⟨as,μ,σ'⟩ M->X M->dk p X σ'
def RV(p:Pt)(x:cJ)(v:Value):Prop:=cM p x (cv v)
def RB(_:Pt)(x v:Bool):Prop:=x=v
def iY(ds:LD)(M:LB)(K:KT):Prop:=K (.sh (.list ds)) M∨K (.own M.length) (M++[.list (ds.map .sh)])
def gI(vs:LV)(M:LB)(K:KT):Prop:=(∃ds,data M vs=some ds/\K (.sh (.list ds)) M)∨K (.own M.length) (M++[.list vs])
section
variable{α β:Type}{R:Pt->β->α->Prop}{p q:Pt}{K:β->XT}{v:α}{x:β}{M:LB}{σ':H}{X:XT}
theorem Got.here(st:c5 p M)(r:R p x v)(k:K x M):Got R p K v p.σ:=⟨.refl _,st,r,k⟩
theorem Got.pre(g:Gr p q)(y:Got R q K v σ'):Got R p K v σ':=y.casesOn λO st r k=>⟨g.trans O,st,r,k⟩
theorem dk.pre(g:Gr p q)(y:dk q X σ'):dk p X σ':=y.casesOn λO st k=>⟨g.trans O,st,k⟩
end
section
variable{p:Pt}{M:LB}(st:c5 p M){K:KT}{c:Nat}
include st
theorem kA{d:D}{v:Value}(h:dp p.μ d (cv v))(k:K (.sh d) M):Got RV p K v p.σ:=.here (x:=.sh d) st h k
theorem Oa{d:D}{o:fK}(hc:p.σ c=none)(r:dp (dR p.μ c o) d (.ref c))(k:K (.sh d) M):Got RV p K (.ref c) (dR p.σ c o):=let⟨s,g⟩:=st.share o hc;.mk (x:=.sh d) g s r k
theorem u9{ob:Ob}{cs:List CV}(hc:p.σ c=none)(l:ob.ZY=none)(r:Rel2 (cM p) ob.vals cs)(k:K (.own M.length) (M++[ob])):Got RV p K (.ref c) (dR p.σ c ⟨ob.tag,cs⟩):=
 let⟨s,g⟩:=st.Y2 hc l r;.mk (x:=.own M.length) g s ⟨(st.len▸tW _ _)⟩ k
theorem oq{t:fh}{ds:LD}{cs:List CV}(hc:p.σ c=none)(w:t.wf ds.length)(r:dW p.μ ds cs)(k:K (.sh (.con t ds)) M):Got RV p K (.ref c) (dR p.σ c ⟨t,cs⟩):=
 Oa st hc (.Zt (iB _ _ _) w (r.mono (.alloc (st.nil hc) _))) k
theorem qd{ds:LD}{cs:List CV}(hc:p.σ c=none)(r:dW p.μ ds cs)(h:iY ds M K):Got RV p K (.ref c) (dR p.σ c ⟨.list,cs⟩):=
 h.elim (oq st hc trivial r) (u9 (ob:=.list _) st hc rfl (Rel2.map r))
theorem xZ{vs:LV}{cs:List CV}(hc:p.σ c=none)(r:Rel2 (cM p) vs cs)(h:gI vs M K):Got RV p K (.ref c) (dR p.σ c ⟨.list,cs⟩):=
 h.elim (λ⟨ds,e,k⟩=>oq st hc trivial (uV st e r) k) (u9 (ob:=.list _) st hc rfl r)
end
section
variable{G:Gd}{qh:Bool}{d:Nat}{A:Around}{σ:H}{s s':Shared}
theorem c8.made(a:c8 G qh d A σ s.heap){B:Nat}{x:fK}(k:∀b o,s.heap.get? b=some o->s'.heap.get? b=some o)(O:jc s.heap B)(hi:x.t.Z0=false)(U:jK G.toPW s'.heap B x)(fx:Fx s s'):
 St G σ s (dR σ B x) s':=
 ⟨a.rep.alloc O (.inl rfl) (λi=>cX (hi.symm.trans i)) a.st k U,.exact λb y hb nb=>⟨k b y hb,λq=>(qK q).elim nb λq=>q.elim (λe=>b8 _ (e▸O b y hb)) λq=>cX (hi.symm.trans q.2)⟩,fx⟩
theorem c8.upd(a:c8 G qh d A σ s.heap){b:Nat}{o o':fK}{x:Obj}(U:σ b=some o)(hi:o.t.Z0=false)(O:o'.t.Z0=false)(hx:s.heap.get? b=some x)(hT:∀items n,x.cls=.type "tuple"->x.data=.seq items n->False)
 (hs:Heap.SameBut b s.heap s'.heap) (ho':jK G.toPW s'.heap b o') (fx:Fx s s'):St G σ s (dR σ b o') s':=
 ⟨a.rep.update U (λi=>cX (O.symm.trans i)) (.inl rfl) (λ_ _=>trivial) hs hx hT ho' λ_=>hi,.exact λc y hb nb=>⟨(hs.2 c λe=>nb (.at (e▸U))).trans hb,λq=>nb (AH U (λi=>cX (O.symm.trans i)) q)⟩,fx⟩
theorem c8.list(a:c8 G qh d A σ s.heap){B:Nat}{items:Array Value}(k:∀b o,s.heap.get? b=some o->s'.heap.get? b=some o)(O:jc s.heap B)(hp:s'.heap.PlainList B items)(hz:items.size<=mx)(fx:Fx s s'):
 St G σ s (Mine.Internal.dR σ B ⟨.list,items.toList.map cv⟩) s':=a.made k O rfl (IsL.mk hp (vK hz)) fx
theorem c8.tup(a:c8 G qh d A σ s.heap){B:Nat}{items:Array Value}(k:∀b o,s.heap.get? b=some o->s'.heap.get? b=some o)(O:jc s.heap B)(hp:IsTup s'.heap B items)(hz:items.size<=mx)(fx:Fx s s'):
 St G σ s (Mine.Internal.dR σ B ⟨.tup,items.toList.map cv⟩) s':=a.made k O rfl (IsT.mk hp (vK hz)) fx
theorem ix{h:Heap}(o:Obj):∀b x,h.get? b=some x->(h.push o).get? b=some x:=λ_ _=>bt o
theorem qL(h:Heap)(items:Array Value):(h.push {cls:=.type "list",data:=.seq items}).PlainList h.objs.size items:=⟨_,bY _ rfl⟩
theorem qM(h:Heap)(items:Array Value):IsTup (h.push {cls:=.type "tuple",data:=.seq items}) h.objs.size items:=⟨_,bY _ rfl,rfl,_,rfl⟩
theorem eN{h:Heap}{l:Nat}{items:Array Value}(hp:h.PlainList l items):h.IsList l items:=hp.elim λ_ hp=>⟨_,hp,rfl,_,rfl⟩
end
inductive rj(σ μ:H)(t:fh)(ds:LD):Value->Prop
|mk {a vs}:σ a=some ⟨t,vs⟩->dW μ ds vs->rj σ μ t ds (.ref a)
theorem mP{σ:H}{t:fh}{ds:LD}{v:Value}(r:dp σ (.con t ds) (cv v)):rj σ σ t ds v:=by
 have r:=r.con
 generalize e:cv v=c at r
 exact r.casesOn (motive:=λc _=>cv v=c->rj σ σ t ds v) (λa _ b e=>rN e▸⟨a,b⟩) e
inductive wW(p:Pt)(ob:Ob):Value->Prop
|mk {a cs}:p.σ a=some ⟨ob.tag,cs⟩->Rel2 (cM p) ob.vals cs->wW p ob (.ref a)
section
variable{p:Pt}{M:LB}(st:c5 p M)
include st
theorem fH{x:cJ}{ob:Ob}{v:Value}(h:view M x=some ob)(r:cM p x (cv v)):wW p ob v:=by
 have r:=Ww st h r
 generalize e:cv v=c at r
 exact r.casesOn (motive:=λc _=>cv v=c->wW p ob v) (λa b e=>rN e▸⟨a,b⟩) e
theorem rR{x:cJ}{t:fh}{ds:LD}{v:Value}(h:iI M x=some (.con t ds))(r:cM p x (cv v)):rj p.σ p.μ t ds v:=(mP (mK st h r)).casesOn λa b=>⟨st.sub _ _ a,b⟩
theorem iU{x:cJ}{t:fh}{ds:LD}{v:Value}(h:c7 M x=some (.con t ds))(r:cM p x (cv v)):rj p.σ p.μ t ds v:=by
 cases x with
 |sh d=>exact rR (x:=.sh d) st h r
 |own j=>
  obtain ⟨ob,U,O⟩:=oB h
  cases l:ob.ZY with
  |some d'=>
   unfold fR at O
   rw[l] at O
   exact rR (x:=.own j) st (by show(M[j]?).bind Ob.ZY=_;rw[U];exact l.trans O) r
  |none=>
   refine(fH (x:=.own j) st (ob:=ob) (by show(M[j]?).bind _=_;rw[U];show(match ob.ZY with|some d=>qY d|none=>some ob)=_;rw[l]) r).casesOn λa b=>?_
   unfold fR at O
   rw[l] at O
   obtain ⟨ds',h3,h4⟩:=oM O
   cases h4
   exact⟨a,uV st h3 b⟩
end
noncomputable def binI(op:Operator)(i j:Int):Option Int:=match op with
| .Add=>some (i+j)
| .Sub=>some (i-j)
| .BitAnd=>some (Builtin.bitAnd i j)
| .BitOr=>some (Builtin.bitOr i j)
| .Mod=>if j≠0 then some (i.fmod j) else none
| .RShift=>if 0<=j then some (i.fdiv (2^j.toNat)) else none
| .LShift=>if 0<=j/\(Builtin.Int.intBits i:Int)+j<=2^27 then some (i*2^j.toNat) else none
| .FloorDiv=>if j≠0/\Builtin.divisionGoesByPylong i j=false then some (i.fdiv j) else none
| .Pow=>if 0<=j/\(Builtin.Int.intBits i:Int)*j<=2^27 then some (i^j.toNat) else none
| .Mult=>if¬((decide (Builtin.Int.intBits i>shortFactorBits)&&decide (Builtin.Int.intBits j>shortFactorBits)&&Builtin.Int.intTooBig (Builtin.Int.intBits i+Builtin.Int.intBits j))=true) then some (i*j) else none
|_=>none
theorem gu{c:Prop}[Decidable c]{α:Type}{a b:α}(h:(if c then some a else none)=some b):c/\a=b:=by
 by_cases O:c
 ·rw[al O] at h;exact⟨O,aq h⟩
 ·rw[av O] at h;exact cR h
def Ji(n:Int)(P:Value->Shared->Prop)(s:Shared):Prop:=∀t s',s'.heap=s.heap->s'.os=s.os->s'.gens=s.gens->P (.int n t) s'
theorem J7{G:Gd}{op:Operator}{i j n:Int}{t u:Tok}{A:Around}{s:Shared}{P E:Value->Shared->Prop}(h:binI op i j=some n)(q:Ji n P s):wpAny (model G.prog G.w) A (binaryOp op (.int i t) (.int j u)) P E s:=by
 cases op with
 |Add=>cases h;exact add_int (q _ _ rfl rfl rfl)
 |Sub=>cases h;exact sub_int (q _ _ rfl rfl rfl)
 |BitAnd=>cases h;exact and_int (q _ _ rfl rfl rfl)
 |BitOr=>cases h;exact or_int (q _ _ rfl rfl rfl)
 |Mod=>cases (gu h).2;exact mod_int' (gu h).1 (q _ _ rfl rfl rfl)
 |RShift=>cases (gu h).2;exact rshift_int (gu h).1 (q _ _ rfl rfl rfl)
 |LShift=>cases (gu h).2;exact lshift_int (gu h).1.1 (gu h).1.2 (q _ _ rfl rfl rfl)
 |FloorDiv=>cases (gu h).2;exact floordiv_int (gu h).1.1 (q _ _ rfl rfl rfl) (.inl (gu h).1.2)
 |Pow=>cases (gu h).2;exact pow_int (gu h).1.1 (gu h).1.2 (q _ _ rfl rfl rfl)
 |Mult=>cases (gu h).2;exact mul_int (q _ _ rfl rfl rfl) (gu h).1
 |_=>exact cR h
inductive i9(M:LB)(K:KT):Operator->cJ->cJ->Prop
|int {op i j n}:binI op i j=some n->K (.sh (.int n)) M->i9 M K op (.sh (.int i)) (.sh (.int j))
|str {a b}:a.length+b.length<=sizeLine->K (.sh (.str (a++b))) M->i9 M K .Add (.sh (.str a)) (.sh (.str b))
|list {x y a b}:c7 M x=some (.list a)->c7 M y=some (.list b)->a.length+b.length<=mx->iY (a++b) M K->i9 M K .Add x y
|tup {x y a b}:iI M x=some (.tup a)->iI M y=some (.tup b)->a.length+b.length<=mx->K (.sh (.tup (a++b))) M->i9 M K .Add x y
section
variable{G:Gd}{F:Fc}{ρ:List CV}{p:Pt}{M:LB}(st:c5 p M){K:KT}{X:H->Prop}{x y:cJ}{u v:Value}
include st
theorem MP{a b:LD}(h1:c7 M x=some (.list a))(h2:c7 M y=some (.list b))(h3:a.length+b.length<=mx)(k:iY (a++b) M K)(rx:cM p x (cv u))(ry:cM p y (cv v)):Tr G F ρ p.σ (binaryOp .Add u v) (Got RV p K) X:=by
 refine(iU st h1 rx).casesOn λ{a1 v1}U r1=>(iU st h2 ry).casesOn λ{a2 v2}e2 r2=>λA s am f=>?_
 have i1:IsL s.heap a1 v1:=am.rep.at_ _ _ U
 have i2:IsL s.heap a2 v2:=am.rep.at_ _ _ e2
 clear U e2
 revert r1 r2
 refine i1.casesOn λ{its}p1 z1=>i2.casesOn λ{O}p2 z2=>p1.elim λn g1=>p2.elim λn2 g2=>λr1 r2=>?_
 have hz:(its++O).size<=mx:=by
  have U:=r1.len;have e2:=r2.len
  rw[ag,aZ] at U e2
  rw[Array.size_append,U,e2];exact h3
 refine concat_meets ⟨_,g1,rfl⟩ ⟨_,g2,rfl⟩ noFill_list_add seq_list_add PySem.F.slot_list_add PySem.F.entry_list_add (PySem.F.args_list_add_2 _ _) (list_addW _ _ its O n n2 _ _ _ _ (iu (Array.size_append▸hz))) ⟨g1,g2,?_⟩
 exact⟨am.list (ix _) (.size _) (qL _ _) hz ⟨rfl,rfl⟩,qd st (am.rep.fresh (ao _)) (by rw[Array.toList_append,ay];exact r2.app r1) k⟩
theorem MQ{a b:LD}(h1:iI M x=some (.tup a))(h2:iI M y=some (.tup b))(h3:a.length+b.length<=mx)(k:K (.sh (.tup (a++b))) M)(rx:cM p x (cv u))(ry:cM p y (cv v)):Tr G F ρ p.σ (binaryOp .Add u v) (Got RV p K) X:=by
 have d1:=mK st h1 rx
 have d2:=mK st h2 ry
 revert d1 d2
 refine(rR st h1 rx).casesOn λ{a1 v1}e1 r1=>(rR st h2 ry).casesOn λ{a2 v2}e2 r2 d1 d2 A s am f=>?_
 have i1:IsT s.heap a1 v1:=am.rep.at_ _ _ e1
 have i2:IsT s.heap a2 v2:=am.rep.at_ _ _ e2
 clear e1 e2
 revert r1 r2
 refine i1.casesOn λ{U}p1 z1=>i2.casesOn λ{O}p2 z2=>λr1 r2=>?_
 obtain ⟨⟨_,dd,_,sl⟩,g1,rfl,n,rfl⟩:=p1
 obtain ⟨⟨_,dd2,_,sl2⟩,g2,rfl,n2,rfl⟩:=p2
 have l1:=r1.len
 have l2:=r2.len
 rw[ag,aZ] at l1 l2
 have go:=λ{S}(g:Meets _ S)(q:S _ _ _)=>concat_meets (prog:=G.prog) (w:=G.w) (A:=A) (E:=λe s'=>eF G A X p.σ s s' e) (Q:=e8 G p.σ s (Got RV p K)) (s:=s) (T:="tuple") (a:=.ref a1) (b:=.ref a2) ⟨_,g1,rfl⟩ ⟨_,g2,rfl⟩ noFill_tuple_add seq_tuple_add PySem.F.slot_tuple_add PySem.F.entry_tuple_add (PySem.F.args_tuple_add_2 _ _) g q
 by_cases hv:U.isEmpty=true
 ·have ea:a=[]:=List.length_eq_zero_iff.mp (l1.symm.trans (Array.size_eq_zero_iff.mpr (Array.isEmpty_iff.mp hv)))
  exact go (tuple_addW0 _ _ U O n n2 dd dd2 sl sl2 hv) ⟨g1,g2,.refl am.rep,kA (d:=.tup (a++b)) st (ea▸d2) k⟩
 ·by_cases hw:O.isEmpty=true
  ·have eb:b=[]:=List.length_eq_zero_iff.mp (l2.symm.trans (Array.size_eq_zero_iff.mpr (Array.isEmpty_iff.mp hw)))
   exact go (tuple_addW1 _ _ U O n n2 dd dd2 sl sl2 hv hw) ⟨g1,g2,.refl am.rep,kA (d:=.tup (a++b)) st (by rw[eb,aS];exact d1) k⟩
  ·have hz:(U++O).size<=mx:=(Array.size_append▸l1▸l2▸h3)
   exact go (tuple_addW2 _ _ U O n n2 dd dd2 sl sl2 hv hw (iu (Array.size_append▸hz))) ⟨g1,g2,am.tup (ix _) (.size _) (qM _ _) hz ⟨rfl,rfl⟩,
    oq st (am.rep.fresh (ao _)) trivial (by rw[Array.toList_append,ay];exact r2.app r1) k⟩
theorem J9{op:Operator}(h:i9 M K op x y)(O:cM p x (cv u))(U:cM p y (cv v)):Tr G F ρ p.σ (binaryOp op u v) (Got RV p K) X:=by
 cases h with
 |int h k=>
  refine(fM O).casesOn λt=>(fM U).casesOn λt'=>Tr.same λ_ _ _ _=>J7 h λt s' e1 e2 e3=>⟨e1,e2,e3,kA (d:=.int _) st rfl k⟩
 |str h k=>
  refine(iH O).casesOn λt=>(iH U).casesOn λt'=>Tr.same λ_ _ _ _=>PyProof.Rows.add_str (λ_ _=>⟨rfl,rfl,rfl,kA (d:=.str _) st rfl k⟩) h
 |list h1 h2 h3 k=>exact MP st h1 h2 h3 k O U
 |tup h1 h2 h3 k=>exact MQ st h1 h2 h3 k O U
end
section
open Builtin.ObjectAttr
noncomputable def G2:fh->Option (List PyData)->Option PyData
| .list,o=>o.map .list
| .tup,o=>o.map .tuple
|_,_=>none
def o8(d:D):Option PyData:=D.rec (motive_1:=λ_=>Option PyData) (motive_2:=λ_=>Option (List PyData)) (some .none) (λb=>some (.bool b)) (λi=>some (.int i)) (λs=>some (.str s)) (λt _ O=>G2 t O) (λ_=>none) (some []) (λ_ _ a b=>a.bind λp=>b.map λps=>p::ps) d
def mj(ds:LD):Option (List PyData):=D.rec_1 (motive_1:=λ_=>Option PyData) (motive_2:=λ_=>Option (List PyData)) (some .none) (λb=>some (.bool b)) (λi=>some (.int i)) (λs=>some (.str s)) (λt _ O=>G2 t O) (λ_=>none) (some []) (λ_ _ a b=>a.bind λp=>b.map λps=>p::ps) ds
section
variable{P:PW}{base h:Heap}{σ:H}
theorem G5(R:dY P base h σ)(d:D):∀(v:Value)(x:PyData),o8 d=some x->dp σ d (cv v)->∃as,Reads h v x as:=by
 refine D.rec (motive_1:=λd=>∀v x,o8 d=some x->dp σ d (cv v)->∃as,Reads h v x as) (motive_2:=λds=>∀(vs:LU)O,mj ds=some O->dW σ ds (vs.map cv)->∃as,ReadsAll h vs O as) ?_ ?_ ?_ ?_ ?_ ?_ ?_ ?_ d
 ·intro v x e r;cases e;cases uU r;exact⟨_,.none⟩
 ·intro b v x e r;cases e;cases uT r;exact⟨_,.bool _⟩
 ·intro b v x e r;cases e;exact(fM r).casesOn λt=>⟨_,.int _ _⟩
 ·intro b v x e r;cases e;exact(iH r).casesOn λt=>⟨_,.str _ _⟩
 ·intro t ds ih v x e r
  have go:∀{items:Array Value}{O},dW σ ds (items.toList.map cv)->mj ds=some O->∃as,ReadsAll h items.toList O as:=λr q=>ih _ _ q r
  refine(mP r).casesOn λ{a vs}q U=>?_
  cases t with
  |list=>
   obtain ⟨O,e1,rfl⟩:=oM (show(mj ds).map PyData.list=some x from e)
   have i:IsL h a vs:=R.at_ _ _ q
   clear q
   revert U
   exact i.casesOn λp _ U=>(go U e1).elim λas r=>p.elim λ_ g=>⟨_,.list g rfl rfl r⟩
  |tup=>
   obtain ⟨O,e1,rfl⟩:=oM (show(mj ds).map PyData.tuple=some x from e)
   have i:IsT h a vs:=R.at_ _ _ q
   clear q
   revert U
   exact i.casesOn λp _ U=>(go U e1).elim λas r=>p.elim λ_ g=>g.2.2.elim λ_ e=>⟨_,.tuple g.1 g.2.1 e r⟩
  |_=>exact cR e
 ·intro a v x e;exact cR e
 ·intro vs O e r
  cases e
  cases vs with
  |nil=>exact⟨_,.nil⟩
  |cons=>exact jE ((show _=_ from r))
 ·intro d ds i1 i2 vs O e r
  obtain ⟨y,e1,e2⟩:=oB (show(o8 d).bind (λp=>(mj ds).map λps=>p::ps)=some O from e)
  obtain ⟨ys,e3,rfl⟩:=oM e2
  cases vs with
  |nil=>exact nomatch(show eV _ _ [] from r)
  |cons v vs=>exact(i1 _ _ e1 (Rel2.hd r)).elim λ_ a=>(i2 _ _ e3 (Rel2.tl r)).elim λ_ b=>⟨_,.cons a b⟩
theorem dY.ns{G:Gd}(R:dY G.toPW G.base h σ){c:Nat}{o:fK}(hc:σ c=some o):(c==sysModules)=false:=by
 cases e:c==sysModules with
 |false=>rfl
 |true=>have q:=G.sys;rw[←eq_of_beq e,R.new c (.at hc)] at q;exact cX q
end
inductive rg(M:LB)(x y:cJ):Bool->Prop
|emp {xs}:view M x=some (.list xs)->view M y=some (.list [])->rg M x y xs.isEmpty
|py {da db pa pb}:c7 M x=some da->c7 M y=some db->o8 da=some pa->o8 db=some pb->SeqAt.shaped pa=true->SeqAt.shaped pb=true->rg M x y (PyData.eqv pa pb)
noncomputable def c6{K:Type}[DecidableEq K](es:List (K×cJ))(k:K):Option cJ:=(es.find? λx=>decide (x.1=k)).map (·.2)
noncomputable def dq{K:Type}[DecidableEq K](es:List (K×cJ))(k:K)(v:cJ):List (K×cJ):=
 if es.any λx=>decide (x.1=k) then es.map (λx=>if x.1=k then(x.1,v) else x) else es++[(k,v)]
inductive j0(M:LB)(y:cJ):cJ->Bool->Prop
|Z0 {xs:LV} {is:LJ} {i:Int}:view M y=some (.list xs)∨view M y=some (.tup xs)->xs=is.map (λi=>.sh (.int i))->j0 M y (.sh (.int i)) (is.any (·==i))
|Za {xs:LV} {is:LQ} {i:Str}:view M y=some (.list xs)∨view M y=some (.tup xs)->xs=is.map (λi=>.sh (.str i))->j0 M y (.sh (.str i)) (is.any (·==i))
|di {es i}:view M y=some (.Z7 es)->j0 M y (.sh (.int i)) (c6 es i).isSome
|ds {es i}:view M y=some (.Z4 es)->j0 M y (.sh (.str i)) (c6 es i).isSome
|dt {es x} {l:LJ}:view M y=some (.Z2 es)->c7 M x=some (.tup (l.map .int))->j0 M y x (c6 es l).isSome
noncomputable def yk:cJ->Bool
| .sh .none=>true
|_=>false
def C8(op:CmpOp)(x:cJ):Option Bool:=match op with
| .Is=>some (yk x)
| .IsNot=>some (!yk x)
|_=>none
noncomputable def C7(op:CmpOp)(i j:Int):Option Bool:=match op with
| .Eq=>some (decide (i=j))
| .NotEq=>some (!decide (i=j))
| .Lt=>some (decide (i<j))
| .LtE=>some (decide (i<=j))
| .Gt=>some (decide (j<i))
| .GtE=>some (decide (j<=i))
|_=>none
noncomputable def C9(op:CmpOp)(i j:Str):Option Bool:=match op with
| .Eq=>some (decide (i=j))
| .NotEq=>some (!decide (i=j))
|_=>none
noncomputable def vInt:cJ->Option Int
| .sh (.int i)=>some i
|_=>none
noncomputable def vStr:cJ->Option Str
| .sh (.str i)=>some i
|_=>none
def pW(op:CmpOp)(x:cJ):cJ->Option Bool
| .sh .none=>C8 op x
| .sh (.int j)=>(vInt x).bind λi=>C7 op i j
| .sh (.str j)=>(vStr x).bind λi=>C9 op i j
|_=>none
theorem mq{x:cJ}{i:Int}(h:vInt x=some i):x=.sh (.int i):=by
 cases x with
 |own=>exact cR h
 |sh d=>cases d with
  |int=>cases h;rfl
  |_=>exact cR h
theorem BJ{x:cJ}{i:Str}(h:vStr x=some i):x=.sh (.str i):=by
 cases x with
 |own=>exact cR h
 |sh d=>cases d with
  |str=>cases h;rfl
  |_=>exact cR h
inductive fq(M:LB)(K:Bool->Prop)(x y:cJ):CmpOp->Prop
|v {op b}:pW op x y=some b->K b->fq M K x y op
|eq {b}:rg M x y b->K b->fq M K x y .Eq
|ne {b}:rg M x y b->K (!b)->fq M K x y .NotEq
|has {b}:j0 M y x b->K b->fq M K x y .In
|Zz {b}:j0 M y x b->K (!b)->fq M K x y .NotIn
section
variable{P:PW}{A:Around}{s:Shared}{E Q:Value->Shared->Prop}{a b:Value}
theorem Mz{op:CmpOp}{i j:Int}{t u:Tok}{r:Bool}(h:C7 op i j=some r)(q:Q (.bool r) s):wpAny (model P.prog P.w) A (compareOp op (.int i t) (.int j u)) Q E s:=by
 cases op with
 |Eq=>cases h;exact PyProof.Rows.eq_int q
 |NotEq=>cases h;exact PyProof.Rows.ne_int q
 |Lt=>cases h;exact PyProof.Rows.lt_int q
 |LtE=>cases h;exact PyProof.Rows.le_int q
 |Gt=>cases h;exact PyProof.Rows.gt_int q
 |GtE=>cases h;exact PyProof.Rows.ge_int q
 |_=>exact cR h
theorem MB{op:CmpOp}{i j:Str}{t u:Tok}{r:Bool}(h:C9 op i j=some r)(q:Q (.bool r) s):wpAny (model P.prog P.w) A (compareOp op (.str i t) (.str j u)) Q E s:=by
 cases op with
 |Eq=>cases h;exact PyProof.Rows.eq_str q
 |NotEq=>cases h;exact PyProof.Rows.ne_str q
 |_=>exact cR h
noncomputable def uS:CV->Bool
| .none=>true
|_=>false
theorem MY(v:Value):(v==Value.none)=uS (cv v):=by cases v<;>rfl
theorem OO{p:Pt}{x:cJ}{c:CV}(r:cM p x c):uS c=yk x:=by
 cases x with
 |own=>exact iF.casesOn (motive:=λc _=>uS c=false) r λ_=>rfl
 |sh d=>cases d with
  |con t ds=>exact(dp.con r).casesOn (motive:=λc _=>uS c=false) λ_ _ _=>rfl
  |_=>exact(show c=_ from r)▸rfl
theorem MA{op:CmpOp}{x:cJ}{r:Bool}{p:Pt}(O:cM p x (cv a))(h:C8 op x=some r)(q:Q (.bool r) s):wpAny (model P.prog P.w) A (compareOp op a .none) Q E s:=by
 have e:=(MY a).trans (OO O)
 cases op with
 |Is=>cases h;exact is_none_gen (e▸q)
 |IsNot=>cases h;exact isnot_none_gen (e▸q)
 |_=>exact cR h
end
theorem fY{α β:Type}{f:α->β}{l:List α}{n:Nat}{items:Array Value}(h:(items.toList.map cv).length=n):items.size=n:=by rw[ag,aZ] at h;exact h
theorem r6{μ:H}{is:LJ}{vs:LU}(h:dW μ (is.map .int) (vs.map cv)):IntsAre vs is:=by
 induction is generalizing vs with
 |nil=>cases vs with
  |nil=>exact .nil
  |cons=>exact jE ((show _=_ from h))
 |cons i is O=>cases vs with
  |nil=>exact nomatch(show eV _ _ [] from h)
  |cons v vs=>exact(fM (Rel2.hd (R:=dp μ) (a:=.int i) h)).casesOn λt=>.cons _ _ (O (Rel2.tl h))
theorem Bv{μ:H}{is:LQ}{vs:LU}(h:dW μ (is.map .str) (vs.map cv)):StrsAre vs is:=by
 induction is generalizing vs with
 |nil=>cases vs with
  |nil=>exact .nil
  |cons=>exact jE ((show _=_ from h))
 |cons i is O=>cases vs with
  |nil=>exact nomatch(show eV _ _ [] from h)
  |cons v vs=>exact(iH (Rel2.hd (R:=dp μ) (a:=.str i) h)).casesOn λt=>.cons _ _ (O (Rel2.tl h))
theorem tR{p:Pt}{α:Type}{f:α->D}{l:List α}{cs:List CV}(h:Rel2 (cM p) (l.map λi=>.sh (f i)) cs):dW p.μ (l.map f) cs:=by
 induction l generalizing cs with
 |nil=>exact h
 |cons a l O=>exact eV.casesOn (motive:=λcs _=>dW p.μ (f a::l.map f) cs) h λx y=>⟨x,O y⟩
theorem rS{p:Pt}{K:Type}[DecidableEq K]{α:Type}{f:α->K}{g:α->Value}{es:List (K×cJ)}{l:List α}(k:K)(U:es.map (·.1)=l.map f)(h2:Rel2 (cM p) (es.map (·.2)) (l.map λx=>cv (g x))):
 (c6 es k=none/\l.find? (λx=>decide (f x=k))=none)∨∃v x,c6 es k=some v/\l.find? (λx=>decide (f x=k))=some x/\cM p v (cv (g x)):=by
 induction es generalizing l with
 |nil=>cases l with
  |nil=>exact .inl ⟨rfl,rfl⟩
  |cons=>exact wN U
 |cons e es ih=>cases l with
  |nil=>exact jE U
  |cons x l=>
   obtain ⟨O,e2⟩:=bZ U
   have O:e.1=f x:=O
   unfold c6
   rw[List.find?_cons,List.find?_cons,O]
   cases q:decide (f x=k) with
   |true=>exact .inr ⟨_,_,rfl,rfl,Rel2.hd h2⟩
   |false=>exact ih e2 (Rel2.tl h2)
theorem yl{p:Pt}{K:Type}[DecidableEq K]{α:Type}{f:α->K}{g:α->Value}{es:List (K×cJ)}{l:List α}(k:K)(U:es.map (·.1)=l.map f)(O:Rel2 (cM p) (es.map (·.2)) (l.map λx=>cv (g x))):(c6 es k).isSome=(l.find? λx=>decide (f x=k)).isSome:=
 (rS k U O).elim (λq=>(q.1▸q.2▸rfl)) λ⟨_,_,q,q',_⟩=>(q▸q'▸rfl)
theorem r4{G:Gd}{qh d A σ h}(a:c8 G qh d A σ h):A.in1.units<cLine:=aX (ae (bq dQ _) (ao (A.units+100))) a.room.YY
theorem O1{P:PW}{vs:LU}{l:LJ}(h:IntsAre vs l):ItemsAre (intKind P.prog P.w) l vs:=by
 induction h with
 |nil=>exact .nil
 |cons i t _ O=>exact .cons (by simp[intKind,Value.isInt]) O
theorem vr{P:PW}{h base:Heap}{σ:H}{t:Nat}{vs:List CV}{l:LJ}(R:dY P base h σ){μ:H}(e:σ t=some ⟨.tup,vs⟩)(q:dW μ (l.map .int) vs):(tupleKind (intKind P.prog P.w)).is h l t:=by
 have i:IsT h t vs:=R.at_ _ _ e
 clear e
 revert q
 refine i.casesOn λ{items}x _ q=>x.elim λo x=>x.2.2.elim λn d=>⟨o,items,n,x.1,x.2.1,d,O1 (r6 q)⟩
section
variable{G:Gd}{F:Fc}{ρ:List CV}{p:Pt}{M:LB}(st:c5 p M){x y:cJ}{u v:Value}{A:Around}{s:Shared}{qh:Bool}{d:Nat}(am:c8 G qh d A p.σ s.heap)
include st am
theorem Dz{r:Bool}(h:rg M x y r)(rx:cM p x (cv u))(ry:cM p y (cv v)):SeqAt.RcAt A s u v r/\SeqAt.RcNeAt A s u v (!r):=by
 have hu:A.units+64<cLine:=aX (bq dQ _) am.room.YY
 cases h with
 |py h1 h2 h3 h4 h5 h6=>
  obtain ⟨_,ra⟩:=G5 am.rep _ _ _ h3 (xP st h1 rx)
  obtain ⟨_,rb⟩:=G5 am.rep _ _ _ h4 (xP st h2 ry)
  exact⟨λprog w E Q h=>SeqAt.compareEq_shaped ra rb h5 h6 hu h,λprog w E Q h=>SeqAt.compareNe_shaped ra rb h5 h6 hu h⟩
 |@emp xs h1 h2=>
  have hu:A.units<cLine:=aX (aW _ _) hu
  refine(fH st h1 rx).casesOn λ{a cs}e1 r1=>(fH st h2 ry).casesOn λ{b cs2}e2 r2=>?_
  have i1:IsL s.heap a cs:=am.rep.at_ _ _ e1
  have i2:IsL s.heap b cs2:=am.rep.at_ _ _ e2
  clear e1 e2
  revert r1 r2
  refine i1.casesOn λ{U}p1 _=>i2.casesOn λ{O}p2 _ r1 r2=>?_
  have z1:U.size=_:=fY (f:=cv) (l:=U.toList) r1.len
  have z2:O.size=0:=fY (f:=cv) (l:=O.toList) r2.len
  cases xs with
  |nil=>
   have q:(List.range U.size).all (λ_=>true)=true:=(z1▸rfl)
   have no:∀j,j<U.size->False:=λj h=>absurd (z1▸h) (Nat.not_lt_zero _)
   have a1:=SeqAt.RcAt.lists (A:=A) (s:=s) (e:=λ_=>true) (eN p1) (eN p2) (z1.trans z2.symm) hu λj h=>(no j h).elim
   have a2:=SeqAt.RcNeAt.lists (A:=A) (s:=s) (e:=λ_=>true) (eN p1) (eN p2) (z1.trans z2.symm) hu λj h=>(no j h).elim
   rw[q] at a1 a2
   exact⟨a1,a2⟩
  |cons x xs=>
   have zz:(U.size !=O.size)=true:=(z1▸z2▸rfl)
   exact⟨SeqAt.RcAt.lists_lengths (eN p1) (eN p2) zz hu,SeqAt.RcNeAt.lists_lengths (eN p1) (eN p2) zz hu⟩
def Jk(G:Gd)(A:Around)(s:Shared)(u v:Value)(r:Bool):Prop:=(∀E P:Value->Shared->Prop,(∀tk,P (.bool r) {s with toks:=tk})->wpAny (model G.prog G.w) A (compareOp .In u v) P E s)/\
 ∀E P:Value->Shared->Prop,(∀tk,P (.bool (!r)) {s with toks:=tk})->wpAny (model G.prog G.w) A (compareOp .NotIn u v) P E s
theorem EB{r:Bool}(h:j0 M y x r)(rx:cM p x (cv u))(ry:cM p y (cv v)):Jk G A s u v r:=by
 cases h with
 |Z0 h e=>
  subst e
  refine(fM rx).casesOn λt=>h.elim (λh=>?_) λh=>?_
  ·refine(fH st h ry).casesOn λ{a cs}e r=>?_
   have i:IsL s.heap a cs:=am.rep.at_ _ _ e
   clear e
   revert r
   exact i.casesOn λ{U}p1 _ r=>have q:=r6 (tR r);⟨λE P O=>in_list_ints (vs:=U.toList) (eN p1) q (O _),λE P O=>notin_list_ints (vs:=U.toList) (eN p1) q (O _)⟩
  ·refine(fH st h ry).casesOn λ{a cs}e r=>?_
   have i:IsT s.heap a cs:=am.rep.at_ _ _ e
   clear e
   revert r
   exact i.casesOn λ{U}p1 _ r=>have q:=r6 (tR r);⟨λE P O=>in_tuple_ints p1 q (O _),λE P O=>notin_tuple_ints p1 q (O _)⟩
 |Za h e=>
  subst e
  refine(iH rx).casesOn λt=>h.elim (λh=>?_) λh=>?_
  ·refine(fH st h ry).casesOn λ{a cs}e r=>?_
   have i:IsL s.heap a cs:=am.rep.at_ _ _ e
   clear e
   revert r
   exact i.casesOn λ{U}p1 _ r=>have q:=Bv (tR r);⟨λE P O=>in_list_strs (vs:=U.toList) (eN p1) q (O _),λE P O=>notin_list_strs (vs:=U.toList) (eN p1) q (O _)⟩
  ·refine(fH st h ry).casesOn λ{a cs}e r=>?_
   have i:IsT s.heap a cs:=am.rep.at_ _ _ e
   clear e
   revert r
   exact i.casesOn λ{U}p1 _ r=>have q:=Bv (tR r);⟨λE P O=>in_tuple_strs p1 q (O _),λE P O=>notin_tuple_strs p1 q (O _)⟩
 |di h=>
  rename_i es k
  refine(fM rx).casesOn λt=>(fH st h ry).casesOn λ{a cs}e r=>?_
  have ns:=am.rep.ns e
  have i:iC G.toPW s.heap a (es.map (·.1)) cs:=am.rep.at_ _ _ e
  generalize ek:es.map (·.1)=ks at i
  clear e
  revert r ek
  refine i.casesOn λ{kvs}hd r ek=>?_
  have e:=yl k ek r
  have e:(c6 es k).isSome=(valueAt kvs k).isSome:=e.trans (by unfold valueAt;rw[Option.isSome_map])
  have hk:(intKind G.prog G.w).is k (.int k t)=true:=by simp[intKind,Value.isInt]
  exact⟨λE P q=>wpAny_in_of (knd:=intKind G.prog G.w) hk ns hd.dictOf.mapOf (e▸q _),λE P q=>wpAny_notIn_of (knd:=intKind G.prog G.w) hk ns hd.dictOf.mapOf (e▸q _)⟩
 |ds h=>
  rename_i es k
  refine(iH rx).casesOn λt=>(fH st h ry).casesOn λ{a cs}e r=>?_
  have ns:=am.rep.ns e
  have i:jH G.toPW s.heap a (es.map (·.1)) cs:=am.rep.at_ _ _ e
  generalize ek:es.map (·.1)=ks at i
  clear e
  revert r ek
  refine i.casesOn λ{kvs}hd r ek=>?_
  have e:=yl k ek r
  have e:(c6 es k).isSome=(valueAt kvs k).isSome:=e.trans (by unfold valueAt;rw[Option.isSome_map])
  exact⟨λE P q=>wpAny_in_of (knd:=PySem.strKind G.prog G.w) (PySem.strKind_is _ _ k t) ns hd.mapOf (e▸q _),λE P q=>wpAny_notIn_of (knd:=PySem.strKind G.prog G.w) (PySem.strKind_is _ _ k t) ns hd.mapOf (e▸q _)⟩
 |dt h hk=>
  rename_i es l
  refine(iU st hk rx).casesOn λ{b ks}e' r'=>(fH st h ry).casesOn λ{a cs}e r=>?_
  have ns:=am.rep.ns e
  have key:=vr am.rep e' r'
  have i:jI G.toPW s.heap a (es.map (·.1)) cs:=am.rep.at_ _ _ e
  generalize ek:es.map (·.1)=ks at i
  clear e
  revert r ek
  refine i.casesOn λ{kvs}hd r ek=>?_
  have e:=yl l ek r
  have e:(c6 es l).isSome=(atKey kvs l).isSome:=e.trans (by unfold atKey;rw[Option.isSome_map])
  exact⟨λE P q=>wpAny_in_heap (knd:=tupleKind (intKind G.prog G.w)) (r4 am) key ns hd (e▸q _),λE P q=>wpAny_notIn_heap (knd:=tupleKind (intKind G.prog G.w)) (r4 am) key ns hd (e▸q _)⟩
end
inductive xd(K:Bool->Prop)(σ:H):Value->H->Prop
|mk {r}:K r->xd K σ (.bool r) σ
section
variable{G:Gd}{F:Fc}{ρ:List CV}{p:Pt}{M:LB}(st:c5 p M){x y:cJ}{u v:Value}{X:H->Prop}
include st
theorem rL{op:CmpOp}{K:Bool->Prop}(h:fq M K x y op)(O:cM p x (cv u))(U:cM p y (cv v)):Tr G F ρ p.σ (compareOp op u v) (xd K p.σ) X:=by
 refine Tr.same λA s am f=>?_
 cases h with
 |v h k=>
  have k:=λs=>(⟨rfl,rfl,rfl,.mk k⟩:pL (λv=>xd K p.σ v p.σ) s _ s)
  cases y with
  |own=>exact cR h
  |sh d=>cases d with
   |none=>cases uU U;exact MA O h (k s)
   |int j=>
    obtain ⟨i,e,h⟩:=oB h
    cases mq e
    exact(fM O).casesOn λ_=>(fM U).casesOn λ_=>Mz h (k s)
   |str j=>
    obtain ⟨i,e,h⟩:=oB h
    cases BJ e
    exact(iH O).casesOn λ_=>(iH U).casesOn λ_=>MB h (k s)
   |_=>exact cR h
 |eq h k=>exact(Dz st am h O U).1 _ _ _ _ ⟨rfl,rfl,rfl,.mk k⟩
 |ne h k=>exact(Dz st am h O U).2 _ _ _ _ ⟨rfl,rfl,rfl,.mk k⟩
 |has h k=>exact(EB st am h O U).1 _ _ λ_=>⟨rfl,rfl,rfl,.mk k⟩
 |Zz h k=>exact(EB st am h O U).2 _ _ λ_=>⟨rfl,rfl,rfl,.mk k⟩
noncomputable def lT:Ob->Option Bool
| .list O=>some (!O.isEmpty)
|_=>none
def ua(M:LB)(v:cJ):Option Bool:=match v with
| .sh (.bool b)=>some b
| .sh (.int i)=>some (decide (i≠0))
| .sh .none=>some false
|v=>(view M v).bind lT
theorem IL{b:Bool}(h:((view M x).bind lT)=some b)(rx:cM p x (cv u)):Tr G F ρ p.σ (truthy u) (λr σ'=>r=b/\σ'=p.σ) X:=by
 obtain ⟨ob,h1,O⟩:=oB h
 cases ob with
 |list xs=>
  cases O
  refine(fH st h1 rx).casesOn λ{a cs}e r=>Tr.same λA s am f=>?_
  have i:IsL s.heap a cs:=am.rep.at_ _ _ e
  clear e
  revert r
  refine i.casesOn λ{U}p1 z r=>wpAny_truthy_list (eN p1) (Int.lt_of_le_of_lt (b7.mpr z) dQ) ⟨rfl,rfl,rfl,aj (!·) ?_,rfl⟩
  have e:=fY (f:=cv) (l:=U.toList) r.len
  cases xs with
  |nil=>exact Array.isEmpty_iff_size_eq_zero.mpr e
  |cons y ys=>
   cases q:U.isEmpty with
   |false=>rfl
   |true=>exact nA ((Array.isEmpty_iff_size_eq_zero.mp q).symm.trans e)
 |_=>exact cR O
theorem IM{b:Bool}(h:ua M x=some b)(O:cM p x (cv u)):Tr G F ρ p.σ (truthy u) (λr σ'=>r=b/\σ'=p.σ) X:=by
 cases x with
 |own=>exact IL st h O
 |sh d=>cases d with
  |bool b=>cases h;cases uT O;exact Tr.same λ_ _ _ _=>wpAny_truthy_bool ⟨rfl,rfl,rfl,rfl,rfl⟩
  |int i=>cases h;exact(fM O).casesOn λ_=>Tr.same λ_ _ _ _=>truthy_int ⟨rfl,rfl,rfl,by show(!(i==0))=_;by_cases e:i=0<;>simp[e],rfl⟩
  |none=>cases h;cases uU O;exact Tr.same λ_ _ _ _=>truthy_none ⟨rfl,rfl,rfl,rfl,rfl⟩
  |str=>exact cR h
  |raw=>exact cR h
  |con=>exact IL (x:=.sh (.con _ _)) st h O
end
noncomputable def yx(s:Str):Nat:=s.cps.toList.foldl (λa c=>a*256+c) 1
theorem Rq:iZ.map (λn=>yx (Str.ofString n))=[25319071553036771167,408418665129331,101175279412404594,1607952266597,6298296692,90484,6097038948,6247774324,1612482507880,1573592589683,7553093830534280709777960723639924,1565069309043,102568416379168883,99753632386409843,25681045018918024307,103148954138800755,1595385410661,26833979769002811756,24600953,1591107937651,390775174292846,6214874995,1543763160947,6556623613968349623411,104538767203525988,6130984037,23553396,26257523380435513190,402925602104690,408367258825843,1569533093235,1565237668723,1749145958614541097987699,389645648160100,1599597143406,25758461649508132196,1552335267192,25464306005412439396,394043744613491,409436588631411,101438118374958450,6130987892,6114209381,411635780248947,400700843189604,1526583357044,388601988212082,6113551988,1590906284148,388554759434094,6113816165,389662626509413,400658010565747,393042932884340,1595385410164,99775592503010932,103413906661536883,404033720644211,1706921431231143198682740,399558432417132,408440340115308,1552435998067,394078054478963,6064203117,390792354162034,1522388266100,6146846053,6215265381,25609835195304928622,103430459197713765,6248426596,25758461679672453492,388610526637668,29425047063973165445273402829939,24276855,393042999996004,1522119698798,6722644309476541557861,450199474724190277444005734,6147765349,400657876481128,23159668,1543761784686,407254779388773,6030324847,1758591265503299591564404,394077986714472,397398080057972,6080653678,104274849800613734,1517842359666,1526532633445,6759969858440444997478,24145776,1754144809259996979754088,100316582105148532,1573659174003,6231975280,1595184604788,436967053854333838969168236,114965735221648839758268690036,412735325365604,26694361549291614054,1517807756644,391904833269606,393042932624996,101739320270217574,26045265950638694766,1577970984306,6114209643,28637072761301573161132038123124,1582366286693,1753869477747271385706085,7331090629330053215860219835868516,6012627308,400657659356531]:=by decide+kernel
theorem Rr:(iZ.map λn=>yx (Str.ofString n)).Nodup:=by rw[Rq];decide+kernel
theorem GA{i j:Nat}(hi:i<iZ.length)(U:j<iZ.length):(nm i==nm j)=decide (i=j):=by
 by_cases e:i=j
 ·subst e;simp
 ·rw[bu e]
  refine ca.mpr λq=>e ?_
  have O:i<(iZ.map λn=>yx (Str.ofString n)).length:=by rw[ag];exact hi
  refine(b9 O Rr).mp ?_
  unfold nm at q
  rw[aA,aA,aC hi,aC U]
  simp only[List.getD_eq_getElem?_getD,List.getElem?_eq_getElem hi,List.getElem?_eq_getElem U,Option.getD_some] at q
  simp only[Option.map_some,q]
inductive px(p:Pt)(es:List DictEntry)(n:Nat):Option cJ->Prop
|no:es.find? (·.key.isStr (nm n))=none->px p es n none
|some {e u}:es.find? (·.key.isStr (nm n))=some e->cM p u (cv e.val)->px p es n (some u)
section
variable{p:Pt}{n:Nat}
theorem D1{ns:LN}:∀{es cs},lD es ns cs->∀e∈es,e.refKey=false:=by
 induction ns with
 |nil=>exactλh e he=>dh ((h.1▸he:e∈[]))
 |cons m ns O=>exactλh=>pz.casesOn (motive:=λes _ _=>∀e∈es,e.refKey=false) h λr e he=>(aM.mp he).elim (λq=>q▸rfl) (O r e)
theorem NJ{ns:LN}:∀{es cs},lD es ns cs->es.length=ns.length:=by
 induction ns with
 |nil=>exactλh=>h.1▸rfl
 |cons m ns O=>exactλh=>pz.casesOn (motive:=λes _ _=>es.length=ns.length+1) h λr=>aj Nat.succ (O r)
theorem DZ(hn:n<iZ.length){fs:List (Nat×cJ)}:∀{es cs},lD es (fs.map (·.1)) cs->Rel2 (cM p) (fs.map (·.2)) cs->(∀m∈fs.map (·.1),m<iZ.length)->px p es n (fs.lookup n):=by
 induction fs with
 |nil=>exactλh _ _=>.no (h.1▸rfl)
 |cons f fs O=>
  intro es cs h r hl
  obtain ⟨m,w⟩:=f
  refine pz.casesOn (motive:=λes cs _=>Rel2 (cM p) (w::fs.map λx:Nat×cJ=>x.2) cs->px p es n (List.lookup n ((m,w)::fs))) h (λ{h t v es vs}r q=>?_) r
  have e:(DictEntry.mk h (.str (nm m) t) v).key.isStr (nm n)=decide (m=n):=GA (hl m (.head _)) hn
  rw[bQ]
  by_cases U:m=n
  ·subst U
   rw[ck]
   exact .some (by rw[List.find?_cons,e,aG rfl]) q.hd
  ·rw[show(n==m)=false from ca.mpr (Ne.symm U)]
   have f:((DictEntry.mk h (.str (nm m) t) v)::es).find? (·.key.isStr (nm n))=es.find? (·.key.isStr (nm n)):=by rw[List.find?_cons,e,bu U]
   have:=O r q.tl λm hm=>hl m (.tail _ hm)
   show px p _ n (fs.lookup n)
   generalize fs.lookup n=o at this⊢
   exact this.casesOn (λq=>.no (f.trans q)) λq r=>.some (f.trans q) r
theorem D0{es:List DictEntry}{ns:LN}{cs:List CV}{o:Option cJ}(h:lD es ns cs)(f:px p es n o):(o=none/\PySem.W.getL (nm n) es=some none)∨∃u r,o=some u/\PySem.W.getL (nm n) es=some (some r)/\cM p u (cv r):=by
 unfold PySem.W.getL
 refine f.casesOn (λq=>.inl ⟨rfl,?_⟩) λq r=>.inr ⟨_,_,rfl,by rw[q],r⟩
 rw[q]
 exact av λq=>(List.any_eq_true.mp q).elim λe q=>cX ((D1 h e q.1).symm.trans q.2)
theorem Ng(fs:List (Nat×cJ))(n:Nat)(v:cJ):(dq fs n v).map (·.1)=if n∈fs.map (·.1) then fs.map (·.1) else fs.map (·.1)++[n]:=by
 have e:(fs.any λx=>decide (x.1=n))=true↔n∈fs.map (·.1):=by simp
 unfold dq
 by_cases q:n∈fs.map (·.1)
 ·rw[al q,al (e.mpr q),aJ]
  refine cx λx _=>?_
  show(if _ then _ else _:Nat×cJ).1=x.1
  split<;>rfl
 ·rw[av q,av λm=>q (e.mp m),ay];rfl
theorem NK(hn:n<iZ.length){hsh:Int}{t:Tok}{v:Value}{u:cJ}(hu:cM p u (cv v)){fs:List (Nat×cJ)}:∀{es cs},lD es (fs.map (·.1)) cs->Rel2 (cM p) (fs.map (·.2)) cs->(∀m∈fs.map (·.1),m<iZ.length)->(fs.map (·.1)).Nodup->
 ∃O,lD (putL (nm n) hsh (.str (nm n) t) v es) ((dq fs n u).map (·.1)) O/\Rel2 (cM p) ((dq fs n u).map (·.2)) O:=by
 induction fs with
 |nil=>exactλh _ _ _=>⟨[cv v],by rw[h.1];exact⟨⟨rfl,rfl⟩⟩,hu,rfl⟩
 |cons f fs ih=>
  intro es cs h r hl U
  obtain ⟨m,w⟩:=f
  refine pz.casesOn (motive:=λes cs _=>Rel2 (cM p) (w::fs.map λx:Nat×cJ=>x.2) cs->∃O,lD (putL (nm n) hsh (.str (nm n) t) v es) ((dq ((m,w)::fs) n u).map λx:Nat×cJ=>x.1) O/\Rel2 (cM p) ((dq ((m,w)::fs) n u).map λx:Nat×cJ=>x.2) O) h (λ{h t' v' es vs}r q=>?_) r
  have e:(DictEntry.mk h (.str (nm m) t') v').key.isStr (nm n)=decide (m=n):=GA (hl m (.head _)) hn
  have U:=bR.mp U
  unfold putL
  rw[e]
  by_cases e1:m=n
  ·subst e1
   have e2:dq ((m,w)::fs) m u=(m,u)::fs:=by
    unfold dq
    rw[List.any_cons,aG rfl,Bool.true_or,al rfl,aN,al rfl]
    refine aj _ ((cx λx hx=>av λq:x.1=m=>U.1 (aB.mpr ⟨x,hx,q⟩)).trans (List.map_id _))
   rw[e2,aG rfl]
   exact⟨_,⟨r⟩,hu,q.tl⟩
  ·have e2:dq ((m,w)::fs) n u=(m,w)::dq fs n u:=by
    unfold dq
    rw[List.any_cons,bu e1,Bool.false_or]
    split
    ·rw[aN,av e1]
    ·rfl
   rw[e2,bu e1]
   obtain ⟨O,r1,r2⟩:=ih r q.tl (λm hm=>hl m (.tail _ hm)) U.2
   exact⟨_,⟨r1⟩,q.hd,r2⟩
end
theorem wi(name:Str)(k:Int)(key v:Value):∀es:List DictEntry,(putL name k key v es).length<=es.length+1
 |[]=>by simp[putL]
 |e::r=>by
  have:=wi name k key v r
  unfold putL
  split
  ·simp
  ·simp;assumption
theorem TS{P:PW}{K:Frag}{A:Around}{s:Shared}{x O dx:Addr}{es:List DictEntry}{n:Nat}{name:Str}{tk:Tok}{v:Value}{R:Result->Shared->Prop}
 (X:K.In s.heap) (I:InstAt s.heap x (instObj O dx) O (some (PySem.W.dictOf es n))) (hd:s.heap.get? dx=some (PySem.W.dictOf es n))
 (hp:plainOver K O=true) (ht:takerIn K O name=some none) (hh:hasDictIn K O=true)
 (hk:∀e∈es,e.refKey=false) (hz:es.length<=999)
 (h:∀h',Heap.SameBut dx s.heap h'->h'.get? dx=some (PySem.W.dictOf (putL name (PyData.keyHash P.w.params name) (.str name s.toks) v es) (putN name es n))->R (.ok (.ret .none)) {s with heap:=h',toks:=s.toks+1}):
 codeAny (model P.prog P.w) A (.call (.builtin "object.__setattr__") ⟨[.ref x,.str name tk,v],[]⟩) R s:=by
 refine osa_open X I hp ht λb=>?_
 obtain ⟨cd,hc,U⟩:=any_some hh
 have hx:=I.at_
 refine ah (aw (ah (ah (wpAny_loadPart hx (ah ((looks_clsIn X hc).here ?_))))))
 rw[U]
 refine aw (a:=some dx) (ah (aw (ah ?_)))
 unfold nsSet
 refine ah (ah (wpAny_askSetting (aw (ah (wpAny_mkText (ah (wpAny_loadPart hd ?_)))))))
 have c:(!es.toArray.any (·.key.isStr name)&&es.toArray.any (·.refKey))=false:=by
  have:es.toArray.any (·.refKey)=false:=by
   rw[←Array.any_toList,List.any_eq_false];intro e he;rw[hk e he];exact Bool.false_ne_true
  rw[this,Bool.and_false]
 dsimp only[PySem.W.dictOf]
 rw[aRefKeyMayBeTheName_at,c]
 refine wpAny_updatePart hd ?_
 have D':(s.heap.update dx (Obj.putName name (PyData.keyHash P.w.params name) (.str name s.toks) v)).get? dx=some (PySem.W.dictOf (putL name (PyData.keyHash P.w.params name) (.str name s.toks) v es) (putN name es n)):=by
  have:=cy (Obj.putName name (PyData.keyHash P.w.params name) (.str name s.toks) v) hd (by rw[putName_dict];rfl)
  rw[this,putName_dict]
 refine ah (wpAny_lookBehind D' (pastItsLine_dict (by rw[List.size_toArray,sizeLine_eq];have:=wi name (PyData.keyHash P.w.params name) (.str name s.toks) v es;lia)) ?_)
 exact aw (h _ (Heap.SameBut.update ..) D')
theorem TU{P:PW}{K:Frag}{A:Around}{E:Value->Shared->Prop}{s:Shared}{x O dx:Addr}{es:List DictEntry}{n:Nat}{name:Str}{v:Value}{Q:Unit->Shared->Prop}
 (X:K.In s.heap) (I:InstAt s.heap x (instObj O dx) O (some (PySem.W.dictOf es n))) (hd:s.heap.get? dx=some (PySem.W.dictOf es n))
 (hs:findIn K (.ref O) "__setattr__"=some (some (.builtin "object.__setattr__"))) (hp:plainOver K O=true) (ht:takerIn K O name=some none) (U:hasDictIn K O=true)
 (hk:∀e∈es,e.refKey=false) (hz:es.length<=999)
 (h:∀h',Heap.SameBut dx s.heap h'->h'.get? dx=some (PySem.W.dictOf (putL name (PyData.keyHash P.w.params name) (.str name (s.toks+1)) v es) (putN name es n))->Q () {s with heap:=h',toks:=s.toks+2}):
 wpAny (model P.prog P.w) A (setAttr (.ref x) name v) Q E s:=
 set_plain X I hs (TS (s:={s with toks:=s.toks+1}) X I hd hp ht U hk hz h)
def JQ(n:Nat):Ob->Option cJ
| .inst K fs=>if mt K n=some none then fs.lookup n else none
|_=>none
def kb(M:LB)(v:cJ)(n:Nat):Option cJ:=(view M v).bind (JQ n)
noncomputable def xE:CV->Bool
| .other _=>false
|_=>true
theorem Oi{p:Pt}{x:cJ}{v:Value}(r:cM p x (cv v)):handedIn v=true:=by
 have h:xE (cv v)=true:=by
  cases x with
  |own=>exact iF.casesOn (motive:=λc _=>xE c=true) r λ_=>rfl
  |sh d=>cases d with
   |con t ds=>exact(dp.con r).casesOn (motive:=λc _=>xE c=true) λ_ _ _=>rfl
   |_=>exact(show cv v=_ from r)▸rfl
 cases v with
 |builtin=>exact cX h
 |_=>rfl
inductive Cd(p:Pt)(h:Heap)(K:Nat)(fs:List (Nat×cJ)):Value->Prop
 |mk {dx es n cs}:p.σ (dx+1)=some ⟨.inst K (fs.map (·.1)),cs⟩->InstAt h (dx+1) (instObj K dx) K (some (PySem.W.dictOf es n))->h.get? dx=some (PySem.W.dictOf es n)->lD es (fs.map (·.1)) cs->Rel2 (cM p) (fs.map (·.2)) cs->
  (fs.map (·.1)).Nodup->(∀m∈fs.map (·.1),m<iZ.length)->es.length<=1000->Cd p h K fs (.ref (dx+1))
section
variable{G:Gd}{F:Fc}{ρ:List CV}{p:Pt}{M:LB}(st:c5 p M){x:cJ}{u:Value}{X:H->Prop}{n:Nat}
include st
theorem EH{K:Nat}{fs:List (Nat×cJ)}{base h:Heap}{P:PW}(R:dY P base h p.σ)(hv:view M x=some (.inst K fs))(U:cM p x (cv u)):Cd p h K fs u:=by
 refine(fH st hv U).casesOn λ{a cs}e r=>?_
 have i:jz h K (fs.map (·.1)) cs a:=R.at_ _ _ e
 revert e
 exact i.casesOn λh1 O h3 h4 h5 h6 e=>⟨e,⟨h1,rfl,rfl,O⟩,O,h3,r,h4,h5,h6⟩
theorem CM{v:cJ}{expr:Bool}{K:KT}(h:kb M x n=some v)(U:cM p x (cv u))(k:K v M):Tr G F ρ p.σ (getAttr u (nm n) expr) (Got RV p K) X:=by
 refine Tr.same λA s am f=>?_
 obtain ⟨ob,hv,h⟩:=oB h
 cases ob with
 |inst C fs=>
  have h:(if mt C n=some none then fs.lookup n else none)=some v:=h
  split at h
  ·rename_i hm
   have ok:=G.cls _ _ _ hm
   refine(EH st am.rep hv U).casesOn λe I hd O r nd hl z=>?_
   have fr:=DZ ok.lt O r hl
   rw[h] at fr
   rcases D0 O fr with⟨e,_⟩|⟨_,w,e,g,rw⟩
   ·exact iP e
   ·cases e
    exact get_value am.K I (plainGet_of ok.plain).1 (findObj_own ok.dict ok.find rfl g) (Oi rw) ⟨rfl,rfl,rfl,.here st rw k⟩
  ·exact cR h
 |_=>exact cR h
end
noncomputable def lx(i:Int)(n:Nat):Nat:=if 0<=i then i.toNat else(i+n).toNat
def lb(xs:LV)(i:Int):Option cJ:=if -(xs.length:Int)<=i then xs[lx i xs.length]? else none
def Oz(y:cJ):Ob->Option cJ
| .list O=>(vInt y).bind (lb O)
| .tup O=>(vInt y).bind (lb O)
| .Z7 es=>(vInt y).bind (c6 es)
| .Z4 es=>(vStr y).bind (c6 es)
|_=>none
def fX(M:LB)(x y:cJ):Option cJ:=(view M x).bind (Oz y)
inductive lE(M:LB)(K:cJ->Prop)(x y:cJ):Prop
|v {u}:fX M x y=some u->K u->lE M K x y
|td {es u} {l:LJ}:view M x=some (.Z2 es)->c7 M y=some (.tup (l.map .int))->c6 es l=some u->K u->lE M K x y
noncomputable def mI(i:Int)(n:Nat):Nat:=if i<0 then n-(-i).toNat else min i.toNat n
def lQ{α:Type}(xs:List α)(lo hi:Option Int):List α:=(xs.drop ((lo.map λi=>mI i xs.length).getD 0)).take ((hi.map λi=>mI i xs.length).getD xs.length-(lo.map λi=>mI i xs.length).getD 0)
def xh:Option cJ->Option (Option Int)
|none=>some none
|some v=>(vInt v).map some
inductive fU(M:LB)(K:KT)(x:cJ):Option cJ->Option cJ->Prop
|list {lo hi l h ds}:xh lo=some l->xh hi=some h->c7 M x=some (.list ds)->ds.length<=mx->iY (lQ ds l h) M K->fU M K x lo hi
|YZ {i:Nat} {ds}:c7 M x=some (.tup ds)->ds.length<=mx->i<ds.length->K (.sh (.tup (ds.take i))) M->fU M K x none (some (.sh (.int i)))
|Y0 {i:Nat} {ds}:c7 M x=some (.tup ds)->ds.length<=mx->1<=i->i<=ds.length->K (.sh (.tup (ds.drop i))) M->fU M K x (some (.sh (.int i))) none
|str {s}:x=.sh (.str s)->s.length=1->K (.sh (.str s)) M->fU M K x none (some (.sh (.int 1)))
inductive pH(M:LB)(K:KT)(x:cJ):Prop
|mk {ds}:c7 M x=some (.list ds)->ds.length<=mx->iY ds.reverse M K->pH M K x
theorem xV{items:Array Value}{k:Nat}{v:CV}(h:(items.toList.map cv)[k]?=some v):∃x,items[k]?=some x/\cv x=v:=by
 rw[aA,Array.getElem?_toList] at h
 exact oM h
theorem SY{i:Int}{n:Nat}(U:-(n:Int)<=i)(O:lx i n<n):seqIndex? i n=some (lx i n):=by
 unfold seqIndex? lx at*
 by_cases h:i<0
 ·have:¬0<=i:=by lia
  simp only[this,if_false,h,if_true] at O⊢
  rw[al (by simp;lia)]
 ·have:0<=i:=by lia
  simp only[this,if_true,h,if_false] at O⊢
  rw[al (by simp;lia)]
theorem Do(l:LU)(lo hi:Option Int):(kms_pick l lo hi).map cv=lQ (l.map cv) lo hi:=by
 unfold kms_pick lQ
 rw[ag,List.map_take,List.map_drop]
 cases lo<;>cases hi<;>rfl
theorem Rel2.cut{α β:Type}{R:α->β->Prop}{as:List α}{bs:List β}(l h:Option Int)(r:Rel2 R as bs):Rel2 R (lQ as l h) (lQ bs l h):=by
 unfold Mine.Internal.lQ
 rw[r.len]
 exact(r.drop _).take _
section
variable{G:Gd}{qh:Bool}{d:Nat}{A:Around}{σ:H}{s:Shared}
theorem c8.ZG(a:c8 G qh d A σ s.heap)(o:Obj):St G σ s σ {s with heap:=s.heap.push o}:=⟨a.rep.keeps (ix o),.same (ix o),rfl,rfl⟩
end
theorem U4{Pw:PW}{A:Around}{E:Value->Shared->Prop}{s:Shared}{t sl:Addr}{items:Array Value}{b:Nat}{u:Tok}{Q:Value->Shared->Prop}(ht:IsTup s.heap t items)(hs:s.heap.IsSliceOf sl .none (.int b u) .none)(hb:b<items.size)
 (h:Q (.ref s.heap.objs.size) {s with heap:=s.heap.push {cls:=.type "tuple",data:=.seq (items.toList.take b).toArray}})
 (hsz:items.size<=sizeLine):wpAny (model Pw.prog Pw.w) A (getItem (.ref t) (.ref sl)) Q E s:=by
 have hz:sizeOk (.seq (items.toList.take b).toArray):=by
  show(items.toList.take b).toArray.size<=sizeLine
  rw[List.size_toArray,bb,aZ];lia
 obtain ⟨os,O,hcs,U⟩:=id hs
 have hTs:s.TypeIs (.ref sl) "slice":=⟨os,O,hcs⟩
 unfold getItem
 try with_reducible refine aY ?_
 first|refine ah (aw ?_)|skip
 refine ah (wpAny_sequenceKey ht.typeIs dQ ?_)
 refine ah (wpAny_callSpecial?_slot (name:=Str.ofString "__getitem__") ht.typeIs PyProof.Rows.slot_tuple_getitem
  (wpAny_call_entry PyProof.Rows.slot_tuple_getitem ht.typeIs PyProof.Rows.entry_tuple_getitem ?_ (PyProof.Rows.args_tuple_getitem _ _)))
 show wpAny _ _ (Builtin.Tuple.tupleItemsOf (.ref t)>>=_) _ _ s
 refine ah (tupleItemsOf_ ht ?_)
 refine ah (wpAny_typeOf hTs ?_)
 rw[al dQ]
 have adj:Builtin.Slice.sliceAdjust none (some (b:Int)) 1 (items.size:Int)=(0,(b:Int)):=by
  unfold Builtin.Slice.sliceAdjust
  have h1:¬((1:Int)<0):=by lia
  have h2:¬((b:Int)<0):=by lia
  simp only[h1,h2,if_false]
  congr 1
  lia
 have pl:Builtin.Slice.slicePlaces 0 (b:Int) 1=b:=by
  unfold Builtin.Slice.slicePlaces
  have h1:(1:Int)>0:=by lia
  simp only[h1,if_true,Int.ediv_one]
  split<;>lia
 have ap:∀(P:Int×Int×Nat->Shared->Prop)(E':Value->Shared->Prop)(A':Around),P (0,1,b) s->wpAny (model Pw.prog Pw.w) A' (Builtin.Slice.sliceApplied (.ref sl) (pure (items.size:Int))) P E' s:=λP E' A' hp=>by
  unfold Builtin.Slice.sliceApplied Builtin.Slice.sliceFields
  refine ah (ah (wpAny_field O U (x:=.none) rfl (ah (wpAny_field O U (x:=.int b u) rfl (ah (wpAny_field O U (x:=.none) rfl (aw ?_)))))))
  refine ah (slicePart_none ?_)
  show wpAny _ _ (if((1:Int)==0)=true then _ else _) _ _ s
  rw[av dQ]
  refine ah (slicePart_none (ah (slicePart_int (ah (aw ?_)))))
  show wpAny _ _ (match Builtin.Slice.sliceAdjust none (some (b:Int)) 1 (items.size:Int) with|(lo,hi)=>pure (lo,(1:Int),Builtin.Slice.slicePlaces lo hi 1)) _ _ s
  rw[adj]
  show wpAny _ _ (pure ((0:Int),(1:Int),Builtin.Slice.slicePlaces 0 (b:Int) 1)) _ _ s
  rw[pl]
  exact aw hp
 refine ah (ap _ _ _ ?_)
 have hno:¬(((0:Int)==0&&(1:Int)==1&&b==items.size)=true):=by
  have:(b==items.size)=false:=by rw[ca];lia
  rw[this];simp
 show wpAny _ _ (if((0:Int)==0&&(1:Int)==1&&b==items.size)=true then _ else _) _ _ s
 rw[av hno]
 have pk:((List.range b).filterMap λ(k:Nat)=>items[((0:Int)+(k:Int)*1).toNat]?).toArray=(items.toList.take b).toArray:=by
  have e:(λ(k:Nat)=>items[((0:Int)+(k:Int)*1).toNat]?)=λk=>items[0+k]?:=by
   funext k
   have:((0:Int)+(k:Int)*1).toNat=0+k:=by lia
   rw[this]
  rw[e]
  have:=pick_run items 0 b
  rw[List.filterMap_map] at this
  have e2:((λx=>items[x]?)∘λx=>0+x)=λk=>items[0+k]?:=rfl
  rw[e2] at this
  rw[this];simp
 rw[pk]
 first
  |exact ah (m:=Builtin.Tuple.tupleExact _) (bJ (aw ⟨_,rfl,aw h⟩) hz)
  |exact ah (m:=Builtin.Tuple.tupleExact _) (bJ (ah (aw (aw ⟨_,rfl,aw h⟩))) hz)
  |exact ah (ah (m:=Builtin.Tuple.tupleExact _) (bJ (aw (aw ⟨_,rfl,aw h⟩)) hz))
  |exact ah (ah (m:=Builtin.Tuple.tupleExact _) (bJ (aw ⟨_,rfl,aw h⟩) hz))
section
variable{G:Gd}{F:Fc}{ρ:List CV}{p:Pt}{M:LB}(st:c5 p M){x y:cJ}{u v:Value}{X:H->Prop}
include st
theorem OB{k:Int}{t:Tok}{xs:LV}{w:cJ}{A:Around}{s:Shared}{value slice:Expr}{E Q:Value->Shared->Prop}{a:Nat}{cs:List CV}(i:IsL s.heap a cs)(r:Rel2 (cM p) xs cs)(h:lb xs k=some w)
 (hs:subscripted slice false (.ref a) (.int k t)=operate [.ref a,.int k t] (getItem (.ref a) (.int k t))) (q:∀z,cM p w (cv z)->Q z s):wpAny (model G.prog G.w) A (subscriptTail value slice (.ref a) (.int k t)) Q E s:=by
 revert r
 refine i.casesOn λ{its}hp hz r=>?_
 unfold lb at h
 split at h
 ·rename_i h0
  have e:=fY (f:=cv) (l:=its.toList) r.len
  refine(Rel2.get r h).casesOn λhb rb=>?_
  obtain ⟨z,O,e'⟩:=xV hb
  subst e'
  rw[←e] at h0 O
  have b1:its.size<2^63:=aX hz dQ
  have U:=(Array.getElem?_eq_some_iff.mp O).1
  unfold lx at O U
  by_cases hk:0<=k
  ·rw[al hk] at O U
   exact tail_any (eN hp).typeIs PySem.slot_list_getitem.lookup (wpAny_getItem_list (eN hp) hk (by lia) O (q _ rb)) hs
  ·rw[av hk] at O U
   exact tail_any (eN hp).typeIs PySem.slot_list_getitem.lookup (wpAny_getItem_list_neg (eN hp) (by lia) h0 (by lia) O (q _ rb)) hs
 ·exact cR h
theorem OD{k:Int}{t:Tok}{xs:LV}{w:cJ}{A:Around}{s:Shared}{value slice:Expr}{E Q:Value->Shared->Prop}{a:Nat}{cs:List CV}(i:IsT s.heap a cs)(r:Rel2 (cM p) xs cs)(h:lb xs k=some w)
 (hs:subscripted slice false (.ref a) (.int k t)=operate [.ref a,.int k t] (getItem (.ref a) (.int k t))) (q:∀z,cM p w (cv z)->Q z s):wpAny (model G.prog G.w) A (subscriptTail value slice (.ref a) (.int k t)) Q E s:=by
 revert r
 refine i.casesOn λ{U}hp hz r=>?_
 unfold lb at h
 split at h
 ·rename_i h0
  have e:=fY (f:=cv) (l:=U.toList) r.len
  refine(Rel2.get r h).casesOn λhb rb=>?_
  obtain ⟨z,O,e'⟩:=xV hb
  subst e'
  rw[←e] at h0 O
  have b1:U.size<2^63:=aX hz dQ
  have hlt:=(Array.getElem?_eq_some_iff.mp O).1
  have hj:=SY h0 hlt
  have b2:k<2^63:=by unfold lx at hlt;split at hlt<;>lia
  exact item_tupleT (l:=U.toList) hp (by lia) b2 hj (Array.getElem?_toList▸O) (q _ rb) hs
 ·exact cR h
theorem OC{value slice:Expr}{K:KT}(h:lE M (λw=>K w M) x y)(rx:cM p x (cv u))(ry:cM p y (cv v))(hs:∀o i,subscripted slice false o i=operate [o,i] (getItem o i)):
 Tr G F ρ p.σ (subscriptTail value slice u v) (Got RV p K) X:=by
 refine Tr.same λA s am f=>?_
 have fin:∀{w z s'},K w M->cM p w (cv z)->s'.heap=s.heap->s'.os=s.os->s'.gens=s.gens->pL (λv=>Got RV p K v p.σ) s z s':=λk r e1 e2 e3=>⟨e1,e2,e3,.here st r k⟩
 cases h with
 |v h k=>
  obtain ⟨ob,hv,h⟩:=oB h
  refine(fH st hv rx).casesOn λ{a cs}e r=>?_
  cases ob with
  |list xs=>
   obtain ⟨i,e1,h⟩:=oB h
   cases mq e1
   exact(fM ry).casesOn λt=>OB (G:=G) st (show IsL s.heap a cs from am.rep.at_ _ _ e) r h (hs _ _) λz rz=>fin k rz rfl rfl rfl
  |tup xs=>
   obtain ⟨i,e1,h⟩:=oB h
   cases mq e1
   exact(fM ry).casesOn λt=>OD (G:=G) st (show IsT s.heap a cs from am.rep.at_ _ _ e) r h (hs _ _) λz rz=>fin k rz rfl rfl rfl
  |Z7 es=>
   obtain ⟨i,e1,h⟩:=oB h
   cases mq e1
   refine(fM ry).casesOn λt=>?_
   have j:iC G.toPW s.heap a (es.map (·.1)) cs:=am.rep.at_ _ _ e
   generalize O:es.map (·.1)=ks at j
   clear e
   revert r O
   refine j.casesOn λ{U}hd r O=>?_
   rcases rS i O r with⟨e,_⟩|⟨w',z,e,f,rw⟩
   ·exact(ez e h).elim
   ·cases e.symm.trans h
    exact tail_any hd.dictOf.typeIs PySem.slot_dict_getitem.lookup (wpAny_getItem_of (knd:=intKind G.prog G.w) (k:=i) (by simp[intKind,Value.isInt]) hd.dictOf.mapOf (by show(U.find? _).map _=_;rw[f];rfl) (fin k rw rfl rfl rfl)) (hs _ _)
  |Z4 es=>
   obtain ⟨i,e1,h⟩:=oB h
   cases BJ e1
   refine(iH ry).casesOn λt=>?_
   have j:jH G.toPW s.heap a (es.map (·.1)) cs:=am.rep.at_ _ _ e
   generalize O:es.map (·.1)=ks at j
   clear e
   revert r O
   refine j.casesOn λ{U}hd r O=>?_
   rcases rS i O r with⟨e,_⟩|⟨w',z,e,f,rw⟩
   ·exact(ez e h).elim
   ·cases e.symm.trans h
    exact tail_any hd.typeIs PySem.slot_dict_getitem.lookup (wpAny_getItem_of (knd:=PySem.strKind G.prog G.w) (k:=i) (PySem.strKind_is _ _ i t) hd.mapOf (by show(U.find? _).map _=_;rw[f];rfl) (fin k rw rfl rfl rfl)) (hs _ _)
  |_=>exact cR h
 |td hv hk h k=>
  rename_i es u' l
  refine(iU st hk ry).casesOn λ{b ks}e' r'=>(fH st hv rx).casesOn λ{a cs}e r=>?_
  have key:=vr am.rep e' r'
  have j:jI G.toPW s.heap a (es.map (·.1)) cs:=am.rep.at_ _ _ e
  generalize O:es.map (·.1)=ks at j
  clear e
  revert r O
  refine j.casesOn λ{U}hd r O=>?_
  rcases rS l O r with⟨e,_⟩|⟨w',z,e,f,rw⟩
  ·exact(ez e h).elim
  ·cases e.symm.trans h
   exact tail_any hd.typeIs PySem.slot_dict_getitem.lookup (wpAny_getItem_heap (knd:=tupleKind (intKind G.prog G.w)) (k:=l) (r4 am) key hd (p:=z.2) (by show(U.find? _).map _=_;rw[f];rfl) (fin k rw rfl rfl rfl)) (hs _ _)
end
inductive kQ(p:Pt):Option cJ->Value->Prop
|no:kQ p none .none
|so {w v}:cM p w (cv v)->kQ p (some w) v
theorem part_of{p:Pt}{o:Option cJ}{v:Value}{l:Option Int}(r:kQ p o v)(h:xh o=some l):IsPart v l:=by
 cases r with
 |no=>cases h;exact .none
 |so r=>
  obtain ⟨i,e,rfl⟩:=oM h
  cases mq e
  exact(fM r).casesOn λt=>.int _ _
theorem kQ.nat{p:Pt}{i:Int}{v:Value}(r:kQ p (some (.sh (.int i))) v):uq i v:=by cases r with|so r=>exact fM r
theorem kQ.none{p:Pt}{v:Value}(r:kQ p Option.none v):v=.none:=by cases r;rfl
section
variable{G:Gd}{p:Pt}{M:LB}(st:c5 p M){x:cJ}{o vl vu:Value}{A:Around}{s:Shared}{qh:Bool}{d:Nat}(am:c8 G qh d A p.σ s.heap){K:KT}{E:Value->Shared->Prop}{value sl:Expr}
include st am
theorem U3{lo hi:Option cJ}(h:fU M K x lo hi)(rx:cM p x (cv o))(rl:kQ p lo vl)(ru:kQ p hi vu)(hs:∀o i,∃O,subscripted sl false o i=operate O (getItem o i)):
 wpAny (model G.prog G.w) A (newFields "slice" [vl,vu,.none]) (λi s₁=>wpAny (model G.prog G.w) A (subscriptTail value sl o i) (e8 G p.σ s (Got RV p K)) E s₁) E s:=by
 refine bJ ?_
 cases h with
 |@list _ _ l u ds e1 e2 h hz k=>
  have s1:=am.ZG {cls:=.type "slice",data:=.fields #[vl,vu,.none]}
  have a1:=am.on s1
  have isl:=Heap.IsSliceOf.new s.heap vl vu .none
  refine(iU st h rx).casesOn λ{a cs}e r=>?_
  have i:IsL _ a cs:=a1.rep.at_ _ _ e
  clear e
  revert r
  refine i.casesOn λ{U}hp _ r=>?_
  have e:=fY (f:=cv) (l:=U.toList) r.len
  obtain ⟨O,ho⟩:=hs (.ref a) (.ref s.heap.objs.size)
  have ec:(slicePick U l u none).toList.map cv=lQ (U.toList.map cv) l u:=by rw[kms_pick_eq];exact Do _ _ _
  have rr:=r.cut l u
  rw[←ec] at rr
  have hle:(slicePick U l u none).size<=mx:=by
   have:=aj List.length ec
   rw[ag,aZ] at this
   rw[this]
   exact ae (bK ..) (ae (cb ..▸Nat.sub_le _ _) (by rw[ag,aZ,e];exact hz))
  exact tail_any (eN hp).typeIs PySem.slot_list_getitem.lookup (wpAny_getItem_list_slice (eN hp) isl (part_of rl e1) (part_of ru e2) .none (λq=>cR q)
   (.mk (s1.trans (a1.list (ix _) (.size _) (qL _ _) hle ⟨rfl,rfl⟩)) (qd st (a1.rep.fresh (ao _)) rr k)) (iu (e.symm▸hz))) ho
 |@YZ i ds h hz hi k=>
  cases rl.none
  refine ru.nat.casesOn λt=>?_
  have s1:=am.ZG {cls:=.type "slice",data:=.fields #[.none,.int i t,.none]}
  have a1:=am.on s1
  have isl:=Heap.IsSliceOf.new s.heap .none (.int i t) .none
  refine(iU st h rx).casesOn λ{a cs}e r=>?_
  have j:IsT _ a cs:=a1.rep.at_ _ _ e
  clear e
  revert r
  refine j.casesOn λ{U}hp _ r=>?_
  have e:=fY (f:=cv) (l:=U.toList) r.len
  obtain ⟨O,ho⟩:=hs (.ref a) (.ref s.heap.objs.size)
  have rr:=r.take i
  rw[←List.map_take] at rr
  exact tail_any hp.typeIs PyProof.Rows.slot_tuple_getitem.lookup (U4 hp isl (e.symm▸hi) (.mk (s1.trans (a1.tup (items:=(U.toList.take i).toArray) (ix _) (.size _) (qM _ _) (by
   rw[List.size_toArray,bb,aZ,e];exact ae (Nat.min_le_right _ _) hz) ⟨rfl,rfl⟩)) (oq st (a1.rep.fresh (ao _)) trivial rr k)) (iu (e.symm▸hz))) ho
 |@Y0 i ds h hz h1 hi k=>
  cases ru.none
  refine rl.nat.casesOn λt=>?_
  have s1:=am.ZG {cls:=.type "slice",data:=.fields #[.int i t,.none,.none]}
  have a1:=am.on s1
  have isl:=Heap.IsSliceOf.new s.heap (.int i t) .none .none
  refine(iU st h rx).casesOn λ{a cs}e r=>?_
  have j:IsT _ a cs:=a1.rep.at_ _ _ e
  clear e
  revert r
  refine j.casesOn λ{U}hp _ r=>?_
  have e:=fY (f:=cv) (l:=U.toList) r.len
  obtain ⟨O,ho⟩:=hs (.ref a) (.ref s.heap.objs.size)
  have rr:=r.drop i
  rw[←List.map_drop] at rr
  exact tail_any hp.typeIs PyProof.Rows.slot_tuple_getitem.lookup (getItem_tuple_from hp isl h1 (e.symm▸hi) (.mk (s1.trans (a1.tup (items:=(U.toList.drop i).toArray) (ix _) (.size _) (qM _ _) (by
   rw[List.size_toArray,cb,aZ,e];exact ae (Nat.sub_le _ _) hz) ⟨rfl,rfl⟩)) (oq st (a1.rep.fresh (ao _)) trivial rr k)) (iu (e.symm▸hz))) ho
 |@str x e h1 k=>
  subst e
  cases rl.none
  refine ru.nat.casesOn λt2=>?_
  refine(iH rx).casesOn λt=>?_
  obtain ⟨O,ho⟩:=hs (.str x t) (.ref s.heap.objs.size)
  refine tail_any (T:="str") (typeIs_str _ x t) PyProof.Rows.slot_str_getitem.lookup (wpAny_getItem_str_slice (l:=none) (u:=some (1,t2)) (st:=none) (Heap.IsSliceOf.new s.heap .none (.int 1 t2) .none) rfl ?_) ho
  have e:sliceMade x t none (some (1,t2)) none=.val (.str x t):=by
   unfold sliceMade slicePicked
   rw[h1];rfl
  rw[e]
  exact .mk (am.ZG _) (kA (d:=.str x) st rfl k)
theorem Ul{vk:Value}(hk:IsPart vk (some (-1)))(h:pH M K x)(rx:cM p x (cv o))(hs:∀o i,∃O,subscripted sl false o i=operate O (getItem o i)):
 wpAny (model G.prog G.w) A (newFields "slice" [.none,.none,vk]) (λi s₁=>wpAny (model G.prog G.w) A (subscriptTail value sl o i) (e8 G p.σ s (Got RV p K)) E s₁) E s:=by
 have s1:=am.ZG {cls:=.type "slice",data:=.fields #[.none,.none,vk]}
 have a1:=am.on s1
 have isl:=Heap.IsSliceOf.new s.heap .none .none vk
 refine bJ ?_
 cases h with
 |mk h hz k=>
  refine(iU st h rx).casesOn λ{a cs}e r=>?_
  have i:IsL _ a cs:=a1.rep.at_ _ _ e
  clear e
  revert r
  refine i.casesOn λ{U}hp _ r=>?_
  have e:=fY (f:=cv) (l:=U.toList) r.len
  obtain ⟨O,ho⟩:=hs (.ref a) (.ref s.heap.objs.size)
  have ec:(slicePick U none none (some (-1))).toList.map cv=(U.toList.map cv).reverse:=by rw[krv_pick];simp
  have rr:=r.rev
  rw[←ec] at rr
  have hle:(slicePick U none none (some (-1))).size<=mx:=by
   have:=aj List.length ec
   rw[ag,aZ,List.length_reverse,ag,aZ] at this
   rw[this,e];exact hz
  exact tail_any (eN hp).typeIs PySem.slot_list_getitem.lookup (wpAny_getItem_list_slice (eN hp) isl .none .none hk (λq=>nomatch q)
   (.mk (s1.trans (a1.list (ix _) (.size _) (qL _ _) hle ⟨rfl,rfl⟩)) (qd st (a1.rep.fresh (ao _)) rr k)) (iu (e.symm▸hz))) ho
end
theorem Gn:Value.type "list"≠Value.type "tuple":=by decide
theorem Ah:Value.type "dict"≠Value.type "tuple":=by decide
inductive wY(p:Pt)(j:Nat)(ob:Ob):Value->Prop
|mk {a cs}:p.as[j]?=some a->p.μ a=none->p.σ a=some ⟨ob.tag,cs⟩->Rel2 (cM p) ob.vals cs->wY p j ob (.ref a)
theorem mf{p:Pt}{M:LB}(st:c5 p M){j:Nat}{ob:Ob}{v:Value}(hm:M[j]?=some ob)(l:ob.ZY=none)(r:cM p (.own j) (cv v)):wY p j ob v:=by
 have r:iF p.as j (cv v):=r
 generalize e:cv v=c at r
 exact r.casesOn (motive:=λc _=>cv v=c->wY p j ob v) (λO e=>rN e▸(st.live O hm l).casesOn λa b c=>⟨O,a,b,c⟩) e
theorem Dv{p:Pt}{K:Type}[DecidableEq K]{α:Type}{f:α->K}{g:α->Value}{u:cJ}{w:Value}{k:K}(hu:cM p u (cv w))(up:α->α)(x0:α)(hf:∀x,f (up x)=f x)(hy:∀x,f x=k->g (up x)=w)(hn:∀x,f x≠k->up x=x)(h0:f x0=k)(g0:g x0=w)
 {es:List (K×cJ)} {l l':List α} (O:es.map (·.1)=l.map f) (h2:Rel2 (cM p) (es.map (·.2)) (l.map λx=>cv (g x))) (e:l'=if(l.any λx=>decide (f x=k))=true then l.map up else l++[x0]):
 (dq es k u).map (·.1)=l'.map f/\Rel2 (cM p) ((dq es k u).map (·.2)) (l'.map λx=>cv (g x)):=by
 have ha:(es.any λx=>decide (x.1=k))=(l.any λx=>decide (f x=k)):=by
  have:=aj (List.any · λx=>decide (x=k)) O
  rw[List.any_map,List.any_map] at this
  exact this
 subst e
 unfold dq
 rw[ha]
 split
 ·rename_i hh
  clear ha hh
  induction es generalizing l with
  |nil=>cases l with
   |nil=>exact⟨rfl,rfl⟩
   |cons=>exact wN O
  |cons e es ih=>cases l with
   |nil=>exact jE O
   |cons x l=>
    obtain ⟨U,e2⟩:=bZ O
    have U:e.1=f x:=U
    obtain ⟨i1,i2⟩:=ih e2 (Rel2.tl h2)
    by_cases q:e.1=k
    ·rw[aN,aN,al q,aN,aN,aN,aN,hf,i1,hy x (U▸q)]
     exact⟨aj (·::_) U,hu,i2⟩
    ·rw[aN,aN,av q,aN,aN,aN,aN,hf,i1,hn x (U▸q)]
     exact⟨aj (·::_) U,Rel2.hd h2,i2⟩
 ·rw[ay,ay,ay,ay,O]
  exact⟨aj (_++[·]) h0.symm,Rel2.app (show Rel2 _ [u] [cv (g x0)] from⟨g0▸hu,rfl⟩) h2⟩
theorem HS{p:Pt}{K:Type}[DecidableEq K]{u:cJ}{w:Value}{k:K}(hu:cM p u (cv w)){es:List (K×cJ)}{l:List (K×Value)}(U:es.map (·.1)=l.map (·.1))(O:Rel2 (cM p) (es.map (·.2)) (l.map λx=>cv x.2)):
 (dq es k u).map (·.1)=(stored l k w).map (·.1)/\Rel2 (cM p) ((dq es k u).map (·.2)) ((stored l k w).map λx=>cv x.2):=
 Dv (f:=λx:K×Value=>x.1) (g:=λx=>x.2) hu (λx=>if x.1=k then(x.1,w) else x) (k,w) (λx=>by show(if _ then _ else _:K×Value).1=_;split<;>rfl) (λx q=>by show(if _ then _ else _:K×Value).2=_;rw[al q]) (λx q=>av q) rfl rfl U O rfl
theorem Vf{p:Pt}{K:Type}[DecidableEq K]{u:cJ}{w:Value}{k:K}{a:Addr}(hu:cM p u (cv w)){es:List (K×cJ)}{l:List (K×Addr×Value)}(U:es.map (·.1)=l.map (·.1))(O:Rel2 (cM p) (es.map (·.2)) (l.map λx=>cv x.2.2)):
 (dq es k u).map (·.1)=(storedH l k a w).map (·.1)/\Rel2 (cM p) ((dq es k u).map (·.2)) ((storedH l k a w).map λx=>cv x.2.2):=
 Dv (f:=λx:K×Addr×Value=>x.1) (g:=λx=>x.2.2) hu (putAt k w) (k,a,w) (λx=>by show(if _ then _ else _:K×Addr×Value).1=_;split<;>rfl) (λx q=>by show(if _ then _ else _:K×Addr×Value).2.2=_;rw[al q]) (λx q=>av q) rfl rfl U O (by
  have:(atKey l k).isSome=l.any λx=>decide (x.1=k):=by unfold atKey;rw[Option.isSome_map,List.isSome_find?]
  unfold storedH;rw[this])
theorem AK{h:Heap}{l:Nat}{items:Array Value}(hp:h.PlainList l items)(f:Array Value->Array Value):(h.update l (Obj.mapSeq f)).PlainList l (f items):=by
 obtain ⟨n,hp⟩:=hp
 exact⟨_,cy _ hp rfl⟩
theorem UC{U:PW}{A:Around}{E:Value->Shared->Prop}{s:Shared}{l:Addr}{items:Array Value}{k:Int}{t:Tok}{v:Value}{Q:Unit->Shared->Prop}(hp:s.heap.PlainList l items)
 (h0:0<=k) (O:k<2^63) (hn:k<items.size)
 (hQ:Q () {s with heap:=s.heap.update l (Obj.mapSeq (·.setIfInBounds k.toNat v))}):
 wpAny (model U.prog U.w) A (setItem (.ref l) (.int k t) v) Q E s:=by
 have hl:=eN hp
 obtain ⟨o,ho,hc,ne,hd⟩:=id hl
 unfold setItem
 try with_reducible refine aY ?_
 first|refine ah (aw ?_)|skip
 refine ah (wpAny_sequenceKey hl.typeIs dQ ?_)
 refine ah (wpAny_callSpecial?_slot (name:=Str.ofString "__setitem__") hl.typeIs PySem.slot_list_setitem
  (wpAny_call_entry PySem.slot_list_setitem hl.typeIs PySem.entry_list_setitem ?_ (PySem.args_list_setitem _ _ _)))
 show wpAny _ _ (Builtin.List.listSubscript? (.int k t)>>=_) _ _ s
 refine ah (wpAny_listSubscript_int (fitsIndex_of h0 O) ?_)
 clear O
 obtain ⟨j,rfl⟩:=Int.eq_ofNat_of_zero_le h0
 have hj:j<items.size:=by exact aV.mp (by assumption)
 have hx:items[j]?=some items[j]:=Array.getElem?_eq_getElem hj
 show wpAny _ _ ((seqItemAt l j>>=λr=>pure (r.map (j,·)))>>=_) _ _ s
 refine ah (ah (wpAny_seqItemAt ho hd (aw ?_)))
 rw[hx]
 show wpAny _ _ (setSeqItemAt l j v>>=_) _ _ s
 refine ah (wpAny_setSeqItemAt ho hd ?_)
 first
  |exact ah (aw (aw ⟨.none,rfl,aw hQ⟩))
  |exact aw ⟨.none,rfl,aw hQ⟩
theorem HR{K:Type}[DecidableEq K](kvs:List (K×Value))(k:K)(v:Value):(stored kvs k v).length=if k∈kvs.map (·.1) then kvs.length else kvs.length+1:=by
 unfold stored
 have:(kvs.any λO=>decide (O.1=k))=true↔k∈kvs.map (·.1):=by simp
 by_cases h:k∈kvs.map (·.1)
 ·rw[al (this.mpr h),al h,ag]
 ·rw[av λq=>h (this.mp q),av h];simp
theorem UB{U:PW}{A:Around}{E:Value->Shared->Prop}{s:Shared}{dd:Addr}{kvs:List (Int×Value)}{k:Int}{t:Tok}{v:Value}{Q:Unit->Shared->Prop}(hm:s.heap.DictAt (intKind U.prog U.w) dd kvs kvs.length)
 (hsz:kvs.length<=sizeLine)
 (hQ:∀h',h'.DictAt (intKind U.prog U.w) dd (stored kvs k v) (stored kvs k v).length->Heap.SameBut dd s.heap h'->Q () {s with heap:=h',toks:=s.toks+1}):
 wpAny (model U.prog U.w) A (setItem (.ref dd) (.int k t) v) Q E s:=by
 have hkey:(intKind U.prog U.w).is k (.int k t)=true:=by simp[intKind,Value.isInt]
 have hT:=hm.dictOf.typeIs
 obtain ⟨o,es,ho,hc,hd,hk,hp,hn⟩:=hm
 have hes:es.size=kvs.length:=by rw[←hp.length];simp
 have hidx:(es.findIdx? λe=>(intKind U.prog U.w).is k e.key)=kvs.findIdx? λkv=>decide (kv.1=k):=by
  rw[←hp.findIdx k];obtain ⟨l⟩:=es;simp
 unfold setItem
 try with_reducible refine aY ?_
 refine ah (wpAny_sequenceKey hT dQ ?_)
 refine ah (wpAny_callSpecial?_slot (name:=Str.ofString "__setitem__") hT PySem.slot_dict_setitem
  (wpAny_call_entry PySem.slot_dict_setitem hT PySem.entry_dict_setitem ?_ (PySem.args_dict_setitem _ _ _)))
 show wpAny _ _ (Builtin.Dict.notOrdered "__setitem__" ⟨[.ref dd,.int k t,v],[]⟩>>=_) _ _ s
 refine ah (wpAny_notOrdered_dict hT ?_)
 show wpAny _ _ (dictSet dd (.int k t) v>>=_) _ _ s
 refine ah (az (Q:=λ_ s'=>Q () s') (E:=E) ?_ (λ_ s' q=>aw ⟨.none,rfl,aw q⟩) λ_ _ x=>x)
 unfold dictSet
 try with_reducible refine aY ?_
 refine ah ((intKind U.prog U.w).pyHash hkey ?_)
 unfold dictSetHashed
 try with_reducible refine aY ?_
 refine ah (wpAny_dictFind_of (s:={s with toks:=s.toks+1}) hkey ho hd hk ?_)
 cases hi:es.findIdx? λe=>(intKind U.prog U.w).is k e.key with
 |some i=>
  have O:=any_of_findIdx_some (hidx▸hi)
  have hin:k∈kvs.map (·.1):=by simpa using O
  refine ah (wpAny_rule (ah (wpAny_updateDict (s:={s with toks:=s.toks+1}) ho hd (wpAny_point (hQ _ ?_ (Heap.SameBut.update ..))))))
  rw[HR,al hin]
  refine⟨_,_,cy _ ho (Obj.isFreed_of_dict (Obj.data_mapDict hd _)),hc.mapDict _,Obj.data_mapDict hd _,hk.modify _ _,?_,?_⟩
  ·rw[stored,al O]
   have hl:(es.toList.findIdx? λe=>(intKind U.prog U.w).is k e.key)=some i:=by rw[←hi];obtain ⟨l⟩:=es;simp
   have:=hp.modify hn hl v
   obtain ⟨l⟩:=es
   simpa using this
  ·rw[stored,al O,keys_map_store];exact hn
 |none=>
  have hnot:k∉kvs.map (·.1):=not_mem_of_findIdx_none (hidx▸hi)
  have O:¬(kvs.any λkv=>decide (kv.1=k))=true:=λq=>hnot (by simpa using q)
  refine ah (wpAny_rule (wpAny_updateDictKeys (hz:=by lia) (s:={s with toks:=s.toks+1}) ho hd (hQ _ ?_ (Heap.SameBut.update ..))))
  rw[HR,av hnot]
  refine⟨_,_,cy _ ho (Obj.isFreed_of_dict (Obj.data_mapDictKeys hd _)),hc.mapDictKeys _,Obj.data_mapDictKeys hd _,hk.push hkey _,?_,?_⟩
  ·rw[stored,av O]
   have:=hp.append hkey ((intKind U.prog U.w).hash k) v
   obtain ⟨l⟩:=es
   simpa using this
  ·rw[stored,av O,ay,bH]
   exact⟨hn,by simp,λa ha b hb e=>by simp at hb;subst hb;exact hnot (e▸ha)⟩
inductive iS(M:LB)(K:XT)(v:cJ):cJ->cJ->Prop
|list {j xs} {i:Int}:M[j]?=some (.list xs)->0<=i->i<xs.length->K (M.set j (.list (xs.set i.toNat v)))->iS M K v (.own j) (.sh (.int i))
|Z7 {j es i}:M[j]?=some (.Z7 es)->es.length<=mx->K (M.set j (.Z7 (dq es i v)))->iS M K v (.own j) (.sh (.int i))
|Z4 {j es i}:M[j]?=some (.Z4 es)->es.length<=mx->K (M.set j (.Z4 (dq es i v)))->iS M K v (.own j) (.sh (.str i))
|Z2 {j es y} {l:LJ}:M[j]?=some (.Z2 es)->c7 M y=some (.tup (l.map .int))->es.length<=mx->K (M.set j (.Z2 (dq es l v)))->iS M K v (.own j) y
section
variable{p:Pt}{M:LB}(st:c5 p M){K:XT}
include st
theorem rZ{j a:Nat}{cs:List CV}{ob ob':Ob}(ha:p.as[j]?=some a)(hm:M[j]?=some ob)(l:ob.ZY=none)(O:ob'.ZY=none)(r:Rel2 (cM p) ob'.vals cs)(k:K (M.set j ob')):dk p K (dR p.σ a ⟨ob'.tag,cs⟩):=(st.put ha hm l O r).elim λs g=>⟨g,s,k⟩
end
section
variable{G:Gd}{F:Fc}{ρ:List CV}{p:Pt}{M:LB}(st:c5 p M){K:XT}{X:H->Prop}{x y z:cJ}{u v w:Value}
include st
theorem Ve(h:iS M K z x y)(rx:cM p x (cv u))(ry:cM p y (cv v))(rz:cM p z (cv w)):Tr G F ρ p.σ (setItem u v w) (λ_=>dk p K) X:=by
 intro A s am f
 cases h with
 |list hm h0 h1 k=>
  rename_i j xs i
  refine(fM ry).casesOn λt=>(mf st hm rfl rx).casesOn λ{a cs}ha _ e r=>?_
  have q:IsL s.heap a cs:=am.rep.at_ _ _ e
  revert e r
  refine q.casesOn λ{its}hp hz e r=>?_
  have el:=fY (f:=cv) (l:=its.toList) r.len
  have el:its.size=xs.length:=el
  have hlt:i<its.size:=el▸h1
  refine UC hp h0 (Int.lt_of_lt_of_le hlt (Int.le_trans (b7.mpr hz) dQ)) hlt ?_
  have hp':=AK hp (·.setIfInBounds i.toNat w)
  have rr:Rel2 (cM p) (xs.set i.toNat z) ((its.setIfInBounds i.toNat w).toList.map cv):=by rw[Array.toList_setIfInBounds,List.map_set];exact r.set rz _
  exact⟨hp.elim λn g=>am.upd (o':=⟨.list,_⟩) e rfl rfl g (λ_ _ c _=>Gn c) (Heap.SameBut.update ..) (IsL.mk hp' (by rw[Array.size_setIfInBounds];exact hz)) ⟨rfl,rfl⟩,rZ (ob':=.list _) st ha hm rfl rfl rr k⟩
 |Z7 hm hz k=>
  rename_i j es i
  refine(fM ry).casesOn λt=>(mf st hm rfl rx).casesOn λ{a cs}ha _ e r=>?_
  have q:iC G.toPW s.heap a (es.map (·.1)) cs:=am.rep.at_ _ _ e
  have e':∃o,p.σ a=some o/\o.t.Z0=false:=⟨_,e,rfl⟩
  generalize O:es.map (·.1)=ks at q
  clear e
  revert r O
  refine q.casesOn λ{U}hd r O=>?_
  have el:U.length=es.length:=by have:=aj List.length O;rw[ag,ag] at this;exact this.symm
  refine UB hd (iu (el▸hz)) λh' hd' hs=>?_
  obtain ⟨e1,e2⟩:=HS (k:=i) rz O r
  exact e'.elim λo e=>hd.elim λ_ g=>g.elim λ_ g=>⟨am.upd (o':=⟨.Z7 _,_⟩) e.1 e.2 rfl g.1 (λ_ _ c _=>Ah (g.2.1.1.symm.trans c)) hs (e1▸iC.mk hd') ⟨rfl,rfl⟩,rZ (ob':=.Z7 _) st ha hm rfl rfl e2 k⟩
 |Z4 hm hz k=>
  rename_i j es i
  refine(iH ry).casesOn λt=>(mf st hm rfl rx).casesOn λ{a cs}ha _ e r=>?_
  have q:jH G.toPW s.heap a (es.map (·.1)) cs:=am.rep.at_ _ _ e
  have e':∃o,p.σ a=some o/\o.t.Z0=false:=⟨_,e,rfl⟩
  generalize O:es.map (·.1)=ks at q
  clear e
  revert r O
  refine q.casesOn λ{U}hd r O=>?_
  have el:U.length=es.length:=by have:=aj List.length O;rw[ag,ag] at this;exact this.symm
  refine wpAny_setItem_pairs (knd:=PySem.strKind G.prog G.w) (k:=i) (PySem.strKind_is _ _ i t) hd (λh' hd' hs=>?_) (iu (el▸hz))
  obtain ⟨e1,e2⟩:=HS (k:=i) rz O r
  exact e'.elim λo e=>hd.elim λ_ g=>g.elim λ_ g=>g.elim λ_ g=>⟨am.upd (o':=⟨.Z4 _,_⟩) e.1 e.2 rfl g.1 (λ_ _ c _=>Ah (g.2.1.1.symm.trans c)) hs (e1▸jH.mk hd') ⟨rfl,rfl⟩,rZ (ob':=.Z4 _) st ha hm rfl rfl e2 k⟩
 |Z2 hm hk hz k=>
  rename_i j es l
  refine(iU st hk ry).casesOn λ{b ks}eb rb=>(mf st hm rfl rx).casesOn λ{a cs}ha _ e r=>?_
  have key:=vr am.rep eb rb
  have q:jI G.toPW s.heap a (es.map (·.1)) cs:=am.rep.at_ _ _ e
  have e':∃o,p.σ a=some o/\o.t.Z0=false:=⟨_,e,rfl⟩
  generalize O:es.map (·.1)=ks at q
  clear e
  revert r O
  refine q.casesOn λ{U}hd r O=>?_
  have el:U.length=es.length:=by have:=aj List.length O;rw[ag,ag] at this;exact this.symm
  refine wpAny_setItem_heap (knd:=tupleKind (intKind G.prog G.w)) (k:=l) (r4 am) key hd (λh' hd' hs=>?_) (iu (el▸hz))
  obtain ⟨e1,e2⟩:=Vf (k:=l) (a:=b) rz O r
  exact e'.elim λo e=>hd.elim λ_ g=>g.elim λ_ g=>g.elim λ_ g=>⟨am.upd (o':=⟨.Z2 _,_⟩) e.1 e.2 rfl g.1 (λ_ _ c _=>Ah (g.2.1.1.symm.trans c)) hs (e1▸jI.mk hd') ⟨rfl,rfl⟩,rZ (ob':=.Z2 _) st ha hm rfl rfl e2 k⟩
theorem UH{j C n:Nat}{fs:List (Nat×cJ)}(hm:M[j]?=some (.inst C fs))(ht:mt C n=some none)(hz:fs.length<=900)(ru:cM p (.own j) (cv u))(rz:cM p z (cv w))(k:K (M.set j (.inst C (dq fs n z)))):Tr G F ρ p.σ (setAttr u (nm n) w) (λ_=>dk p K) X:=by
 intro A s am f
 have ok:=G.cls _ _ _ ht
 have O:=G.set _ _ ht
 refine(mf st hm rfl ru).casesOn λ{a cs}ha _ e r=>?_
 have q:jz s.heap C (fs.map (·.1)) cs a:=am.rep.at_ _ _ e
 revert e ha
 refine q.casesOn λ{dx es n'}h1 h2 h3 h4 h5 h6 ha e=>?_
 have U:es.length<=900:=by rw[NJ h3,ag];exact hz
 refine TU am.K ⟨h1,rfl,rfl,h2⟩ h2 O.set O.over O.YE ok.dict (D1 h3) (ae U dQ) λh' hs hd'=>?_
 obtain ⟨cs',r1,r2⟩:=NK ok.lt rz h3 r h5 h4
 have hx':h'.get? (dx+1)=some (instObj C dx):=(hs.2 _ (Nat.succ_ne_self dx)).trans h1
 have kn:((dq fs n z).map (·.1)).Nodup/\∀m∈(dq fs n z).map (·.1),m<iZ.length:=by
  rw[Ng]
  split
  ·exact⟨h4,h5⟩
  ·rename_i q
   exact⟨bH.mpr ⟨h4,List.pairwise_singleton _ n,λx hx y hy e=>q (aF.mp hy▸e▸hx)⟩,λm hm=>(aI.mp hm).elim (h5 m) λq=>aF.mp q▸ok.lt⟩
 refine .mk (σ':=dR p.σ (dx+1) ⟨.inst C _,cs'⟩) ⟨am.rep.update (L:=dx) e (λ_=>rfl) (.inr ⟨rfl,rfl⟩) (λ_ _=>trivial) hs h2 (λ_ _ _ d=>nomatch d) (jz.mk hx' hd' r1 kn.1 kn.2 (ae (wi ..) (ae (aK U) dQ))) (λq=>absurd q.symm (Nat.succ_ne_self dx)),
  .exact λb y hb nb=>⟨(hs.2 b λq=>nb (.dx (q▸e) rfl)).trans hb,λq=>nb (AH e (λ_=>rfl) q)⟩,rfl,rfl⟩ (rZ (ob':=.inst C _) st ha hm rfl rfl r2 k)
end
inductive MK where
|fn (f:Nat)|bi (k:Nat)
noncomputable def vJ:List (Nat×Nat×String×String):=[(72,0,"list","list.append"),(75,0,"list","list.extend"),(93,0,"list","list.pop"),(36,0,"list","list.index"),(26,1,"dict","dict.get"),(94,2,"str","str.startswith")]
def vI(n:Nat):String:=((vJ.lookup n).getD (0,"","")).2.1
def vH(n:Nat):String:=((vJ.lookup n).getD (0,"","")).2.2
def kC(k n:Nat):Option MK:=(vJ.lookup n).bind λx=>if x.1=k then some (.bi k) else none
inductive uw(k:Nat)(n:Nat):Prop
|mk:vI n=(match k with|0=>"list"|1=>"dict"|_=>"str")->PlainAttrs (vI n)->Slot (vI n) (nm n) (vH n)->typeOf (.builtin (vH n))=pure (.type "method_descriptor")->uw k n
theorem QV{α β:Type}[BEq α][LawfulBEq α]{l:List (α×β)}{a:α}{b:β}(h:l.lookup a=some b):(a,b)∈l:=by
 induction l with
 |nil=>exact cR h
 |cons x l O=>
  rw[bQ] at h
  cases q:a==x.1 with
  |true=>rw[q] at h;cases h;rw[eq_of_beq q];exact .head _
  |false=>rw[q] at h;exact .tail _ (O h)
theorem lZ{k n:Nat}{m:MK}(h:kC k n=some m):m=.bi k/\uw k n:=by
 obtain ⟨x,U,O⟩:=oB h
 obtain ⟨rfl,e⟩:=gu O
 refine⟨e.symm,?_⟩
 have all:∀y∈vJ,uw y.2.1 y.1:=by
  refine List.forall_mem_cons.mpr ⟨⟨rfl,F.plainAttrs_list,F.slot_list_append,F.type_list_append⟩,List.forall_mem_cons.mpr ⟨⟨rfl,F.plainAttrs_list,F.slot_list_extend,F.type_list_extend⟩,List.forall_mem_cons.mpr ⟨⟨rfl,F.plainAttrs_list,F.slot_list_pop,F.type_list_pop⟩,
   List.forall_mem_cons.mpr ⟨⟨rfl,F.plainAttrs_list,F.slot_list_index,F.type_list_index⟩,List.forall_mem_cons.mpr ⟨⟨rfl,F.plainAttrs_dict,F.slot_dict_get,F.type_dict_get⟩,List.forall_mem_cons.mpr ⟨⟨rfl,F.plainAttrs_str,F.slot_str_startswith,F.type_str_startswith⟩,λ_ h=>dh h⟩⟩⟩⟩⟩⟩
 exact all _ (QV U)
def Fv(n:Nat):Ob->Option MK
| .inst K fs=>if(fs.lookup n).isNone then(mt K n).bind λo=>o.map .fn else none
| .list _=>kC 0 n
| .Z7 _=>kC 1 n
| .Z4 _=>kC 1 n
| .Z2 _=>kC 1 n
|_=>none
def jR(M:LB)(v:cJ)(n:Nat):Option MK:=match vStr v with
|some _=>kC 2 n
|none=>(view M v).bind (Fv n)
inductive MethP(M:LB)(K:KT)(v:cJ):Nat->LV->Prop
|app {j xs x}:v=.own j->M[j]?=some (.list xs)->xs.length<=mx->K (.sh .none) (M.set j (.list (xs++[x])))->MethP M K v 72 [x]
|ext {j xs ys y}:v=.own j->M[j]?=some (.list xs)->view M y=some (.list ys)->y≠.own j->xs.length+ys.length<=mx->K (.sh .none) (M.set j (.list (xs++ys)))->MethP M K v 75 [y]
|pop {j xs x}:v=.own j->M[j]?=some (.list (xs++[x]))->xs.length+1<=mx->K x (M.set j (.list xs))->MethP M K v 93 []
|index {xs x} {is:LQ}:view M v=some (.list xs)->xs=is.map (λi=>.sh (.str i))->is.length<=mx->x∈is->K (.sh (.int (is.idxOf x:Nat))) M->MethP M K v 36 [.sh (.str x)]
|Zo {es k x}:view M v=some (.Z7 es)->K ((c6 es k).getD x) M->MethP M K v 26 [.sh (.int k),x]
|Zn {es k}:view M v=some (.Z7 es)->K ((c6 es k).getD (.sh .none)) M->MethP M K v 26 [.sh (.int k)]
|Zd {es k x}:view M v=some (.Z4 es)->K ((c6 es k).getD x) M->MethP M K v 26 [.sh (.str k),x]
|Zc {es t x} {l:LJ}:view M v=some (.Z2 es)->c7 M t=some (.tup (l.map .int))->K ((c6 es l).getD x) M->MethP M K v 26 [t,x]
|starts {x y}:v=.sh (.str x)->K (.sh (.bool (Txt.startswith x y))) M->MethP M K v 94 [.sh (.str y)]
inductive V1(R:CV->Prop):LU->Prop
|mk {u}:R (cv u)->V1 R [u]
inductive V2(R S:CV->Prop):LU->Prop
|mk {u v}:R (cv u)->S (cv v)->V2 R S [u,v]
section
variable{R:cJ->CV->Prop}{x y:cJ}{vals:LU}
theorem IR(h:Rel2 R [] (vals.map cv)):vals=[]:=List.map_eq_nil_iff.mp h
theorem vals1(h:Rel2 R [x] (vals.map cv)):V1 (R x) vals:=by
 cases vals with
 |nil=>exact nomatch(show eV _ _ [] from h)
 |cons u vs=>cases IR (Rel2.tl h);exact⟨Rel2.hd h⟩
theorem vals2(h:Rel2 R [x,y] (vals.map cv)):V2 (R x) (R y) vals:=by
 cases vals with
 |nil=>exact nomatch(show eV _ _ [] from h)
 |cons u vs=>exact(vals1 (Rel2.tl h)).casesOn (motive:=λvs _=>V2 (R x) (R y) (u::vs)) λq=>⟨Rel2.hd h,q⟩
end
theorem Nm{xs:List CV}{y:CV}{U:Array Value}(e:U.toList.map cv=xs++[y]):∃u,U[U.size-1]?=some u/\cv u=y/\(U.eraseIdxIfInBounds (U.size-1)).toList.map cv=xs:=by
 have hz:U.size=xs.length+1:=by have:=aj List.length e;simpa using this
 have h1:(U.toList.map cv)[U.size-1]?=some y:=by rw[e,hz];simp
 obtain ⟨u,hu,h2⟩:=xV h1
 refine⟨u,hu,h2,?_⟩
 have O:U.size-1<U.size:=by lia
 unfold Array.eraseIdxIfInBounds
 rw[dif_pos O,Array.toList_eraseIdx,List.eraseIdx_eq_take_drop_succ,ay,List.map_take,List.map_drop,e,hz]
 simp
theorem HU:∀{vs:LU}{ns:LQ},StrsAre vs ns->∀y∈vs,∃z t,y=.str z t
 |_,_,.nil,_,h=>by exact dh h
 |_,_,.cons _ _ r,y,h=>by
  rcases aM.mp h with rfl|h
  ·exact⟨_,_,rfl⟩
  ·exact HU r y h
theorem ED{t:Tok}:∀{vs:LU}{ns:LQ}{x:Str},StrsAre vs ns->x∈ns->
 ∃h:ns.idxOf x<vs.length,(vs[ns.idxOf x]).isStr x=true/\(∀m(hm:m<vs.length),m<ns.idxOf x->(vs[m]).isStr x=false)
 |_,_,x,.nil,h=>by exact dh h
 |_::vs,y::U,x,.cons _ u r,h=>by
  by_cases e:y=x
  ·subst e
   have O:(y::U).idxOf y=0:=by simp
   refine⟨by rw[O];simp,?_,λm hm hl=>by rw[O] at hl;lia⟩
   simp only[O];simp[Value.isStr]
  ·have hx:x∈U:=by
    rcases aM.mp h with q|q
    ·exact absurd q.symm e
    ·exact q
   obtain ⟨h1,h2,h3⟩:=ED (t:=t) r hx
   have e1:(y==x)=false:=by simpa using e
   have O:(y::U).idxOf x=U.idxOf x+1:=by rw[List.idxOf_cons,e1];rfl
   refine⟨by rw[O];simpa using h1,?_,λm hm hl=>?_⟩
   ·simp only[O];simpa using h2
   ·cases m with
    |zero=>simp[Value.isStr,e]
    |succ m=>rw[O] at hl;simpa using h3 m (by simpa using hm) (by lia)
noncomputable def oy(i:Int):LJ->LJ
|[]=>[i]
|j::r=>if i<=j then i::j::r else j::oy i r
def lW(l:LJ):LJ:=l.foldr oy []
theorem yi(i:Int):∀l:LJ,(oy i l).Perm (i::l)
 |[]=>.refl _
 |j::r=>by
  unfold oy
  split
  ·exact .refl _
  ·exact((yi i r).cons j).trans (.swap i j r)
theorem vg:∀l:LJ,(lW l).Perm l
|[]=>.refl _
|i::r=>(yi i (lW r)).trans ((vg r).cons i)
theorem EG(i:Int):∀l:LJ,l.Pairwise (·<=·)->(oy i l).Pairwise (·<=·)
 |[],_=>by simp[oy]
 |j::r,h=>by
  unfold oy
  rw[List.pairwise_cons] at h
  split
  ·rename_i q
   refine List.pairwise_cons.mpr ⟨λa ha=>?_,List.pairwise_cons.mpr h⟩
   rcases aM.mp ha with rfl|ha
   ·exact q
   ·exact Int.le_trans q (h.1 a ha)
  ·rename_i q
   refine List.pairwise_cons.mpr ⟨λa ha=>?_,EG i r h.2⟩
   rcases aM.mp ((yi i r).mem_iff.mp ha) with rfl|ha
   ·lia
   ·exact h.1 a ha
theorem EN:∀l:LJ,(lW l).Pairwise (·<=·)
|[]=>.nil
|i::r=>EG i _ (EN r)
theorem EM{a b:LJ}(p:a.Perm b)(o:a.Pairwise (·<=·)):a=lW b:=
 List.Perm.eq_of_pairwise (λ_ _ _ _=>Int.le_antisymm) o (EN b) (p.trans (vg b).symm)
theorem ve:∀{vs:LU}{ns:LJ},IntsAre vs ns->vs.length=ns.length
 |_,_,.nil=>rfl
 |_,_,.cons _ _ r=>by simp[ve r]
theorem Br{P:PW}{A:Around}{s:Shared}{E:Value->Shared->Prop}{r:Nat}{ns:LJ}{Q:Value->Shared->Prop}
 (U:∀(R:LU->Shared->Prop),(∀(h':Heap)tk vs,(∀b o,s.heap.get? b=some o->h'.get? b=some o)->IntsAre vs ns->R vs {s with heap:=h',toks:=tk})->wpAny (model P.prog P.w) A.in1 (collect (.ref r)) R E s)
 (h64:ns.length<64)
 (h:∀(B:Nat)(h':Heap)tk vs' e,(∀b o,s.heap.get? b=some o->h'.get? b=some o)->jc s.heap B->h'.get? B=some {cls:=.type "list",dict:=none,data:=.seq vs' e,slots:=#[]}->IntsAre vs'.toList (lW ns)->Q (.ref B) {s with heap:=h',toks:=tk}):
 wpAny (model P.prog P.w) A (call (.builtin "sorted") [.ref r]) Q E s:=by
 refine call_function_entry kind_sorted plain_sorted entry_sorted (args_sorted1 _) ?_
 unfold Builtin.«sorted»
 refine ah (m:=checkCount "sorted" 1 1 _) (aw ?_)
 refine ah (U _ λh1 tk vs k1 hI=>?_)
 have hl:=ve hI
 refine ah (wpAny_newList ?_ (by rw[hl];unfold sizeLine;lia))
 have ho:(h1.push (seqObj "list" vs.toArray 0)).get? h1.objs.size=some (seqObj "list" vs.toArray 0):=bY _ rfl
 refine ah (aY (wpAny_call_entry slot_list_sort ⟨_,ho,rfl⟩ entry_list_sort (list_sort_tree ho hI (by rw[hl];exact h64) λout ns' a1 a2 a3=>⟨_,rfl,?_⟩) (args_list_sort _)))
 obtain ⟨e,he⟩:=sortedHeap_at (out:=out) ho
 refine aw ⟨_,rfl,h h1.objs.size _ tk out e (λb o hb=>?_) (λb y hb=>bD (k1 b y hb)) he (EM a2 a3▸a1)⟩
 have O:=k1 b o hb
 rw[sortedHeap_old (bz (bD O)) (by rw[size_push'];exact Nat.lt_succ_of_lt (bD O))]
 exact bt _ O
theorem OJ(i:Nat)(h:i<100):(Str.ofString (toString (i:Int))).length<=20:=by
 have:∀i:Fin 100,(Str.ofString (toString ((i:Nat):Int))).length<=20:=by decide+kernel
 exact this ⟨i,h⟩
theorem Rel2.split{α β:Type}{R:α->β->Prop}{as:List α}{a:α}:∀{bs:List β},Rel2 R (as++[a]) bs->∃bs' b,bs=bs'++[b]/\Rel2 R as bs'/\R a b:=by
 induction as with
 |nil=>exactλh=>eV.casesOn (motive:=λbs _=>∃bs' b,bs=bs'++[b]/\Rel2 R [] bs'/\R a b) h λ{b bs}x y=>⟨[],b,aj _ (show bs=[] from y),rfl,x⟩
 |cons x O U=>exactλh=>eV.casesOn (motive:=λbs _=>∃bs' b,bs=bs'++[b]/\Rel2 R (x::O) bs'/\R a b) h λ{b bs}p q=>(U q).elim λbs' r=>r.elim λb' r=>⟨b::bs',b',aj _ r.1,⟨p,r.2.1⟩,r.2.2⟩
theorem OK{μ:H}{is:LJ}{vs:LU}(h:IntsAre vs is):dW μ (is.map .int) (vs.map cv):=by
 induction h with
 |nil=>exact rfl
 |cons i t _ O=>exact⟨rfl,O⟩
section
variable{G:Gd}{p:Pt}{M:LB}(st:c5 p M){v:cJ}{u:Value}{vals:LU}{A:Around}{s:Shared}{qh:Bool}{d:Nat}(am:c8 G qh d A p.σ s.heap){K:KT}{E:Value->Shared->Prop}
include st am
theorem yB{j a:Nat}{xs ys:LV}{x:cJ}{z:Value}{U its':Array Value}{s':Shared}(ha:p.as[j]?=some a)(hm:M[j]?=some (.list xs))(e:∃o,p.σ a=some o/\o.t.Z0=false)(hp:s.heap.PlainList a U)(hs:Heap.SameBut a s.heap s'.heap)(O:s'.heap.PlainList a its')
 (hz:its'.size<=2^25) (fx:Fx s s') (r:Rel2 (cM p) ys (its'.toList.map cv)) (rx:cM p x (cv z)) (k:K x (M.set j (.list ys))):e8 G p.σ s (Got RV p K) z s':=
 e.elim λo e=>hp.elim λn g=>(st.put (ob':=.list ys) ha hm rfl rfl r).elim λq g'=>.mk (am.upd (o':=⟨.list,its'.toList.map cv⟩) e.1 e.2 rfl g (λ_ _ c _=>Gn c) hs (IsL.mk O hz) fx) (.mk (x:=x) g' q (rx.gr g') k)
theorem u7{O:Type}[DecidableEq O]{α:Type}{f:α->O}{g:α->Value}{es:List (O×cJ)}{l:List α}{k:O}{x:cJ}{y:Value}{Q:cJ->Prop}{R:Value->Prop}(h1:es.map (·.1)=l.map f)(h2:Rel2 (cM p) (es.map (·.2)) (l.map λx=>cv (g x)))(ry:cM p x (cv y))
 (q:Q ((c6 es k).getD x)) (fin:∀w z,Q w->cM p w (cv z)->R z):R (((l.find? λx=>decide (f x=k)).map g).getD y):=by
 rcases rS k h1 h2 with⟨U,e2⟩|⟨w,z,U,e2,r⟩
 ·rw[U] at q;rw[e2];exact fin _ _ q ry
 ·rw[U] at q;rw[e2];exact fin _ _ q r
theorem Ra{n:Nat}{args:LV}(h:MethP M K v n args)(rv:cM p v (cv u))(ra:Rel2 (cM p) args (vals.map cv)):wpAny (model G.prog G.w) A (call (.builtin (vH n)) (u::vals)) (e8 G p.σ s (Got RV p K)) E s:=by
 have fin:∀{w z}{s':Shared},K w M->cM p w (cv z)->s'.heap=s.heap->s'.os=s.os->s'.gens=s.gens->e8 G p.σ s (Got RV p K) z s':=λk r e1 e2 e3=>.mk ⟨e1▸am.rep,e1▸.refl _ _ _,e2,e3⟩ (.here st r k)
 cases h with
 |app e hm hz k=>
  subst e
  refine(vals1 ra).casesOn λ{w}rw=>(mf st hm rfl rv).casesOn λ{a cs}ha _ e r=>?_
  have i:IsL s.heap a cs:=am.rep.at_ _ _ e
  have e':∃o,p.σ a=some o/\o.t.Z0=false:=⟨_,e,rfl⟩
  clear e
  revert r
  refine i.casesOn λ{U}hp hz2 r=>?_
  have el:=fY (f:=cv) (l:=U.toList) r.len
  have hz:=el▸hz
  exact wpAny_list_append_plain hp (λh' hp2 hs=>yB (x:=.sh .none) st am ha hm e' hp hs hp2 (by rw[Array.size_push];exact ae (aK hz) dQ) ⟨rfl,rfl⟩ (by rw[Array.toList_push,ay];exact Rel2.app (show Rel2 _ [_] [cv w] from⟨rw,rfl⟩) r) rfl k) (iu hz)
 |@ext j xs ys y e hm hy hne hz k=>
  subst e
  refine(vals1 ra).casesOn λ{w}rw=>(mf st hm rfl rv).casesOn λ{a cs}ha hn e r=>(fH st hy rw).casesOn λ{b cs2}e2 r2=>?_
  have i:IsL s.heap a cs:=am.rep.at_ _ _ e
  have i2:IsL s.heap b cs2:=am.rep.at_ _ _ e2
  have e':∃o,p.σ a=some o/\o.t.Z0=false:=⟨_,e,rfl⟩
  clear e e2
  revert r r2
  refine i.casesOn λ{U}hp hz2=>i2.casesOn λ{O}hp2 _ r r2=>?_
  have el:=fY (f:=cv) (l:=U.toList) r.len
  have el2:=fY (f:=cv) (l:=O.toList) r2.len
  have hz:(U++O).size<=mx:=by rw[Array.size_append,el,el2];exact hz
  have hz':U.size+O.size<=mx:=Array.size_append▸hz
  obtain ⟨c,hc⟩:=hp
  obtain ⟨c2,hc2⟩:=hp2
  refine call_meets F.slot_list_extend ⟨_,hc,rfl⟩ F.entry_list_extend (F.args_list_extend_2 _ _) (AutoSeq1.list_extend_list_list_0 a U c b O c2 (by
   simp[Builtin.List.listTooLong];intro _;unfold mx at hz';unfold sizeLine;lia) (iu (ae (aW _ _) hz')) (bW (iu hz'))) ⟨hc,hc2,?_⟩
  exact yB (x:=.sh .none) st am ha hm e' ⟨c,hc⟩ (Heap.SameBut.update ..) (AK ⟨c,hc⟩ λx=>x++O) (vK hz) ⟨rfl,rfl⟩ (by rw[Array.toList_append,ay];exact r2.app r) rfl k
 |@pop j xs x e hm hz k=>
  subst e
  cases IR ra
  refine(mf st hm rfl rv).casesOn λ{a cs}ha hn e r=>?_
  have i:IsL s.heap a cs:=am.rep.at_ _ _ e
  have e':∃o,p.σ a=some o/\o.t.Z0=false:=⟨_,e,rfl⟩
  clear e
  revert r
  refine i.casesOn λ{U}hp hz2 r=>?_
  have el:=fY (f:=cv) (l:=U.toList) r.len
  have hz0:=hz
  have hz:U.size<=mx:=by rw[el];exact ak ..▸hz
  obtain ⟨cs',b,es,r1,r2⟩:=Rel2.split r
  obtain ⟨z,hu,rfl,he⟩:=Nm es
  obtain ⟨c,hc⟩:=hp
  refine call_meets F.slot_list_pop ⟨_,hc,rfl⟩ F.entry_list_pop (F.args_list_pop_1 _) (MeetsSeq.list_pop_last a U c z hu (iu hz)) ⟨hc,?_⟩
  refine yB (its':=U.eraseIdxIfInBounds (U.size-1)) (ys:=xs) st am ha hm e' ⟨c,hc⟩ (Heap.SameBut.update ..) (AK ⟨c,hc⟩ λxs=>xs.eraseIdxIfInBounds (U.size-1)) ?_ ⟨rfl,rfl⟩ (he.symm▸r1) r2 k
  have:=aj List.length (he.trans rfl)
  rw[ag,aZ] at this
  rw[this,r1.len]
  exact ae (aU _) (vK hz0)
 |@index xs x is hv e hz hx k=>
  subst e
  refine(vals1 ra).casesOn λ{w}rw=>(iH rw).casesOn λt=>(fH st hv rv).casesOn λ{a cs}e r=>?_
  have i:IsL s.heap a cs:=am.rep.at_ _ _ e
  clear e
  revert r
  refine i.casesOn λ{U}hp hz2 r=>?_
  have hns:=Bv (tR r)
  have j4:=HU hns
  obtain ⟨j1,j2,j3⟩:=ED (t:=t) hns hx
  obtain ⟨c,hc⟩:=hp
  refine call_meets F.slot_list_index ⟨_,hc,rfl⟩ F.entry_list_index (F.args_list_index_2 _ _) (SeqAt.list_indexAt a U c none #[] (.str x t) (λy=>y.isStr x) (is.idxOf x) j1 (by have:is.idxOf x<U.size:=j1;lia) j2 j3) ⟨hc,λy hy=>?_,fin k rfl rfl rfl rfl⟩
  obtain ⟨z,t2,rfl⟩:=j4 y (Array.mem_def.mp hy)
  exactλprog w E Q q=>wpAny_eqBool_str (by rw[show decide (z=x)=(Value.str z t2).isStr x from Bool.eq_iff_iff.mpr (by simp[Value.isStr])];exact q)
 |Zo hv k=>
  rename_i es i x
  refine(vals2 ra).casesOn λ{w z}rw rz=>(fM rw).casesOn λt=>(fH st hv rv).casesOn λ{a cs}e r=>?_
  have ns:=am.rep.ns e
  have j:iC G.toPW s.heap a (es.map (·.1)) cs:=am.rep.at_ _ _ e
  generalize ek:es.map (·.1)=ks at j
  clear e
  revert r ek
  exact j.casesOn λ{kvs}hd r ek=>call_meetsIn F.slot_dict_get hd.dictOf.typeIs F.entry_dict_get (F.args_dict_get_3 _ _ _) (meets_dict_get_default (intKind G.prog G.w) (k:=i) a (by simp[intKind,Value.isInt]) ns z) ⟨_,hd.dictOf.mapOf,u7 (R:=λz=>wants (e8 G p.σ s (Got RV p K)) E (.ok (.ret z)) _) st am ek r rz k λw z k r=>fin k r rfl rfl rfl⟩
 |Zn hv k=>
  rename_i es i
  refine(vals1 ra).casesOn λ{w}rw=>(fM rw).casesOn λt=>(fH st hv rv).casesOn λ{a cs}e r=>?_
  have ns:=am.rep.ns e
  have j:iC G.toPW s.heap a (es.map (·.1)) cs:=am.rep.at_ _ _ e
  generalize ek:es.map (·.1)=ks at j
  clear e
  revert r ek
  exact j.casesOn λ{kvs}hd r ek=>call_meetsIn F.slot_dict_get hd.dictOf.typeIs F.entry_dict_get (F.args_dict_get_2 _ _) (meets_dict_get (intKind G.prog G.w) (k:=i) a (by simp[intKind,Value.isInt]) ns) ⟨_,hd.dictOf.mapOf,u7 (x:=.sh .none) (y:=.none) (R:=λz=>wants (e8 G p.σ s (Got RV p K)) E (.ok (.ret z)) _) st am ek r rfl k λw z k r=>fin k r rfl rfl rfl⟩
 |Zd hv k=>
  rename_i es i x
  refine(vals2 ra).casesOn λ{w z}rw rz=>(iH rw).casesOn λt=>(fH st hv rv).casesOn λ{a cs}e r=>?_
  have ns:=am.rep.ns e
  have j:jH G.toPW s.heap a (es.map (·.1)) cs:=am.rep.at_ _ _ e
  generalize ek:es.map (·.1)=ks at j
  clear e
  revert r ek
  exact j.casesOn λ{kvs}hd r ek=>call_meetsIn F.slot_dict_get hd.typeIs F.entry_dict_get (F.args_dict_get_3 _ _ _) (meets_dict_get_default (PySem.strKind G.prog G.w) (k:=i) a (PySem.strKind_is _ _ i t) ns z) ⟨_,hd.mapOf,u7 (R:=λz=>wants (e8 G p.σ s (Got RV p K)) E (.ok (.ret z)) _) st am ek r rz k λw z k r=>fin k r rfl rfl rfl⟩
 |Zc hv hk k=>
  rename_i es tt x l
  refine(vals2 ra).casesOn λ{w z}rw rz=>(iU st hk rw).casesOn λ{b ks}eb rb=>(fH st hv rv).casesOn λ{a cs}e r=>?_
  have key:=vr am.rep eb rb
  have ns:=am.rep.ns e
  have j:jI G.toPW s.heap a (es.map (·.1)) cs:=am.rep.at_ _ _ e
  generalize ek:es.map (·.1)=ks at j
  clear e
  revert r ek
  refine j.casesOn λ{kvs}hd r ek=>?_
  have e:(atKey kvs l).map (·.2)=(kvs.find? λx=>decide (x.1=l)).map λx=>x.2.2:=by unfold atKey;rw[Option.map_map];rfl
  exact call_meetsIn F.slot_dict_get hd.typeIs F.entry_dict_get (F.args_dict_get_3 _ _ _) (meetsH_dict_get_default (tupleKind (intKind G.prog G.w)) a b ns z) ⟨r4 am,l,kvs,key,hd,e▸u7 (R:=λz=>wants (e8 G p.σ s (Got RV p K)) E (.ok (.ret z)) _) st am ek r rz k λw z k r=>fin k r rfl rfl rfl⟩
 |starts e k=>
  subst e
  exact(vals1 ra).casesOn λ{w}rw=>(iH rw).casesOn λt=>(iH rv).casesOn λt'=>SC.startswith (fin k rfl rfl rfl rfl)
end
inductive fJ(M:LB)(K:KT):BI->LV->Prop
|len {x xs}:view M x=some (.list xs)∨view M x=some (.tup xs)->xs.length<=mx->K (.sh (.int (xs.length:Nat))) M->fJ M K .len [x]
|list {x ds}:c7 M x=some (.list ds)∨c7 M x=some (.tup ds)->ds.length<=mx->iY ds M K->fJ M K .list [x]
|tuple {x ds}:c7 M x=some (.list ds)->ds.length<=mx->K (.sh (.tup ds)) M->fJ M K .tuple [x]
|sorted {x} {is:LJ}:is.length<64->c7 M x=some (.list (is.map .int))∨c7 M x=some (.tup (is.map .int))∨(∃es,view M x=some (.Z7 es)/\es.map (·.1)=is)->iY ((lW is).map .int) M K->fJ M K .sorted [x]
|abs {i}:K (.sh (.int (if i<0 then -i else i))) M->fJ M K .abs [.sh (.int i)]
|int {b}:K (.sh (.int (if b then 1 else 0))) M->fJ M K .int [.sh (.bool b)]
|str {i}:0<=i->i<100->(∀x:Str,x.length<=20->K (.sh (.str x)) M)->fJ M K .str [.sh (.int i)]
theorem Na{P:PW}{kvs:List (Int×Value)}{vs:LU}(hl:vs.length=kvs.length)
 (hv:∀(j:Nat)(v:Value),vs[j]?=some v->∃k x,kvs[j]?=some (k,x)/\(intKind P.prog P.w).is k v=true):IntsAre vs (kvs.map (·.1)):=by
 induction kvs generalizing vs with
 |nil=>cases vs with
  |nil=>exact .nil
  |cons=>exact uh hl
 |cons x kvs O=>cases vs with
  |nil=>exact nA hl
  |cons v vs=>
   have r:=O (bO hl) λj v h=>hv (j+1) v h
   obtain ⟨k,y,e,hi⟩:=hv 0 v rfl
   cases aq e
   cases v with
   |int a t=>rw[show a=k from by simpa [intKind,Value.isInt] using hi];exact .cons _ _ r
   |_=>simp[intKind,Value.isInt] at hi
section
variable{G:Gd}{p:Pt}{M:LB}(st:c5 p M){vals:LU}{A:Around}{s:Shared}{d:Nat}{qh:Bool}(am:c8 G qh d A p.σ s.heap){K:KT}{E:Value->Shared->Prop}
include st am
theorem Ff{x:cJ}{u:Value}{xs:LV}(h:view M x=some (.list xs)∨view M x=some (.tup xs))(hz:xs.length<=mx)(r:cM p x (cv u)){Q:Value->Shared->Prop}(q:∀t s',s'.heap=s.heap->s'.os=s.os->s'.gens=s.gens->Q (.int (xs.length:Nat) t) s'):wpAny (model G.prog G.w) A (call (.builtin "len") [u]) Q E s:=by
 rcases h with h|h
 ·refine(fH st h r).casesOn λ{a cs}e r=>?_
  have i:IsL s.heap a cs:=am.rep.at_ _ _ e
  clear e
  revert r
  refine i.casesOn λ{U}hp _ r=>?_
  have O:U.size=xs.length:=fY (f:=cv) (l:=U.toList) r.len
  exact call_len_list (eN hp) (O.symm▸FI hz) (O▸q _ _ rfl rfl rfl)
 ·refine(fH st h r).casesOn λ{a cs}e r=>?_
  have i:IsT s.heap a cs:=am.rep.at_ _ _ e
  clear e
  revert r
  refine i.casesOn λ{U}hp _ r=>?_
  have O:U.size=xs.length:=fY (f:=cv) (l:=U.toList) r.len
  exact len_tuple hp (O.symm▸FI hz) (O▸q _ _ rfl rfl rfl)
omit am in
theorem JY(am:c8 G true d A p.σ s.heap){b:BI}{args:LV}(h:fJ M K b args)(ra:Rel2 (cM p) args (vals.map cv)):wpAny (model G.prog G.w) A (call (rJ b) vals) (e8 G p.σ s (Got RV p K)) E s:=by
 have fin:∀{w z}{s':Shared},K w M->cM p w (cv z)->s'.heap=s.heap->s'.os=s.os->s'.gens=s.gens->e8 G p.σ s (Got RV p K) z s':=λk r e1 e2 e3=>.mk ⟨e1▸am.rep,e1▸.refl _ _ _,e2,e3⟩ (.here st r k)
 have nl:∀{B:Nat}{items:Array Value}{s':Shared}{ds:LD},(∀b o,s.heap.get? b=some o->s'.heap.get? b=some o)->jc s.heap B->s'.heap.PlainList B items->items.size<=mx->Fx s s'->dW p.μ ds (items.toList.map cv)->iY ds M K->e8 G p.σ s (Got RV p K) (.ref B) s':=
  λk f O hz fx r h=>.mk (am.list k f O hz fx) (qd st (am.rep.Zw f (ao _)) r h)
 cases h with
 |len h hz k=>exact(vals1 ra).casesOn λrw=>Ff st am h hz rw λt s' e1 e2 e3=>fin k rfl e1 e2 e3
 |list h hz k=>
  refine(vals1 ra).casesOn λ{w}rw=>h.elim (λh=>?_) λh=>?_
  ·refine(iU st h rw).casesOn λ{a cs}e r=>?_
   have i:IsL s.heap a cs:=am.rep.at_ _ _ e
   clear e
   revert r
   refine i.casesOn λ{U}O _ r=>O.elim λn O=>?_
   have el:=fY (f:=cv) (l:=U.toList) r.len
   exact call_list_seq a (.inl rfl) O rfl rfl (λh' c' kp hl'=>nl kp (.size _) ⟨_,hl'⟩ (el▸hz) ⟨rfl,rfl⟩ r k) (iu (el▸hz))
  ·refine(iU st h rw).casesOn λ{a cs}e r=>?_
   have i:IsT s.heap a cs:=am.rep.at_ _ _ e
   clear e
   revert r
   refine i.casesOn λ{U}O _ r=>O.elim λo O=>O.2.2.elim λn hd=>?_
   have el:=fY (f:=cv) (l:=U.toList) r.len
   exact call_list_seq a (.inr rfl) O.1 O.2.1 hd (λh' c' kp hl'=>nl kp (.size _) ⟨_,hl'⟩ (el▸hz) ⟨rfl,rfl⟩ r k) (iu (el▸hz))
 |tuple h hz k=>
  refine(vals1 ra).casesOn λ{w}rw=>(iU st h rw).casesOn λ{a cs}e r=>?_
  have i:IsL s.heap a cs:=am.rep.at_ _ _ e
  clear e
  revert r
  refine i.casesOn λ{U}O _ r=>?_
  have el:=fY (f:=cv) (l:=U.toList) r.len
  refine call_tuple_list (eN O) (λh' kp=>?_) (iu (el▸hz))
  have f:jc s.heap h'.objs.size:=λb y q=>bD (kp b y q)
  exact .mk (am.tup (s':={s with heap:=h'.push _}) (λb o q=>bt _ (kp b o q)) f (qM h' U) (el▸hz) ⟨rfl,rfl⟩) (oq st (am.rep.Zw f (ao _)) trivial r k)
 |@sorted x is h64 h k=>
  refine(vals1 ra).casesOn λ{w}rw=>?_
  have fin2:∀(B:Nat)(h':Heap)tk vs' e,(∀b o,s.heap.get? b=some o->h'.get? b=some o)->jc s.heap B->h'.get? B=some {cls:=.type "list",dict:=none,data:=.seq vs' e,slots:=#[]}->IntsAre vs'.toList (lW is)->e8 G p.σ s (Got RV p K) (.ref B) {s with heap:=h',toks:=tk}:=
   λB h' tk vs' e kp f hB hi=>nl kp f ⟨_,hB⟩ (by have:=ve hi;rw[aZ,(vg is).length_eq] at this;rw[this];exact ae (aH h64) dQ) ⟨rfl,rfl⟩ (OK hi) k
  rcases h with h|h|⟨es,h,e⟩
  ·refine(iU st h rw).casesOn λ{a cs}e r=>?_
   have i:IsL s.heap a cs:=am.rep.at_ _ _ e
   clear e
   revert r
   refine i.casesOn λ{U}O hz r=>O.elim λn O=>?_
   exact Br (λR hR=>wpAny_collect_seq a (.inl rfl) O rfl rfl (λh' kp=>hR h' s.toks _ kp (r6 r)) (ae (bn ((fY (f:=cv) (l:=U.toList) r.len).trans (ag _))) (ae (aH h64) dQ))) h64 fin2
  ·refine(iU st h rw).casesOn λ{a cs}e r=>?_
   have i:IsT s.heap a cs:=am.rep.at_ _ _ e
   clear e
   revert r
   refine i.casesOn λ{U}O hz r=>O.elim λo O=>O.2.2.elim λn hd=>?_
   exact Br (λR hR=>wpAny_collect_seq a (.inr rfl) O.1 O.2.1 hd (λh' kp=>hR h' s.toks _ kp (r6 r)) (ae (bn ((fY (f:=cv) (l:=U.toList) r.len).trans (ag _))) (ae (aH h64) dQ))) h64 fin2
  ·refine(fH st h rw).casesOn λ{a cs}e' r=>?_
   have ns:=am.rep.ns e'
   have j:iC G.toPW s.heap a (es.map (·.1)) cs:=am.rep.at_ _ _ e'
   rw[e] at j
   clear e' r e
   revert fin2 h64
   refine j.casesOn λ{kvs}hd h64 fin2=>?_
   refine Br (λR hR=>kdu_collect (A:=A.in1) (kdl_dict (knd:=intKind G.prog G.w) (kvs:=kvs) (ep:=kvs.length) ns) (am.hd rfl) hd (by rw[ag] at h64;exact ae (aH h64) dQ) λh' tk acc kp hacc=>?_) h64 fin2
   exact hR h' tk _ kp (Na (P:=G.toPW) (aZ▸hacc.1) λj v q=>hacc.2 j v ((Array.getElem?_toList)▸q))
 |abs k=>exact(vals1 ra).casesOn λrw=>(fM rw).casesOn λt=>call_abs_int λ_ _=>fin k rfl rfl rfl rfl
 |int k=>exact(vals1 ra).casesOn λ{w}rw=>by cases uT rw;exact call_int_bool (fin k rfl rfl rfl rfl)
 |str h0 h1 k=>
  refine(vals1 ra).casesOn λrw=>(fM rw).casesOn λt=>?_
  obtain ⟨m,rfl⟩:=Int.eq_ofNat_of_zero_le h0
  refine PySem.P.str_of_int ?_ (fin (k _ (OJ m (aV.mp h1))) rfl rfl rfl rfl)
  have:Nat.log2 (Int.natAbs (m:Int))<=Int.natAbs (m:Int):=Nat.log2_le_self _
  lia
end
end
set_option genCtorIdx false in
inductive CE where
|const (v:D)|loc (i:Nat)|glob (v:D)|attr (e:CE) (n:Nat)|bin (op:Operator) (a b:CE)|rep (e n:CE)|neg (a:CE)|not (a:CE)|cmp (op:CmpOp) (a b:CE)|Zl (a b c:CE)
|and (a b:CE)|or (a b:CE)|ZV (t a b:CE)|list (es:List CE)|tup (es:List CE)|ZU|idx (a b:CE)|slice (a:CE) (lo hi:Option CE)|rev (a:CE)
|call (f:Nat) (args:List CE)|new (C:Nat) (args:List CE)|Z5 (b:BI) (args:List CE)|Z9 (o:CE) (n:Nat) (args:List CE)|YG (f:Nat) (i:Nat) (args:List CE)
|pen (i:Nat)|ZI|ZW (a:CE)|comp (k:Nat) (tgt:LN) (tup:Bool) (caps:LN) (how:Nat) (iter:CE) (ifs:Option CE) (elt:CE)
set_option genCtorIdx false in
inductive CT where
|loc (i:Nat)|attr (e:CE) (n:Nat)|idx (e i:CE)|tup (is:LN)
set_option genCtorIdx false in
inductive CS where
|assign (t:CT) (e:CE)|expr (e:CE)|ite (t:CE) (a b:List CS)|ZH (t:CE) (b:List CS)|for (t:CT) (how:Nat) (e:CE) (b:List CS)|ret (e:CE)|pass|brk|Zr (a b:CE)|bad
|Zj (b:List CS) (i:Nat) (n:Nat) (k:Int)
noncomputable def cs{β:Type}(fb:BoolOp->LX->Pos->Option β:=λ_ _ _=>none)(fi:Expr->Operator->Expr->Pos->Option β:=λ_ _ _ _=>none)(fu:UnaryOp->Expr->Pos->Option β:=λ_ _ _=>none)(ff:Expr->Expr->Expr->Pos->Option β:=λ_ _ _ _=>none)(fd:List (Option Expr)->LX->Pos->Option β:=λ_ _ _=>none)(fg:Expr->List Comprehension->Scope->Pos->Option β:=λ_ _ _ _=>none)(fp:Expr->List CmpOp->LX->Pos->Option β:=λ_ _ _ _=>none)(fc:Expr->LX->List Keyword->Pos->Option β:=λ_ _ _ _=>none)(fk:Const->Nat->Pos->Option β:=λ_ _ _=>none)(fa:Expr->Str->Pos->Option β:=λ_ _ _=>none)(fs:Expr->Expr->Pos->Option β:=λ_ _ _=>none)(fn:Str->Pos->Option β:=λ_ _=>none)(fl:LX->Pos->Option β:=λ_ _=>none)(ft:LX->Nat->Pos->Option β:=λ_ _ _=>none)(fz:Option Expr->Option Expr->Option Expr->Pos->Option β:=λ_ _ _ _=>none)(e:Expr):Option β:=Expr.casesOn (motive_1:=λ_=>Option β) e fb (λ_ _ _=>none) fi fu (λ_ _ _ _=>none) ff fd (λ_ _ _=>none) fg (λ_ _ _ _=>none) (λ_ _ _ _ _=>none) (λ_ _ _ _=>none) (λ_ _=>none) (λ_ _=>none) (λ_ _=>none) fp fc (λ_ _ _ _=>none) (λ_ _=>none) fk fa fs (λ_ _=>none) fn fl ft fz
theorem eH{α β:Type}:∀(_:α)(_:β),True:=λ_ _=>trivial
theorem cQ{α β γ:Type}:∀(_:α)(_:β)(_:γ),True:=λ_ _ _=>trivial
theorem cU{α β γ δ:Type}:∀(_:α)(_:β)(_:γ)(_:δ),True:=λ_ _ _ _=>trivial
theorem gp{β:Type}{P:Expr->β->Prop}{fb:BoolOp->LX->Pos->Option β}{fi:Expr->Operator->Expr->Pos->Option β}{fu:UnaryOp->Expr->Pos->Option β}{ff:Expr->Expr->Expr->Pos->Option β}{fd:List (Option Expr)->LX->Pos->Option β}{fg:Expr->List Comprehension->Scope->Pos->Option β}{fp:Expr->List CmpOp->LX->Pos->Option β}{fc:Expr->LX->List Keyword->Pos->Option β}{fk:Const->Nat->Pos->Option β}{fa:Expr->Str->Pos->Option β}{fs:Expr->Expr->Pos->Option β}{fn:Str->Pos->Option β}{fl:LX->Pos->Option β}{ft:LX->Nat->Pos->Option β}{fz:Option Expr->Option Expr->Option Expr->Pos->Option β}(hb:∀a b c,(fb a b c).elim True (P (.BoolOp a b c)))(hi:∀a b c d,(fi a b c d).elim True (P (.BinOp a b c d)))(hu:∀a b c,(fu a b c).elim True (P (.UnaryOp a b c)))(hf:∀a b c d,(ff a b c d).elim True (P (.IfExp a b c d)))(hd:∀a b c,(fd a b c).elim True (P (.Dict a b c)))(hg:∀a b c d,(fg a b c d).elim True (P (.ListComp a b c d)))(hp:∀a b c d,(fp a b c d).elim True (P (.Compare a b c d)))(hc:∀a b c d,(fc a b c d).elim True (P (.Call a b c d)))(hk:∀a b c,(fk a b c).elim True (P (.Constant a b c)))(ha:∀a b c,(fa a b c).elim True (P (.Attribute a b c)))(hs:∀a b c,(fs a b c).elim True (P (.Subscript a b c)))(hn:∀a b,(fn a b).elim True (P (.Name a b)))(hl:∀a b,(fl a b).elim True (P (.List a b)))(ht:∀a b c,(ft a b c).elim True (P (.Tuple a b c)))(hz:∀a b c d,(fz a b c d).elim True (P (.Slice a b c d)))(e:Expr):(cs fb fi fu ff fd fg fp fc fk fa fs fn fl ft fz e).elim True (P e):=Expr.casesOn (motive_1:=λe=>(cs fb fi fu ff fd fg fp fc fk fa fs fn fl ft fz e).elim True (P e)) e hb (λ_ _ _=>trivial) hi hu (λ_ _ _ _=>trivial) hf hd (λ_ _ _=>trivial) hg (λ_ _ _ _=>trivial) (λ_ _ _ _ _=>trivial) (λ_ _ _ _=>trivial) (λ_ _=>trivial) (λ_ _=>trivial) (λ_ _=>trivial) hp hc (λ_ _ _ _=>trivial) (λ_ _=>trivial) hk ha hs (λ_ _=>trivial) hn hl ht hz
section
variable(e:Expr)
def q7:Option Const:=cs (fk:=λv _ _=>some v) (e:=e)
theorem WT:(q7 e).elim True λx=>∃k p,e=.Constant x k p:=gp (β:=Const) (fk:=λv _ _=>some v) (P:=λe x=>∃k p,e=.Constant x k p) (hk:=λ_ _ _=>⟨_,_,rfl⟩) cQ cU cQ cU cQ cU cU cU cQ cQ eH eH cQ cU e
def lz:Option Str:=cs (fn:=λx _=>some x) (e:=e)
theorem BS:(lz e).elim True λx=>∃p,e=.Name x p:=gp (β:=Str) (fn:=λx _=>some x) (P:=λe x=>∃p,e=.Name x p) (hn:=λ_ _=>⟨_,rfl⟩) cQ cU cQ cU cQ cU cU cU cQ cQ cQ eH cQ cU e
def ue:Option (Expr×Str×Pos):=cs (fa:=λa x p=>some (a,x,p)) (e:=e)
theorem wJ:(ue e).elim True λx=>e=.Attribute x.1 x.2.1 x.2.2:=gp (β:=(Expr×Str×Pos)) (fa:=λa x p=>some (a,x,p)) (P:=λe x=>e=.Attribute x.1 x.2.1 x.2.2) (ha:=λ_ _ _=>rfl) cQ cU cQ cU cQ cU cU cU cQ cQ eH eH cQ cU e
def BP:Option (Expr×Operator×Expr×Pos):=cs (fi:=λl o r p=>some (l,o,r,p)) (e:=e)
theorem IX:(BP e).elim True λx=>e=.BinOp x.1 x.2.1 x.2.2.1 x.2.2.2:=gp (β:=(Expr×Operator×Expr×Pos)) (fi:=λl o r p=>some (l,o,r,p)) (P:=λe x=>e=.BinOp x.1 x.2.1 x.2.2.1 x.2.2.2) (hi:=λ_ _ _ _=>rfl) cQ cQ cU cQ cU cU cU cQ cQ cQ eH eH cQ cU e
def wL:Option (UnaryOp×Expr×Pos):=cs (fu:=λo a p=>some (o,a,p)) (e:=e)
theorem BV:(wL e).elim True λx=>e=.UnaryOp x.1 x.2.1 x.2.2:=gp (β:=(UnaryOp×Expr×Pos)) (fu:=λo a p=>some (o,a,p)) (P:=λe x=>e=.UnaryOp x.1 x.2.1 x.2.2) (hu:=λ_ _ _=>rfl) cQ cU cU cQ cU cU cU cQ cQ cQ eH eH cQ cU e
def wK:Option (Expr×List CmpOp×LX×Pos):=cs (fp:=λl o r p=>some (l,o,r,p)) (e:=e)
theorem BQ:(wK e).elim True λx=>e=.Compare x.1 x.2.1 x.2.2.1 x.2.2.2:=gp (β:=(Expr×List CmpOp×LX×Pos)) (fp:=λl o r p=>some (l,o,r,p)) (P:=λe x=>e=.Compare x.1 x.2.1 x.2.2.1 x.2.2.2) (hp:=λ_ _ _ _=>rfl) cQ cU cQ cU cQ cU cU cQ cQ cQ eH eH cQ cU e
def uf:Option (BoolOp×LX×Pos):=cs (fb:=λo a p=>some (o,a,p)) (e:=e)
theorem IY:(uf e).elim True λx=>e=.BoolOp x.1 x.2.1 x.2.2:=gp (β:=(BoolOp×LX×Pos)) (fb:=λo a p=>some (o,a,p)) (P:=λe x=>e=.BoolOp x.1 x.2.1 x.2.2) (hb:=λ_ _ _=>rfl) cU cQ cU cQ cU cU cU cQ cQ cQ eH eH cQ cU e
def I1:Option (Expr×Expr×Expr×Pos):=cs (ff:=λt a b p=>some (t,a,b,p)) (e:=e)
theorem WV:(I1 e).elim True λx=>e=.IfExp x.1 x.2.1 x.2.2.1 x.2.2.2:=gp (β:=(Expr×Expr×Expr×Pos)) (ff:=λt a b p=>some (t,a,b,p)) (P:=λe x=>e=.IfExp x.1 x.2.1 x.2.2.1 x.2.2.2) (hf:=λ_ _ _ _=>rfl) cQ cU cQ cQ cU cU cU cQ cQ cQ eH eH cQ cU e
def BR:Option (LX×Pos):=cs (fl:=λes p=>some (es,p)) (e:=e)
theorem I2:(BR e).elim True λx=>e=.List x.1 x.2:=gp (β:=(LX×Pos)) (fl:=λes p=>some (es,p)) (P:=λe x=>e=.List x.1 x.2) (hl:=λ_ _=>rfl) cQ cU cQ cU cQ cU cU cU cQ cQ cQ eH cQ cU e
def nv:Option (LX×Nat×Pos):=cs (ft:=λes k p=>some (es,k,p)) (e:=e)
theorem ny:(nv e).elim True λx=>e=.Tuple x.1 x.2.1 x.2.2:=gp (β:=(LX×Nat×Pos)) (ft:=λes k p=>some (es,k,p)) (P:=λe x=>e=.Tuple x.1 x.2.1 x.2.2) (ht:=λ_ _ _=>rfl) cQ cU cQ cU cQ cU cU cU cQ cQ cQ eH eH cU e
def q8:Option (Expr×Expr×Pos):=cs (fs:=λa i p=>some (a,i,p)) (e:=e)
theorem ug:(q8 e).elim True λx=>e=.Subscript x.1 x.2.1 x.2.2:=gp (β:=(Expr×Expr×Pos)) (fs:=λa i p=>some (a,i,p)) (P:=λe x=>e=.Subscript x.1 x.2.1 x.2.2) (hs:=λ_ _ _=>rfl) cQ cU cQ cU cQ cU cU cU cQ cQ eH eH cQ cU e
def o9:Option (Option Expr×Option Expr×Option Expr×Pos):=cs (fz:=λa b c p=>some (a,b,c,p)) (e:=e)
theorem BU:(o9 e).elim True λx=>e=.Slice x.1 x.2.1 x.2.2.1 x.2.2.2:=gp (β:=(Option Expr×Option Expr×Option Expr×Pos)) (fz:=λa b c p=>some (a,b,c,p)) (P:=λe x=>e=.Slice x.1 x.2.1 x.2.2.1 x.2.2.2) (hz:=λ_ _ _ _=>rfl) cQ cU cQ cU cQ cU cU cU cQ cQ cQ eH eH cQ e
noncomputable def vX{α β γ:Type}(x:γ)(a:List α)(b:List β):Option γ:=List.casesOn (motive:=λ_=>Option γ) a (List.casesOn (motive:=λ_=>Option γ) b (some x) λ_ _=>none) λ_ _=>none
def I0:Option Pos:=cs (fd:=λks vs p=>vX p ks vs) (e:=e)
theorem WU:(I0 e).elim True λx=>e=.Dict [] [] x:=gp (β:=Pos) (fd:=λks vs p=>vX p ks vs) (P:=λe x=>e=.Dict [] [] x) (hd:=λks vs p=>by
 cases ks with
 |nil=>cases vs with
  |nil=>exact rfl
  |cons=>exact trivial
 |cons=>exact trivial) cQ cU cQ cU cU cU cU cQ cQ cQ eH eH cQ cU e
def kL:Option (Expr×LX×Pos):=cs (fc:=λf es ks p=>vX (f,es,p) ks ks) (e:=e)
theorem WR:(kL e).elim True λx=>e=.Call x.1 x.2.1 [] x.2.2:=gp (β:=(Expr×LX×Pos)) (fc:=λf es ks p=>vX (f,es,p) ks ks) (P:=λe x=>e=.Call x.1 x.2.1 [] x.2.2) (hc:=λf es ks p=>by
 cases ks with
 |nil=>exact rfl
 |cons=>exact trivial) cQ cU cQ cU cQ cU cU cQ cQ cQ eH eH cQ cU e
def ma:Bool:=(cs (fb:=λ_ _ _=>some ()) (fi:=λ_ _ _ _=>some ()) (fu:=λ_ _ _=>some ()) (ff:=λ_ _ _ _=>some ()) (fd:=λ_ _ _=>some ()) (fg:=λ_ _ _ _=>some ()) (fp:=λ_ _ _ _=>some ()) (fc:=λ_ _ _ _=>some ()) (fk:=λ_ _ _=>some ()) (fa:=λ_ _ _=>some ()) (fs:=λ_ _ _=>some ()) (fn:=λ_ _=>some ()) (fl:=λ_ _=>some ()) (ft:=λ_ _ _=>some ()) (fz:=λ_ _ _ _=>some ()) (e:=e)).isSome
def GU:Bool:=(cs (fn:=λ_ _=>some ()) (fa:=λ_ _ _=>some ()) (fi:=λ_ _ _ _=>some ()) (fc:=λ_ _ _ _=>some ()) (e:=e)).isSome
end
theorem q9{α:Type}{o:Option α}{P:α->Prop}{f:α->Bool}(s:o.elim True P)(h:o.any f=true):∃x,P x/\f x=true:=by
 cases o with
 |none=>exact cX h
 |some x=>exact⟨x,s,h⟩
noncomputable def mY{α:Type}(f:α->List α->Bool)(l:List α):Bool:=List.casesOn (motive:=λ_=>Bool) l false f
def md{α:Type}(f:α->Bool)(l:List α):Bool:=mY (λa l=>List.casesOn (motive:=λ_=>Bool) l (f a) λ_ _=>false) l
@[elab_as_elim] theorem wM{α:Type}{o:Option α}{g:α->Expr}(e:Expr){f:α->Bool}{Z:Expr->Prop}(s:o.elim True λx=>e=g x)(h:o.any f=true)(k:∀x,f x=true->Z (g x)):Z e:=by
 cases o with
 |none=>exact cX h
 |some x=>exact(show e=g x from s)▸k x h
@[elab_as_elim] theorem WW{α:Type}{o:Option α}{g:α->Expr}(e:Expr){Z:Expr->Prop}(s:o.elim True λx=>e=g x)(h:o.isSome=true)(k:∀x,Z (g x)):Z e:=by
 cases o with
 |none=>exact cX h
 |some x=>exact(show e=g x from s)▸k x
@[elab_as_elim] theorem I3{α β:Type}{o:Option (α×β)}{g:α->β->Expr}(e:Expr){f:α×β->Bool}{Z:Expr->Prop}(s:o.elim True λx=>e=g x.1 x.2)(h:o.any f=true)(k:∀a b,f (a,b)=true->Z (g a b)):Z e:=wM e (g:=λx=>g x.1 x.2) s h λx=>k x.1 x.2
@[elab_as_elim] theorem gL{α β γ:Type}{o:Option (α×β×γ)}{g:α->β->γ->Expr}(e:Expr){f:α×β×γ->Bool}{Z:Expr->Prop}(s:o.elim True λx=>e=g x.1 x.2.1 x.2.2)(h:o.any f=true)(k:∀a b c,f (a,b,c)=true->Z (g a b c)):Z e:=wM e (g:=λx=>g x.1 x.2.1 x.2.2) s h λx=>k x.1 x.2.1 x.2.2
@[elab_as_elim] theorem mr{α β γ δ:Type}{o:Option (α×β×γ×δ)}{g:α->β->γ->δ->Expr}(e:Expr){f:α×β×γ×δ->Bool}{Z:Expr->Prop}(s:o.elim True λx=>e=g x.1 x.2.1 x.2.2.1 x.2.2.2)(h:o.any f=true)(k:∀a b c d,f (a,b,c,d)=true->Z (g a b c d)):Z e:=wM e (g:=λx=>g x.1 x.2.1 x.2.2.1 x.2.2.2) s h λx=>k x.1 x.2.1 x.2.2.1 x.2.2.2
@[elab_as_elim] theorem qH(e:Expr){f:Str->Bool}{Z:Expr->Prop}(h:(lz e).any f=true)(k:∀x p,f x=true->Z (.Name x p)):Z e:=(q9 (BS e) h).elim λx q=>q.1.elim λp z=>z▸k x p q.2
@[elab_as_elim] theorem uO(e:Expr){f:Const->Bool}{Z:Expr->Prop}(h:(q7 e).any f=true)(k:∀x k p,f x=true->Z (.Constant x k p)):Z e:=(q9 (WT e) h).elim λx q=>q.1.elim λi z=>z.elim λp z=>z▸k x i p q.2
@[elab_as_elim] theorem kZ(e:Expr){f:Expr×LX×Pos->Bool}{Z:Expr->Prop}(h:(kL e).any f=true)(k:∀a b c,f (a,b,c)=true->Z (.Call a b [] c)):Z e:=gL e (g:=λa b c=>.Call a b [] c) (WR e) h k
@[elab_as_elim] theorem mQ{α:Type}(l:List α){f:α->Bool}{Z:List α->Prop}(h:md f l=true)(k:∀a,f a=true->Z [a]):Z l:=by
 cases l with
 |nil=>exact cX h
 |cons a l=>cases l with
  |nil=>exact k a h
  |cons=>exact cX h
@[elab_as_elim] theorem sd{α:Type}(l:List α){f:α->List α->Bool}{Z:List α->Prop}(h:mY f l=true)(k:∀a l,f a l=true->Z (a::l)):Z l:=by
 cases l with
 |nil=>exact cX h
 |cons a l=>exact k a l h
@[elab_as_elim] theorem ib{α:Type}(a:α){b:α}[Decidable (a=b)]{Z:α->Prop}(h:decide (a=b)=true)(k:Z b):Z a:=aD h▸k
structure Kr where
e:SC->CE->Expr->Bool
t:SC->CE->Expr->Bool
es:SC->List CE->LX->Bool
noncomputable def dC:D->Option Const
| .none=>some .none
| .bool b=>some (.bool b)
| .int b=>some (.int b)
| .str b=>some (.str b)
|_=>none
noncomputable def ye:D->Option GV
| .none=>some .no
| .bool b=>some (.bo b)
| .int i=>some (.nu i)
| .str s=>some (.tx s)
|_=>none
def ip(S:SC)(g:GV)(e:Expr):Bool:=(lz e).any λx=>decide (S.gl.lookup x=some g)
noncomputable def wa(as:LX)(x:Str)(_:Pos):Option Unit:=List.casesOn (motive:=λ_=>Option Unit) as (cond (x !=("super":Str)) (some ()) none) λ_ _=>some ()
def Aq(f:Expr)(as:LX):Option Unit:=cs (fa:=λ_ _ _=>some ()) (fn:=wa as) (e:=f)
def Ar(e:Expr):Bool:=(cs (fc:=λf as _ _=>Aq f as) (fk:=λ_ _ _=>some ()) (fa:=λ_ _ _=>some ()) (fs:=λ_ _ _=>some ()) (fn:=λ_ _=>some ()) (e:=e)).isSome
def EW(r:Kr)(S:SC)(co:CE)(n:Nat)(cs:List CE)(x:Expr×LX×Pos):Bool:=
 (ue x.1).any λy=>decide (y.2.1=nm n)&&Ar y.1&&(y.2.2.endLine==x.2.2.line)&&decide (x.2.1.length<29)&&r.e S co y.1&&r.es S cs x.2.1
noncomputable def kO(r:Kr)(S:SC):Option CE->Option Expr->Bool
|none,none=>true
|some c,some e=>r.e S c e
|_,_=>false
def EJ(e:Expr):Bool:=(o9 e).any λx=>x.1.isNone&&x.2.1.isNone&&x.2.2.1.any λu=>(wL u).any λy=>decide (y.1=.USub)&&(q7 y.2.1).any λv=>decide (v=.int 1)
def yt(r:Kr)(S:SC)(op:CmpOp)(a b:CE)(e:Expr):Bool:=(wK e).any λx=>decide (x.2.1=[op])&&md (λy=>!behindInMarks op y&&r.e S a x.1&&r.e S b y) x.2.2.1
def r8(one:SC->CE->Expr->Bool)(S:SC)(c:CE)(op:BoolOp)(pos:Pos)(l:LX):Bool:=mY (λf m=>List.casesOn (motive:=λ_=>Bool) m (one S c f) λg r=>one S c (.BoolOp op (f::g::r) pos)) l
def HP(r:Kr)(co:SC->CE->Expr->Bool)(S:SC)(c:CE)(e:Expr):Bool:=match c with
| .const d=>(q7 e).any λv=>decide (dC d=some v)
| .loc i=>(lz e).any λx=>decide (S.names[i]?=some x)
| .glob d=>(ye d).any λg=>ip S g e
| .attr c n=>(ue e).any λx=>decide (x.2.1=nm n)&&Ar x.1&&r.e S c x.1
| .bin op a b=>(BP e).any λx=>decide (x.2.1=op)&&r.e S a x.1&&r.e S b x.2.2.1
| .rep a b=>(BP e).any λx=>decide (x.2.1=.Mult)&&((BR x.1).any λy=>r.es S [a] y.1)&&r.e S b x.2.2.1
| .neg a=>(wL e).any λx=>decide (x.1=.USub)&&r.e S a x.2.1
| .cmp op a b=>yt r S op a b e
| .and a b=>(uf e).any λx=>mY (λy l=>decide (x.1=.And)&&r.e S a y&&r8 r.e S b .And x.2.2 l) x.2.1
| .ZV t a b=>(I1 e).any λx=>r.t S t x.1&&r.e S a x.2.1&&r.e S b x.2.2.1
| .list cs=>(BR e).any λx=>decide (x.1.length<=1000)&&r.es S cs x.1
| .tup cs=>(nv e).any λx=>decide (x.1.length<=1000)&&r.es S cs x.1
| .ZU=>(I0 e).isSome
| .idx a b=>(q8 e).any λx=>(o9 x.2.1).isNone&&r.e S a x.1&&r.e S b x.2.1
| .slice a lo hi=>(q8 e).any λx=>r.e S a x.1&&(o9 x.2.1).any λy=>y.2.2.1.isNone&&kO r S lo y.1&&kO r S hi y.2.1
| .pen i=>decide (S.pen=some i)&&(q8 e).any λx=>((lz x.1).any λy=>decide (S.names[i]?=some y))&&(o9 x.2.1).any λy=>y.1.isNone&&(y.2.1.any λu=>(q7 u).any λv=>decide (v=.int 24))&&y.2.2.1.isNone
| .rev a=>(q8 e).any λx=>r.e S a x.1&&EJ x.2.1
| .ZI=>(kL e).any λx=>ip S (.bi .list) x.1&&md (ip S .ZI) x.2.1
| .call f cs=>(kL e).any λx=>ip S (.fn f) x.1&&r.es S cs x.2.1
| .new f cs=>(kL e).any λx=>ip S (.cls f) x.1&&r.es S cs x.2.1
| .Z5 b cs=>(kL e).any λx=>ip S (.bi b) x.1&&r.es S cs x.2.1
| .Z9 o n cs=>(kL e).any (EW r S o n cs)
| .comp ..=>co S c e
|_=>false
def stepT(r:Kr)(S:SC)(c:CE)(e:Expr):Bool:=match c with
| .not a=>(wL e).any λx=>decide (x.1=.Not)&&r.t S a x.2.1
| .and a b=>(uf e).any λx=>mY (λy l=>decide (x.1=.And)&&r.t S a y&&r8 r.t S b .And x.2.2 l) x.2.1
| .or a b=>(uf e).any λx=>mY (λy l=>decide (x.1=.Or)&&r.t S a y&&r8 r.t S b .Or x.2.2 l) x.2.1
| .cmp op a b=>yt r S op a b e
| .Zl a b c=>(wK e).any λx=>decide (x.2.1=[.Lt,.Lt])&&mY (λy l=>md (λz=>!behindInMarks .Lt z&&r.e S a x.1&&r.e S b y&&r.e S c z) l) x.2.2.1
| .ZW a=>GU e&&r.e S a e
|_=>false
def U8(r:Kr)(S:SC):List CE->LX->Bool
|[],[]=>true
|c::cs,e::es=>ma e&&r.e S c e&&r.es S cs es
|_,_=>false
section
open Builtin.ObjectAttr
structure jx(G:Gd)(F:Fc):Prop where
ok:pq F.env
gl:∀x g,F.S.gl.lookup x=some g->F.env.kindOf x=some .globalImplicit/\(x==("__debug__":Str))=false/\pA G x g
tab:∀x g,F.S.gtab x=some g->(x==("__debug__":Str))=false/\pA G x g
cells:∀x∈F.S.cells,(F.env.kindOf x=some .cell∨F.env.kindOf x=some .free)/\∃c,F.env.cells.lookup x=some c
noncomputable abbrev Ev:=List (Option cJ)
structure eC(p:Pt)(E:Ev)(ρ:List CV):Prop where
len:E.length=ρ.length
at_:∀(i:Nat)(v:cJ),E[i]?=some (some v)->ro (λv c=>cM p v c) ρ i v
theorem eC.gr{p q:Pt}{E:Ev}{ρ:List CV}(r:eC p E ρ)(g:Gr p q):eC q E ρ:=⟨r.len,λi v h=>(r.at_ i v h).casesOn λa b=>⟨a,b.gr g⟩⟩
structure At(G:Gd)(k:Nat)(E:Ev)(M:LB)(F:Fc)(p:Pt)(ρ:List CV):Prop where
env:jx G F
k:F.k=k
qh:F.qh=true
st:c5 p M
er:eC p E ρ
structure Js(n:Nat)(p:Pt)(vs:LV)(us:LU):Prop where
len:us.length=n
rel:Rel2 (cM p) vs (us.map cv)
section
variable(kc:Nat->Kr)(G:Gd)(k:Nat)
def c1(c:CE)(E:Ev)(M:LB)(K:KT)(X:XT):Prop:=∀⦃F p ρ⦄n e,At G k E M F p ρ->(kc n).e F.S c e=true->Tr G F ρ p.σ (eval e F.env) (Got RV p K) (dk p X)
def fS(cs:List CE)(E:Ev)(M:LB)(K:LV->XT)(X:XT):Prop:=List.rec (motive:=λ_=>LB->(LV->XT)->Prop) (λM K=>K [] M) (λc _ U M K=>c1 kc G k c E M (λv M₁=>U M₁ λvs O=>K (v::vs) O) X) cs M K
def eJ(c:CE)(E:Ev)(M:LB)(K:Bool->XT)(X:XT):Prop:=∀⦃F p ρ⦄n e,At G k E M F p ρ->(kc n).t F.S c e=true->Tr G F ρ p.σ (isTrue e F.env (eval e F.env)) (Got RB p K) (dk p X)
def mh(c:Option CE)(E:Ev)(M:LB)(K:Option cJ->XT)(X:XT):Prop:=∀⦃F p ρ⦄n e,At G k E M F p ρ->kO (kc n) F.S c e=true->Tr G F ρ p.σ (valueOrNone (evalOpt e F.env)) (Got kQ p K) (dk p X)
end
section
variable{G:Gd}{k:Nat}{E:Ev}{M M₁:LB}{F:Fc}{p q:Pt}{ρ:List CV}{α β γ δ:Type}{X:XT}
theorem At.to(a:At G k E M F p ρ)(g:Gr p q)(st:c5 q M₁):At G k E M₁ F q ρ:=⟨a.env,a.k,a.qh,st,a.er.gr g⟩
theorem Tr.seq{R:Pt->β->α->Prop}{R':Pt->δ->γ->Prop}{O:β->XT}{K:δ->XT}{t:Sem α}{f:α->Sem γ}(h:Tr G F ρ p.σ t (Got R p O) (dk p X))(a:At G k E M F p ρ)
 (g:∀{x M₁ q v},O x M₁->Gr p q->At G k E M₁ F q ρ->R q x v->Tr G F ρ q.σ (f v) (Got R' q K) (dk q X)):Tr G F ρ p.σ (t>>=f) (Got R' p K) (dk p X):=
 Tr.bind h λv σ₁ y=>y.casesOn λgr st r k=>(g k gr (a.to gr st) r).imp (λ_ _=>.pre gr) λ_=>.pre gr
theorem Tr.ZQ{R:Pt->β->α->Prop}{R':Pt->δ->γ->Prop}{O:β->XT}{K:δ->XT}{vs:LU}{t:Sem α}{f:α->Sem γ}(h:Tr G F ρ p.σ t (Got R p O) (dk p X))(a:At G k E M F p ρ)
 (g:∀{x M₁ q v},O x M₁->Gr p q->At G k E M₁ F q ρ->R q x v->Tr G F ρ q.σ (f v) (Got R' q K) (dk q X)):Tr G F ρ p.σ (PySem.holding vs t>>=f) (Got R' p K) (dk p X):=Tr.seq (Tr.holding h) a g
theorem Tr.ret{R:Pt->β->α->Prop}{K:β->XT}{v:α}{x:β}(a:At G k E M F p ρ)(r:R p x v)(k:K x M):Tr G F ρ p.σ (Pure.pure v) (Got R p K) (dk p X):=Tr.pure (.here a.st r k)
theorem IK{x:Str}{pos:Pos}{i:Nat}{v:cJ}{Q:Value->H->Prop}{Y:H->Prop}(eo:pq F.env)(hx:F.S.names[i]?=some x)(hv:ro (λv c=>cM p v c) ρ i v)(q:∀z,cM p v (cv z)->Q z p.σ):Tr G F ρ p.σ (eval (.Name x pos) F.env) Q Y:=by
 refine Tr.same λA s am f=>wpAny_Name ?_ (f.plain x (ax hx)).2
 refine hv.casesOn λ{c}hc r=>?_
 have fin:∀{z},cv z=c->pL (λv=>Q v p.σ) s z s:=λ{z}e=>⟨rfl,rfl,rfl,q z (show cM p v _ from e▸r)⟩
 refine(f.var i x c hx hc).casesOn (λ{m}U h2 O=>?_) λ{c o v}U h2 O h4 h5=>?_
 ·cases e:m x with
  |none=>rw[e] at O;exact(r.ne O.symm).elim
  |some z=>rw[e] at O;exact wpAny_loadName_local eo.kind U h2 e (fin O)
 ·cases v with
  |none=>exact(r.ne h5.symm).elim
  |some z=>exact U.elim (λU=>wpAny_loadName_cell eo.kind U h2 ⟨o,O,h4⟩ (fin h5)) λU=>wpAny_loadName_free eo.kind U h2 ⟨o,O,h4⟩ (fin h5) (hn:=(f.plain x (ax hx)).1)
theorem IJ{x:Str}{pos:Pos}{i:Nat}{v:cJ}{K:KT}(a:At G k E M F p ρ)(U:F.S.names[i]?=some x)(hv:E[i]?=some (some v))(q:K v M):Tr G F ρ p.σ (eval (.Name x pos) F.env) (Got RV p K) (dk p X):=
 IK a.env.ok U (a.er.at_ i v hv) λz r=>.here a.st r q
inductive lF(G:Gd)(g:GV)(v:Value):Prop
|gl:yf G g v->lF G g v
|bi:vc g=some v->lF G g v
theorem qW{x:Str}{pos:Pos}{g:GV}{Q:Value->H->Prop}{Y:H->Prop}{σ:H}(a:jx G F)(U:F.S.gl.lookup x=some g)(q:∀v,lF G g v->Q v σ):Tr G F ρ σ (eval (.Name x pos) F.env) Q Y:=by
 obtain ⟨hk,hd,h⟩:=a.gl x g U
 refine Tr.same λA s am f=>Name_function_global a.ok.kind hk ?_ hd
 refine h.casesOn (λe h=>?_) λO e2 h=>?_
 ·exact loadGlobal_global (a.ok.globals▸G.g.keeps am.st) e ⟨rfl,rfl,rfl,q _ (.gl h)⟩
 ·exact loadGlobal_builtin (a.ok.globals▸G.g.keeps am.st) O (a.ok.builtins▸G.b.keeps am.st) e2 ⟨rfl,rfl,rfl,q _ (.bi h)⟩
@[elab_as_elim] theorem oC{S:SC}{g:GV}(e:Expr){Z:Expr->Prop}(h:ip S g e=true)(k:∀x pos,S.gl.lookup x=some g->Z (.Name x pos)):Z e:=qH e h λx p h=>k x p (aD h)
end
theorem cN{a b:Bool}(h:(a&&b)=true):a=true/\b=true:=(Bool.and_eq_true _ _).mp h
theorem wz{β:Type}{o:Option β}{P:Prop}(h:o.isSome=true)(s:o.elim True λ_=>P):P:=by
 cases o with
 |none=>exact cX h
 |some x=>exact s
theorem Rw{as:LX}{ks:List Keyword}{p q:Pos}{x name:Str}{env:Env}{O:Sem Value}:(wa as x q).elim True λ_=>attributeBase (.Call (.Name x q) as ks p) name env O=O:=by
 cases as with
 |cons=>exact rfl
 |nil=>
  unfold wa
  cases h:x !=("super":Str) with
  |false=>exact trivial
  |true=>cases ks with
   |nil=>exact al (by rw[h];rfl)
   |cons=>exact rfl
theorem Rx{f:Expr}{as:LX}{ks:List Keyword}{p:Pos}{name:Str}{env:Env}{O:Sem Value}:(Aq f as).elim True λ_=>attributeBase (.Call f as ks p) name env O=O:=
 gp (P:=λf (_:Unit)=>attributeBase (.Call f as ks p) name env O=O) (fa:=λ_ _ _=>some ()) (ha:=λ_ _ _=>rfl) (fn:=wa as) (hn:=λ_ _=>Rw) cQ cU cQ cU cQ cU cU cU cQ cQ eH cQ cU f
theorem CO{o:Expr}{name:Str}{env:Env}{O:Sem Value}(h:Ar o=true):attributeBase o name env O=O:=
 wz h (gp (P:=λo (_:Unit)=>attributeBase o name env O=O) (fc:=λf as _ _=>Aq f as) (hc:=λ_ _ _ _=>Rx) (fk:=λ_ _ _=>some ()) (hk:=λ_ _ _=>rfl) (fa:=λ_ _ _=>some ()) (ha:=λ_ _ _=>rfl) (fs:=λ_ _ _=>some ()) (hs:=λ_ _ _=>rfl) (fn:=λ_ _=>some ()) (hn:=λ_ _=>rfl) cQ cU cQ cU cQ cU cU eH cQ cU o)
theorem S2{e:Expr}{env:Env}(h:GU e=true):isTrue e env (eval e env)=(eval e env>>=λv=>standAt e.pos>>=λ_=>holding [v] (truthy v)):=
 wz h (gp (P:=λe (_:Unit)=>isTrue e env (eval e env)=(eval e env>>=λv=>standAt e.pos>>=λ_=>holding [v] (truthy v))) (fn:=λ_ _=>some ()) (hn:=λ_ _=>rfl) (fa:=λ_ _ _=>some ()) (ha:=λ_ _ _=>rfl) (fi:=λ_ _ _ _=>some ()) (hi:=λ_ _ _ _=>rfl) (fc:=λ_ _ _ _=>some ()) (hc:=λ_ _ _ _=>rfl) cQ cQ cU cQ cU cU cQ cQ eH cQ cU e)
noncomputable def base:Kr:=⟨λ_ _ _=>false,λ_ _ _=>false,λ_ _ _=>false⟩
def stepK(co:Kr->SC->CE->Expr->Bool)(r:Kr):Kr:=⟨HP r (co r),stepT r,U8 r⟩
def cT(co:Kr->SC->CE->Expr->Bool)(n:Nat):Kr:=Nat.rec base (λ_ r=>stepK co r) n
section
variable{co:Kr->SC->CE->Expr->Bool}{G:Gd}{k:Nat}{E:Ev}{M:LB}{K:KT}{X:XT}{a b t:CE}
theorem kE{n:Nat}{S:SC}{c:CE}{e:Expr}{Z:Prop}(h:(cT co n).e S c e=true)(k:∀n,HP (cT co n) (co (cT co n)) S c e=true->Z):Z:=by
 cases n with
 |zero=>exact cX h
 |succ n=>exact k n h
theorem kT{n:Nat}{S:SC}{c:CE}{e:Expr}{Z:Prop}(h:(cT co n).t S c e=true)(k:∀n,stepT (cT co n) S c e=true->Z):Z:=by
 cases n with
 |zero=>exact cX h
 |succ n=>exact k n h
@[elab_as_elim] theorem yv{n:Nat}{S:SC}(es:LX){Z:LX->Prop}(h:(cT co n).es S [] es=true)(k:Z []):Z es:=by
 cases n with
 |zero=>exact cX h
 |succ n=>cases es with
  |nil=>exact k
  |cons=>exact cX h
@[elab_as_elim] theorem vo{n:Nat}{S:SC}{c:CE}{cs:List CE}(es:LX){Z:LX->Prop}(h:(cT co n).es S (c::cs) es=true)(k:∀n e es,ma e=true->(cT co n).e S c e=true->(cT co n).es S cs es=true->Z (e::es)):Z es:=by
 cases n with
 |zero=>exact cX h
 |succ n=>cases es with
  |nil=>exact cX h
  |cons e es=>exact k n e es (cN (cN h).1).1 (cN (cN h).1).2 (cN h).2
theorem Tr.of{α:Type}{F:Fc}{ρ:List CV}{σ:H}{t t':Sem α}{Q:α->H->Prop}{Y:H->Prop}(e:t=t')(h:Tr G F ρ σ t' Q Y):Tr G F ρ σ t Q Y:=e▸h
theorem Sq{d:D}(q:K (.sh d) M):c1 (cT co) G k (.const d) E M K X:=λF p ρ n e a hk=>kE hk λn hk=>by
 refine uO e hk λv i pos h=>?_
 have h:=aD h
 cases d with
 |none=>rw[←aq h];exact Tr.pure (v:=Value.none) (kA (d:=.none) a.st rfl q)
 |bool b=>rw[←aq h];exact Tr.pure (v:=Value.bool b) (kA (d:=.bool b) a.st rfl q)
 |int b=>rw[←aq h];exact Tr.same λ_ _ _ _=>wpAny_mkInt ⟨rfl,rfl,rfl,kA (d:=.int b) a.st rfl q⟩
 |str b=>rw[←aq h];exact Tr.same λ_ _ _ _=>wpAny_mkText ⟨rfl,rfl,rfl,kA (d:=.str b) a.st rfl q⟩
 |_=>exact cR h
theorem Sy{i:Nat}{v:cJ}(hv:E[i]?=some (some v))(q:K v M):c1 (cT co) G k (.loc i) E M K X:=λF p ρ n e a hk=>kE hk λn hk=>by
 refine qH e hk λx pos h=>?_
 exact IJ a (aD h) hv q
theorem Of{d:D}{g:GV}{G:Gd}{v:Value}{p:Pt}(h:ye d=some g)(i:lF G g v):cM p (.sh d) (cv v):=by
 cases d with
 |con=>exact cR h
 |raw=>exact cR h
 |none=>rw[←aq h] at i;exact i.casesOn (λq=>q) λq=>cR q
 |bool=>rw[←aq h] at i;exact i.casesOn (λq=>q) λq=>cR q
 |int=>rw[←aq h] at i;exact i.casesOn (λq=>q) λq=>cR q
 |str=>rw[←aq h] at i;exact i.casesOn (λq=>q) λq=>cR q
theorem JK{α:Type}{o:Option α}{f:α->Bool}{Z:Prop}(h:o.any f=true)(k:∀x,o=some x->f x=true->Z):Z:=by
 cases o with
 |none=>exact cX h
 |some x=>exact k x rfl h
theorem Su{d:D}(q:K (.sh d) M):c1 (cT co) G k (.glob d) E M K X:=λF p ρ n e a hk=>kE hk λn hk=>JK (show((ye d).any λg=>ip F.S g e)=true from hk) λg O h=>by
 refine oC e h λx pos U=>?_
 exact qW a.env U λv i=>.here (x:=.sh d) a.st (Of O i) q
theorem Si{n:Nat}(h:c1 (cT co) G k a E M (λv M₁=>∃u,kb M₁ v n=some u/\K u M₁) X):c1 (cT co) G k (.attr a n) E M K X:=λF p ρ m e at_ hk=>kE hk λm hk=>by
 refine gL e (wJ e) hk λo x pos h1=>?_
 have h1:=cN h1
 have h2:=cN h1.1
 refine ib x h2.1 ?_
 refine(Tr.of (t':=eval o F.env>>=λv=>standAt pos.atName>>=λ_=>holding [v] (getAttr v (nm n) true)>>=λr=>letTemporaryGo o v r>>=λ_=>pure r) (aj (·>>=_) (CO h2.2)) ?_)
 refine Tr.seq (h _ _ at_ h1.2) at_ λh g O r=>Tr.standAt (h.elim λu h=>?_)
 exact Tr.ZQ (CM O.st h.1 r h.2) O λq g U r=>Tr.letGo (Tr.ret U r q)
theorem Sk{op:Operator}(h:c1 (cT co) G k a E M (λx M₁=>c1 (cT co) G k b E M₁ (λy M₂=>i9 M₂ K op x y) X) X):c1 (cT co) G k (.bin op a b) E M K X:=λF p ρ m e at_ hk=>kE hk λm hk=>by
 refine mr e (IX e) hk λl o r pos h1=>?_
 have h1:=cN h1
 have h2:=cN h1.1
 refine ib o h2.1 ?_
 refine Tr.of (eval_BinOp ..) ?_
 exact Tr.seq (h _ _ at_ h2.2) at_ λq g O r=>Tr.ZQ (q _ _ O h1.2) O λq g₂ U r₂=>Tr.standAt (Tr.operate (J9 U.st q (cM.gr g₂ r) r₂))
theorem SA(h:c1 (cT co) G k a E M (λx M₁=>∃i,x=.sh (.int i)/\K (.sh (.int (-i))) M₁) X):c1 (cT co) G k (.neg a) E M K X:=λF p ρ m e at_ hk=>kE hk λm hk=>by
 refine gL e (BV e) hk λo x pos U=>?_
 have U:=cN U
 refine ib o U.1 ?_
 refine(show Tr G F ρ p.σ (eval x F.env>>=λv=>standAt pos>>=λ_=>holding [v] (unaryOp .USub v)) _ _ from Tr.seq (h _ _ at_ U.2) at_ λ{y M₁ q v}h g O r=>h.elim λi h=>Tr.standAt (Tr.holding ?_))
 exact(fM (show cv v=.int i from(show cM q (.sh (.int i)) (cv v) from h.1▸r))).casesOn λt=>Tr.same λA s am f=>neg_int ⟨rfl,rfl,rfl,kA (d:=.int _) O.st rfl h.2⟩
theorem CQ{op:CmpOp}{y:Expr}{t:Sem Value}(h:(!behindInMarks op y)=true):markedBehindIn op y t=t:=markedBehindIn_of_false (by simpa using h)
@[elab_as_elim] theorem ET{r:Kr}{S:SC}{op:CmpOp}(e:Expr){Z:Expr->Prop}(hk:yt r S op a b e=true)(k:∀x y pos,(∀t,markedBehindIn op y t=t)->r.e S a x=true->r.e S b y=true->Z (.Compare x [op] [y] pos)):Z e:=
 mr e (BQ e) hk λx o l pos h=>ib o (cN h).1 (mQ l (cN h).2 λy h=>k x y pos (λ_=>CQ (cN (cN h).1).1) (cN (cN h).1).2 (cN h).2)
theorem Sp{op:CmpOp}(h:c1 (cT co) G k a E M (λx M₁=>c1 (cT co) G k b E M₁ (λy M₂=>fq M₂ (λr=>K (.sh (.bool r)) M₂) x y op) X) X):c1 (cT co) G k (.cmp op a b) E M K X:=λF p ρ m e at_ hk=>kE hk λm hk=>by
 refine ET e hk λx y pos hb h1 h2=>?_
 rw[eval_Compare1,hb]
 exact Tr.seq (h _ _ at_ h1) at_ λq g O r=>Tr.ZQ (q _ _ O h2) O λq g₂ U r₂=>Tr.standAt (Tr.operate
  ((rL U.st q (cM.gr g₂ r) r₂).mono λv σ' t=>t.casesOn λq=>kA (d:=.bool _) U.st rfl q))
theorem Sw(h:eJ (cT co) G k t E M (λr M₁=>if r then c1 (cT co) G k a E M₁ K X else c1 (cT co) G k b E M₁ K X) X):c1 (cT co) G k (.ZV t a b) E M K X:=λF p ρ m e at_ hk=>kE hk λm hk=>by
 refine mr e (WV e) hk λx y z pos U=>?_
 exact show Tr G F ρ p.σ (isTrue x F.env (eval x F.env)>>=λr=>if r then eval y F.env else eval z F.env) _ _ from
 Tr.seq (h _ _ at_ (cN (cN U).1).1) at_ λ{c}M₁ q v h g O (e:c=v)=>e▸by
  cases c with
  |true=>exact h _ _ O (cN (cN U).1).2
  |false=>exact h _ _ O (cN U).2
inductive w7(e:Expr):Prop
|mk:(∀env rest,starEach (e::rest) env=(false,eval e env)::starEach rest env)->(∀env x,foldedSetIterable e env x=pure x)->w7 e
theorem GW{e:Expr}(h:ma e=true):w7 e:=wz h (gp (P:=λe (_:Unit)=>w7 e) (fb:=λ_ _ _=>some ()) (hb:=λ_ _ _=>.mk (λ_ _=>rfl) λ_ _=>rfl) (fi:=λ_ _ _ _=>some ()) (hi:=λ_ _ _ _=>.mk (λ_ _=>rfl) λ_ _=>rfl) (fu:=λ_ _ _=>some ()) (hu:=λ_ _ _=>.mk (λ_ _=>rfl) λ_ _=>rfl) (ff:=λ_ _ _ _=>some ()) (hf:=λ_ _ _ _=>.mk (λ_ _=>rfl) λ_ _=>rfl) (fd:=λ_ _ _=>some ()) (hd:=λ_ _ _=>.mk (λ_ _=>rfl) λ_ _=>rfl) (fg:=λ_ _ _ _=>some ()) (hg:=λ_ _ _ _=>.mk (λ_ _=>rfl) λ_ _=>rfl) (fp:=λ_ _ _ _=>some ()) (hp:=λ_ _ _ _=>.mk (λ_ _=>rfl) λ_ _=>rfl) (fc:=λ_ _ _ _=>some ()) (hc:=λ_ _ _ _=>.mk (λ_ _=>rfl) λ_ _=>rfl) (fk:=λ_ _ _=>some ()) (hk:=λ_ _ _=>.mk (λ_ _=>rfl) λ_ _=>rfl) (fa:=λ_ _ _=>some ()) (ha:=λ_ _ _=>.mk (λ_ _=>rfl) λ_ _=>rfl) (fs:=λ_ _ _=>some ()) (hs:=λ_ _ _=>.mk (λ_ _=>rfl) λ_ _=>rfl) (fn:=λ_ _=>some ()) (hn:=λ_ _=>.mk (λ_ _=>rfl) λ_ _=>rfl) (fl:=λ_ _=>some ()) (hl:=λ_ _=>.mk (λ_ _=>rfl) λ_ _=>rfl) (ft:=λ_ _ _=>some ()) (ht:=λ_ _ _=>.mk (λ_ _=>rfl) λ_ _=>rfl) (fz:=λ_ _ _ _=>some ()) (hz:=λ_ _ _ _=>.mk (λ_ _=>rfl) λ_ _=>rfl) e)
theorem ni{e:Expr}{env:Env}{rest:LX}(h:ma e=true):starEach (e::rest) env=(false,eval e env)::starEach rest env:=(GW h).casesOn λh _=>h env rest
theorem o4{cs:List CE}:∀{M:LB}{K:LV->XT},fS (cT co) G k cs E M K X->∀{F p ρ pos}n es,At G k E M F p ρ->(cT co n).es F.S cs es=true->Tr G F ρ p.σ (spliced (backTo pos (starEach es F.env))) (Got (Js es.length) p K) (dk p X):=by
 induction cs with
 |nil=>
  intro M K h F p ρ pos m es at_ hk
  refine yv es hk ?_
  exactλA s a f=>spliced_none (.mk (.refl a.rep) (.here (x:=[]) at_.st ⟨rfl,rfl⟩ h))
 |cons c cs ih=>
  intro M K h F p ρ pos m es at_ hk
  refine vo es hk λm e rest h0 h1 h2=>?_
  refine Tr.of (t':=eval e F.env>>=λv=>(Pure.pure [v]:Sem LU)>>=λhere=>holding here (spliced (backTo pos (starEach rest F.env)))>>=λr=>Pure.pure (here++r)) ((ni h0)▸rfl) ?_
  refine Tr.seq ((show c1 (cT co) G k c E M (λv M₁=>fS (cT co) G k cs E M₁ (λvs U=>K (v::vs) U) X) X from h) _ _ at_ h1) at_ λ{x M₁ q v}h g O r=>?_
  exact Tr.ZQ (ih h _ _ O h2) O λ{xs U q₂ us}h g₂ at₃ rs=>Tr.ret (x:=x::xs) at₃ ⟨aj Nat.succ rs.len,(show Rel2 (cM q₂) (x::xs) (cv v::us.map cv) from⟨cM.gr g₂ r,rs.rel⟩)⟩ h
theorem rU{cs:List CE}{S:SC}:∀{n:Nat}{es:LX},(cT co n).es S cs es=true->∀e∈es,ma e=true:=by
 induction cs with
 |nil=>
  intro n es hk
  refine yv es hk ?_
  exactλ_ h=>dh h
 |cons c cs O=>
  intro n es hk
  refine vo es hk λn e es U _ h2=>?_
  exactλx hx=>(aM.mp hx).elim (λq=>q▸U) (O h2 x)
end
def RC(p:Pt)(x:cJ)(c:CV):Prop:=cM p x c
def Fn(G:Gd)(k f:Nat)(vs:LV)(M:LB)(K:KT)(X:XT):Prop:=
 ∀p cs,c5 p M->Rel2 (cM p) vs cs->jZ G k (.ref f) cs p.σ (Got RC p K) (dk p X)
inductive Ck(p:Pt)(K:KT)(a:Nat)(v:CV)(σ':H):Prop
|mk:v=.none->Got RC p K (.ref a) σ'->Ck p K a v σ'
def mC(G:Gd)(k c:Nat)(vs:LV)(M:LB)(K:KT)(X:XT):Prop:=
 ∃f,mt c 0=some (some f)/\∀p cs a,c5 p M->Rel2 (cM p) vs cs->p.σ a=none->jZ G k (.ref f) (.ref a::cs) (dR p.σ a ⟨.inst c [],[]⟩) (Ck p K a) (dk p X)
noncomputable def Dx:Nat->Ob
|0=>.Z7 []
|1=>.Z4 []
|_=>.Z2 []
section
variable{G:Gd}{F:Fc}{ρ:List CV}{σ:H}{qh:Bool}{d:Nat}{A:Around}{h:Heap}{X:H->Prop}
theorem lL.less(r:lL (d+1) A):lL d A:=⟨by have:=r.depth;lia,by have:=r.units;lia⟩
theorem c8.less(a:c8 G qh (d+1) A σ h):c8 G qh d A σ h:=⟨a.room.less,a.hd,a.l0,a.fr,a.st,a.rep⟩
theorem eF.fr{A A':Around}{s s':Shared}{e:Value}(x:eF G A X σ s s' e)(h:A'.frames=A.frames):eF G A' X σ s s' e:=x.casesOn λhl O S fx U=>.mk (h.trans hl) O S fx U
theorem II{f:Value}{vals:LU}{Q:CV->H->Prop}(U:F.qh=true)(h:jZ G F.k f (vals.map cv) σ Q X):Tr G F ρ σ (call f vals) (λv σ'=>Q (cv v) σ') X:=
 λA s a fr=>wpAny_call (codeAny_mono (h A s vals (U▸a).less rfl) λr s' x=>x.casesOn (λst q=>.mk st q) λe=>e)
theorem Wf{C f:Nat}{vals:LU}{Q:Value->H->Prop}(hq:F.qh=true)(hm:mt C 0=some (some f))(h:∀a,σ a=none->jZ G F.k (.ref f) (.ref a::vals.map cv) (dR σ a ⟨.inst C [],[]⟩) (λv σ'=>v=.none/\Q (.ref a) σ') X):Tr G F ρ σ (call (.ref C) vals) Q X:=by
 intro A s a fr
 refine wpAny_call ?_
 obtain ⟨U,g,dr,t,os⟩:=s
 have ok:=G.cls _ _ _ hm
 have O:findIn G.K (.ref C) "__init__"=some (some (.ref f)):=ok.find
 refine make_core (makes_of a.K (G.new _ _ hm)) (looks_findIn a.K O) (λself=>bind_fn a.K self (beq_iff_eq.mp (ok.fn f rfl))) (.inl rfl) ?_
 have k1:∀b y,U.get? b=some y->((U.push emptyDict).push (instObj C U.objs.size)).get? b=some y:=λb y q=>bt _ (bt _ q)
 have hd:((U.push emptyDict).push (instObj C U.objs.size)).get? U.objs.size=some (PySem.W.dictOf [] 0):=bt _ (bY _ rfl)
 have hx:((U.push emptyDict).push (instObj C U.objs.size)).get? (U.objs.size+1)=some (instObj C U.objs.size):=by
  have:((U.push emptyDict).push (instObj C U.objs.size)).get? (U.push emptyDict).objs.size=some (instObj C U.objs.size):=bY _ rfl
  rwa [Heap.size_push] at this
 have s1:St G σ ⟨U,g,dr,t,os⟩ (dR σ (U.objs.size+1) ⟨.inst C [],[]⟩) ⟨(U.push emptyDict).push (instObj C U.objs.size),g,dr,t,os⟩:=
  ⟨a.rep.alloc (.size U) (.inr rfl) (λ_=>rfl) a.st k1 (jz.mk hx hd ⟨rfl,rfl⟩ .nil (λ_ h=>dh h) (aL _)),.exact λb y hb nb=>⟨k1 b y hb,λq=>(qK q).elim nb λq=>q.elim
   (λe=>absurd (bD hb) (e▸Nat.not_lt.mpr (aU _))) λq=>absurd (bD hb) (bO q.1▸b8 _)⟩,rfl,rfl⟩
 have a':=a.on s1
 have a'':c8 G true F.k (A.under (.builtin "type.__call__" ⟨.ref C::vals,[]⟩)) (dR σ (U.objs.size+1) ⟨.inst C [],[]⟩) ((U.push emptyDict).push (instObj C U.objs.size)):=
  ⟨⟨by have:=a.room.depth;show A.depth+1+4*F.k<recursionLimit;lia,by have:=a.room.units;show A.units+1+20*F.k+100<cLine;lia⟩,λ_=>a'.hd hq,a'.l0,a'.fr,a'.st,a'.rep⟩
 refine codeAny_mono (h (U.objs.size+1) (a.rep.fresh (aU _)) _ ⟨(U.push emptyDict).push (instObj C U.objs.size),g,dr,t,os⟩ (.ref (U.objs.size+1)::vals) a'' rfl) λr s' x=>?_
 exact x.casesOn (λst q=>⟨uU q.1,.mk (s1.trans st) q.2⟩) λe=>(e.fr (A':=A) rfl).mono s1
end
section
variable{co:Kr->SC->CE->Expr->Bool}{G:Gd}{k:Nat}{E:Ev}{M:LB}{K:KT}{X:XT}{a b t:CE}
theorem c1.mono{kc:Nat->Kr}{O:KT}{X':XT}(h:c1 kc G k a E M K X)(q:∀v M,K v M->O v M)(U:∀M,X M->X' M):c1 kc G k a E M O X':=λ_ _ _ n e a hk=>
 (h n e a hk).imp (λ_ _ y=>y.casesOn λg s r k=>⟨g,s,r,q _ _ k⟩) λ_ y=>y.casesOn λg s k=>⟨g,s,U _ k⟩
theorem Sx{args:List CE}(h:fS (cT co) G k args E M (λvs M₁=>gI vs M₁ K) X):c1 (cT co) G k (.list args) E M K X:=by
 intro F p ρ m e at_ hk
 refine kE hk λm hk=>?_
 refine I3 e (I2 e) hk λes pos U=>?_
 have U:=cN U
 show Tr G F ρ p.σ (standAt pos>>=λ_=>spliced (backTo pos (starEach es F.env))>>=λvs=>newList vs) _ _
 refine Tr.standAt (Tr.seq (o4 h _ _ at_ U.2) at_ λq g O r A s am f=>?_)
 have hz:=r.len▸aD U.1
 exact bJ (.mk (am.list (ix _) (.size _) (qL _ _) (ae hz dQ) ⟨rfl,rfl⟩) (xZ O.st (am.rep.fresh (ao _)) r.rel q)) (ae hz dQ)
theorem SK{args:List CE}(h:fS (cT co) G k args E M (λvs M₁=>∃ds,data M₁ vs=some ds/\K (.sh (.tup ds)) M₁) X):c1 (cT co) G k (.tup args) E M K X:=by
 intro F p ρ m e at_ hk
 refine kE hk λm hk=>?_
 refine gL e (ny e) hk λes k pos U=>?_
 have U:=cN U
 show Tr G F ρ p.σ (standAt pos>>=λ_=>spliced (backTo pos (starEach es F.env))>>=λvs=>newTuple vs) _ _
 refine Tr.standAt (Tr.seq (o4 h _ _ at_ U.2) at_ λq g O r A s am f=>q.elim λds q=>?_)
 have hz:=r.len▸aD U.1
 exact bJ (.mk (am.tup (ix _) (.size _) (qM _ _) (ae hz dQ) ⟨rfl,rfl⟩) (oq O.st (am.rep.fresh (ao _)) trivial (uV O.st q.1 r.rel) q.2)) (ae hz dQ)
theorem Ss(n:Nat)(h:K (.own M.length) (M++[Dx n])):c1 (cT co) G k .ZU E M K X:=by
 intro F p ρ m e at_ hk
 refine kE hk λm hk=>?_
 refine WW e (WU e) hk λx=>?_
 intro A s am f
 rw[eval_Dict_empty]
 refine ah (bG (bJ ?_ (aL _)))
 have O:=bY s.heap (o:={cls:=.type "dict",data:=.dict #[]}) rfl
 have fin:∀{ob:Ob},ob.ZY=none->ob.vals=[]->ob.tag.Z0=false->jK G.toPW (s.heap.push {cls:=.type "dict",data:=.dict #[]}) s.heap.objs.size ⟨ob.tag,[]⟩->K (.own M.length) (M++[ob])->e8 G p.σ s (Got RV p K) (.ref s.heap.objs.size) {s with heap:=s.heap.push {cls:=.type "dict",data:=.dict #[]}}:=
  λl e i r k=>.mk (am.made (ix _) (.size _) i r ⟨rfl,rfl⟩) (u9 at_.st (am.rep.fresh (ao _)) l (e▸rfl) k)
 cases n with
 |zero=>exact fin (ob:=.Z7 []) rfl rfl rfl (iC.mk (kvs:=[]) ⟨_,#[],O,⟨rfl,rfl,rfl⟩,rfl,(λe he=>nomatch he),.nil,.nil⟩) h
 |succ n=>cases n with
  |zero=>exact fin (ob:=.Z4 []) rfl rfl rfl (jH.mk (kvs:=[]) ⟨_,#[],0,O,⟨rfl,rfl,rfl⟩,rfl,(λe he=>nomatch he),.nil,.nil⟩) h
  |succ n=>exact fin (ob:=.Z2 []) rfl rfl rfl (jI.mk (kvs:=[]) ⟨_,#[],0,O,⟨rfl,rfl,rfl⟩,rfl,rfl,(λe he=>dh he),.nil⟩) h
theorem Vo{o i:Value}{e:Expr}(h:(o9 e).isNone=true):subscripted e false o i=operate [o,i] (getItem o i):=by
 cases e with
 |Slice=>exact cX h
 |_=>rfl
theorem Sv(h:c1 (cT co) G k a E M (λx M₁=>c1 (cT co) G k b E M₁ (λy U=>lE U (λv=>K v U) x y) X) X):c1 (cT co) G k (.idx a b) E M K X:=by
 intro F p ρ m e at_ hk
 refine kE hk λm hk=>?_
 refine gL e (ug e) hk λa i pos h1=>?_
 have h1:=cN h1
 have h2:=cN h1.1
 show Tr G F ρ p.σ (eval a F.env>>=λo=>holding [o] (eval i F.env)>>=λj=>standAt pos>>=λ_=>subscriptTail a i o j) _ _
 refine Tr.seq (h _ _ at_ h2.2) at_ λq g O r=>Tr.ZQ (q _ _ O h1.2) O λq g₂ at₂ r₂=>Tr.standAt ?_
 exact OC at₂.st q (cM.gr g₂ r) r₂ λ_ _=>Vo h2.1
theorem Tr.wp{α β:Type}{F:Fc}{p:Pt}{ρ:List CV}{A:Around}{s:Shared}{R:Pt->β->α->Prop}{O:β->XT}{t:Sem α}{Q:α->Shared->Prop}{Y:Value->Shared->Prop}(h:Tr G F ρ p.σ t (Got R p O) (dk p X))(a:At G k E M F p ρ)(am:c8 G F.qh (F.k+1) A p.σ s.heap)(f:d5 G.base F.env F.S.names s.heap p.σ ρ)
 (g:∀{x M₁ q v s₁},O x M₁->Gr p q->At G k E M₁ F q ρ->R q x v->St G p.σ s q.σ s₁->c8 G F.qh (F.k+1) A q.σ s₁.heap->d5 G.base F.env F.S.names s₁.heap q.σ ρ->Q v s₁) (y:∀e s',eF G A (dk p X) p.σ s s' e->Y e s'):wpAny (model G.prog G.w) A t Q Y s:=
 az (h A s am f) (λv s₁ z=>z.casesOn λ{σ'}st z=>z.casesOn λ{x M as μ}gr U r k=>g (q:=⟨as,μ,σ'⟩) k gr (a.to gr U) r st (am.on st) (f.on am st.keep)) y
theorem GR{K:Option cJ->XT}(h:K none M):mh (cT co) G k none E M K X:=by
 intro F p ρ m e at_ hk
 cases e with
 |none=>exact Tr.pure (v:=Value.none) (.here (x:=none) at_.st .no h)
 |some=>exact cX hk
theorem GS{K:Option cJ->XT}(h:c1 (cT co) G k a E M (λv M₁=>K (some v) M₁) X):mh (cT co) G k (some a) E M K X:=by
 intro F p ρ m e at_ hk
 cases e with
 |none=>exact cX hk
 |some e=>exact(h _ _ at_ hk).mono λv σ' y=>y.casesOn λg st r k=>⟨g,st,.so r,k⟩
@[elab_as_elim] theorem oW{α:Type}(o:Option α){Z:Option α->Prop}(h:o.isNone=true)(k:Z none):Z o:=Option.isNone_iff_eq_none.mp h▸k
theorem SJ{lo hi:Option CE}(h:c1 (cT co) G k a E M (λx M₁=>mh (cT co) G k lo E M₁ (λl M₂=>mh (cT co) G k hi E M₂ (λh M₃=>fU M₃ K x l h) X) X) X):c1 (cT co) G k (.slice a lo hi) E M K X:=by
 intro F p ρ m e at_ hk
 refine kE hk λm hk=>?_
 refine gL e (ug e) hk λa i pos h1=>?_
 have h1:=cN h1
 refine mr i (BU i) h1.2 λy1 y2 y3 sp h2=>?_
 have h2:=cN h2
 have h3:=cN h2.1
 refine oW y3 h3.1 ?_
 intro A s am f
 refine Subscript_ (Tr.wp (h _ _ at_ h1.1) at_ am f (λq g O r s1 am₁ f₁=>?_) λ_ _ x=>x)
 show wpAny _ _ (valueOrNone (evalOpt y1 F.env)>>=λl=>holding [l] (valueOrNone (evalOpt y2 F.env))>>=λu=>holding [l,u] (pure .none)>>=λs=>newFields "slice" [l,u,s]) _ _ _
 refine ah (Tr.wp (q _ _ O h3.2) O am₁ f₁ (λq U at₂ r₂ s2 am₂ f₂=>?_) λ_ _ x=>(x.mono s1).imp λ_=>.pre g)
 refine ah (aY (Tr.wp (q _ _ at₂ h2.2) at₂ am₂ f₂ (λq g₃ at₃ r₃ s3 am₃ f₃=>?_) λ_ _ x=>(x.mono (s1.trans s2)).imp λ_=>.pre (g.trans U)))
 refine ah (aY (aw ?_))
 exact az (U3 at₃.st am₃ q (cM.gr (U.trans g₃) r) (r₂.casesOn .no λr=>.so (r.gr g₃)) r₃ λo i=>⟨_,rfl⟩) (λi s₄ h4=>az h4 (λv s₅ z=>(z.pre ((s1.trans s2).trans s3)).mono λ_=>.pre ((g.trans U).trans g₃)) λ_ _ x=>x) λ_ _ x=>x
@[elab_as_elim] theorem OP(e:Expr){Z:Expr->Prop}(h:EJ e=true)(k:∀i p1 p2 O,Z (.Slice none none (some (.UnaryOp .USub (.Constant (.int 1) i p1) p2)) O)):Z e:=by
 refine mr e (BU e) h λx1 x2 x3 O h=>?_
 have h1:=cN h
 have h2:=cN h1.1
 refine oW x1 h2.1 (oW x2 h2.2 ?_)
 cases x3 with
 |none=>exact cX h1.2
 |some u=>
  refine gL u (BV u) h1.2 λo y pos U=>?_
  have U:=cN U
  refine ib o U.1 ?_
  refine uO y U.2 λv i p h4=>?_
  exact ib v h4 (k i p pos O)
theorem SI(h:c1 (cT co) G k a E M (λx M₁=>pH M₁ K x) X):c1 (cT co) G k (.rev a) E M K X:=by
 intro F p ρ m e at_ hk
 refine kE hk λm hk=>?_
 refine gL e (ug e) hk λa i pos h1=>?_
 have h1:=cN h1
 refine OP i h1.2 λk0 p1 p2 sp=>?_
 intro A s am f
 refine Subscript_ (Tr.wp (h _ _ at_ h1.1) at_ am f (λ{_ _ _ _ s₁}q g U r s1 O f₁=>?_) λ_ _ x=>x)
 show wpAny _ _ ((pure .none:Sem Value)>>=λl=>holding [l] (pure .none)>>=λu=>holding [l,u] (mkInt 1>>=λv=>standAt p2>>=λ_=>holding [v] (unaryOp .USub v))>>=λs=>newFields "slice" [l,u,s]) _ _ _
 refine ah (aw (ah (aY (aw (ah (aY (ah (wpAny_mkInt (ah (bG (aY (neg_int ?_))))))))))))
 exact az (Ul (s:={s₁ with toks:=s₁.toks+1+1}) U.st O (IsPart.int _ _) q r λo i=>⟨_,rfl⟩) (λi s₄ h4=>az h4 (λv s₅ z=>(z.pre (s1.trans (s₂:={s₁ with toks:=s₁.toks+1+1}) ⟨O.rep,.refl _ _ _,rfl,rfl⟩)).mono λ_=>.pre g) λ_ _ x=>x) λ_ _ x=>x
theorem SH(h:c1 (cT co) G k a E M (λx M₁=>c1 (cT co) G k b E M₁ (λy M₂=>∃k:Int,y=.sh (.int k)/\0<=k/\k<=2^20/\gI (List.replicate k.toNat x) M₂ K) X) X):c1 (cT co) G k (.rep a b) E M K X:=by
 intro F p ρ m e at_ hk
 refine kE hk λm hk=>?_
 refine mr e (IX e) hk λl o r pos h1=>?_
 have h1:=cN h1
 have h2:=cN h1.1
 refine I3 l (I2 l) h2.2 λes lp h3=>?_
 refine ib o h2.1 ?_
 have h4:fS (cT co) G k [a] E M (λvs M₁=>∃x,vs=[x]/\c1 (cT co) G k b E M₁ (λy M₂=>∃k:Int,y=.sh (.int k)/\0<=k/\k<=2^20/\gI (List.replicate k.toNat x) M₂ K) X) X:=show c1 (cT co) G k a E M (λz M₁=>∃x,[z]=[x]/\c1 (cT co) G k b E M₁ (λy M₂=>∃k:Int,y=.sh (.int k)/\0<=k/\k<=2^20/\gI (List.replicate k.toNat x) M₂ K) X) X from h.mono (λx M₁ q=>⟨x,rfl,q⟩) λ_ q=>q
 intro A s am f
 rw[eval_BinOp]
 show wpAny _ _ ((standAt lp>>=λ_=>spliced (backTo lp (starEach es F.env))>>=λvs=>newList vs)>>=_) _ _ _
 refine ah (ah (bG (ah (Tr.wp (o4 h4 _ _ at_ h3) at_ am f (λ{_ _ _ vs s₁}q g at₁ r s1 am₁ f₁=>?_) λ_ _ x=>x))))
 obtain ⟨xv,rfl,q⟩:=q
 refine(vals1 r.rel).casesOn λ{v}rv=>?_
 refine bJ ?_ (show(1:Nat)<=sizeLine by decide)
 have s2:=am₁.ZG {cls:=.type "list",data:=.seq [v].toArray}
 have am₂:=am₁.on s2
 have f₂:=f₁.on am₁ s2.keep
 have hl:(s₁.heap.push {cls:=.type "list",data:=.seq [v].toArray}).get? s₁.heap.objs.size=some {cls:=.type "list",dict:=none,data:=.seq [v].toArray 0,slots:=#[]}:=bY _ rfl
 have no:=am₁.rep.ZJ (ao s₁.heap.objs.size)
 refine ah (aY (Tr.wp (q _ _ at₁ h1.2) at₁ am₂ f₂ (λ{_ _ _ n s₃}q g₂ at₂ r₂ s3 am₃ f₃=>?_) λ_ _ x=>(x.mono (s1.trans s2)).imp λ_=>.pre g))
 obtain ⟨i,rfl,h0,hi,hq⟩:=q
 refine(fM r₂).casesOn λt=>?_
 have O:=s3.keep.at hl no (.inr λes n q=>nomatch q)
 refine ah (bG (wpAny_operateT ?_))
 have hii:i.toNat<=2^20:=Int.toNat_le.mpr hi
 refine wpAny_binaryOp_repeat_ref (T:="list") (U:="int") dQ ⟨_,O,rfl⟩ (λs'=>typeIs_int s' i t) noFill_list_mul PySem.F.fills_int_mul PySem.F.slot_int_rmul repeat_list PySem.F.slot_int_index.lookup
  (call_meets PySem.F.slot_int_rmul (typeIs_int s₃ i t) PySem.F.entry_int_rmul (PySem.F.args_int_rmul_2 _ _) (int___rmul___int_list i t s₁.heap.objs.size [v].toArray 0)
   ⟨O,rfl,⟨_,O,rfl⟩,call_meets PySem.F.slot_list_mul ⟨_,O,rfl⟩ PySem.F.entry_list_mul (PySem.F.args_list_mul_2 _ _)
    (AutoListH.list___mul___list_int_3 s₁.heap.objs.size [v].toArray 0 i t (by simp[Builtin.List.listFitsIndex];lia) (by simp;lia) (by simp[Builtin.List.listTooLong,sizeLine];lia))
    ⟨O,?_⟩⟩)
 have e1:List.foldl (λx1 x2=>x1++x2) #[] (List.replicate (if([v].toArray:Array Value).isEmpty=true then 0 else i.toNat) [v].toArray)=(List.replicate i.toNat v).toArray:=by
  rw[av (by simp),listMul_foldl];simp[lm_rep_flat_one]
 rw[e1]
 exact .mk (((s1.trans s2).trans s3).trans (am₃.list (ix _) (.size _) (qL _ _) (by rw[List.size_toArray,bv];exact ae hii dQ) ⟨rfl,rfl⟩))
  (.pre (g.trans g₂) (xZ at₂.st (am₃.rep.fresh (ao _)) (by rw[List.map_replicate];exact Rel2.rep (cM.gr g₂ rv) _) hq))
end
inductive pg(G:Gd)(f:Value):Prop
|keep:keepIn G.K f=true->pg G f
|bi {i}:f=.builtin i->pg G f
|ty {T}:f=.type T->pg G f
theorem mi{env:Env}{pos:Pos}{args:LX}(h:∀e∈args,ma e=true):(backTo pos (starEach args env)).any (·.1)=false:=by
 induction args with
 |nil=>rfl
 |cons e r O=>
  rw[ni (h e (.head _))]
  exact O λx U=>h x (.tail _ U)
section
variable{co:Kr->SC->CE->Expr->Bool}{G:Gd}{k:Nat}{E:Ev}{M:LB}{K:KT}{X:XT}{a b t:CE}{F:Fc}{p:Pt}{ρ:List CV}
theorem tZ{γ δ:Type}{R:Pt->δ->Value->Prop}{K':δ->XT}{pos:Pos}{f:Value}{first:LU}{args:LX}{cs:List CE}{U:LV->XT}{n:Nat}(hf:pg G f)(at_:At G k E M F p ρ)(h:fS (cT co) G k cs E M U X)(hk:(cT co n).es F.S cs args=true)
 (g:∀{vs M₁ q us},U vs M₁->Gr p q->At G k E M₁ F q ρ->Rel2 (cM q) vs (us.map cv)->Tr G F ρ q.σ (call f (first++us)) (Got R q K') (dk q X)):
 Tr G F ρ p.σ (callWith pos f first (backTo pos (starEach args F.env)) []) (Got R p K') (dk p X):=by
 intro A s am fr
 have hs:=rU hk
 have ev:wpAny (model G.prog G.w) A (evalArgs f true (backTo pos (starEach args F.env)) []) (λx s₁=>G.K.In s₁.heap/\wpAny (model G.prog G.w) A (call f (first++x.pos) x.kw) (e8 G p.σ s (Got R p K')) (λe s'=>eF G A (dk p X) p.σ s s' e) s₁) (λe s'=>eF G A (dk p X) p.σ s s' e) s:=by
  cases args with
  |nil=>
   refine PySem.evalArgs_none ⟨am.K,?_⟩
   cases cs with
   |nil=>exact g (us:=[]) h (.refl p) at_ rfl A s am fr
   |cons=>exact vo [] hk (Z:=λl=>l=[]->_) (λ_ _ _ _ _ _ e=>jE e) rfl
  |cons e rest=>
   have key:=Tr.wp (o4 h (pos:=pos) _ _ at_ hk) at_ am fr (Y:=λe s'=>eF G A (dk p X) p.σ s s' e) (Q:=λus s₁=>G.K.In s₁.heap/\wpAny (model G.prog G.w) A (call f (first++us) []) (e8 G p.σ s (Got R p K')) (λe s'=>eF G A (dk p X) p.σ s s' e) s₁)
    (λq gr at₁ r s1 O f₁=>⟨O.K,az (g q gr at₁ r.rel A _ O f₁) (λv s' x=>(x.pre s1).mono λ_=>.pre gr) λ_ _ x=>(x.mono s1).imp λ_=>.pre gr⟩) λ_ _ x=>x
   rw[ni (hs e (.head _))] at key⊢
   exact evalArgs_plain key
 refine hf.casesOn (λhf=>?_) (λe=>?_) λe=>?_
 ·exact callWith_of (P:=G.K.In) (by rw[mi hs];rfl) (keeps_K hf) ev
 ·subst e;exact callWith_builtin (mi hs) (az ev (λx s₁ h=>h.2) λ_ _ x=>x)
 ·subst e;exact PySem.callWith_type (mi hs) (az ev (λx s₁ h=>h.2) λ_ _ x=>x)
theorem wF{g:GV}{pos:Pos}{e:Expr}{args:LX}{Q:Value->H->Prop}{Y:H->Prop}{σ:H}(hg:ip F.S g e=true)(a:jx G F)(h:∀f,lF G g f->Tr G F ρ σ (callWith pos f [] (backTo pos (starEach args F.env)) []) Q Y):Tr G F ρ σ (eval (.Call e args [] pos) F.env) Q Y:=by
 refine oC e hg λx O U=>?_
 show Tr G F ρ σ (eval (.Name x O) F.env>>=λf=>callWith pos f [] (backTo pos (starEach args F.env)) []) _ _
 exact Tr.bind (qW a U (Q:=λv s=>lF G g v/\s=σ) λv i=>⟨i,rfl⟩) λv σ₁ h'=>h'.2▸h v h'.1
theorem En{f:Nat}{v:Value}(h:lF G (.fn f) v):v=.ref f/\keepIn G.K (.ref f)=true:=h.casesOn (λh=>h) λh=>cR h
theorem Em{f:Nat}{v:Value}(h:lF G (.cls f) v):v=.ref f/\keepIn G.K (.ref f)=true:=h.casesOn (λh=>h) λh=>cR h
theorem xX{b:BI}{v:Value}(h:lF G (.bi b) v):v=rJ b:=h.casesOn (λh=>h.elim) λh=>(aq h).symm
theorem J6(b:BI):pg G (rJ b):=by cases b<;>first|exact .bi rfl|exact .ty rfl
theorem ya{q:Pt}{v:Value}{σ':H}(y:Got RC q K (cv v) σ'):Got RV q K v σ':=y.casesOn λg st r k=>⟨g,st,r,k⟩
theorem Sn{f:Nat}{args:List CE}(h:fS (cT co) G k args E M (λvs M₁=>Fn G k f vs M₁ K X) X):c1 (cT co) G k (.call f args) E M K X:=by
 intro F p ρ m e at_ hk
 refine kE hk λm hk=>?_
 refine kZ e hk λfe es pos U=>?_
 have U:=cN U
 refine wF U.1 at_.env λv i=>?_
 rw[(En i).1]
 exact tZ (γ:=Value) (.keep (En i).2) at_ h U.2 λq g O r=>(II O.qh (O.k▸q _ _ O.st r)).mono λv σ' y=>ya y
theorem SD{c:Nat}{args:List CE}(h:fS (cT co) G k args E M (λvs M₁=>mC G k c vs M₁ K X) X):c1 (cT co) G k (.new c args) E M K X:=by
 intro F p ρ m e at_ hk
 refine kE hk λm hk=>?_
 refine kZ e hk λfe es pos U=>?_
 have U:=cN U
 refine wF U.1 at_.env λv i=>?_
 rw[(Em i).1]
 refine tZ (γ:=Value) (.keep (Em i).2) at_ h U.2 λ{vs M₁ q us}q' g O r=>q'.elim λf h=>?_
 refine Wf O.qh h.1 λa ha=>?_
 have:=O.k▸h.2 q _ a O.st r ha
 exactλA s vals am e=>codeAny_mono (this A s vals am e) λr s' x=>x.casesOn (λst q=>.ret st (q.casesOn λe y=>⟨e,ya y⟩)) λe=>.exc e
theorem Sj{b:BI}{args:List CE}(h:fS (cT co) G k args E M (λvs M₁=>fJ M₁ K b vs) X):c1 (cT co) G k (.Z5 b args) E M K X:=by
 intro F p ρ m e at_ hk
 refine kE hk λm hk=>?_
 refine kZ e hk λfe es pos U=>?_
 have U:=cN U
 refine wF U.1 at_.env λv i=>?_
 rw[xX i]
 exact tZ (γ:=Value) (J6 b) at_ h U.2 λq g O r A s am f=>JY O.st (O.qh▸am) q r
theorem Q9{v:cJ}{n f:Nat}(h:jR M v n=some (.fn f)):∃C fs,view M v=some (.inst C fs)/\fs.lookup n=none/\mt C n=some (some f):=by
 unfold jR at h
 cases q:vStr v with
 |some s=>rw[q] at h;exact nomatch(lZ h).1
 |none=>
  rw[q] at h
  obtain ⟨ob,U,O⟩:=oB h
  cases ob with
  |inst C fs=>
   have O:(if(fs.lookup n).isNone then(mt C n).bind λo=>o.map .fn else none)=some (MK.fn f):=O
   split at O
   ·rename_i hn
    obtain ⟨o,e1,e2⟩:=oB O
    obtain ⟨f',rfl,e⟩:=oM e2
    cases e
    exact⟨C,fs,U,Option.isNone_iff_eq_none.mp hn,e1⟩
   ·exact cR O
  |list=>exact nomatch(lZ O).1
  |Z7=>exact nomatch(lZ O).1
  |Z4=>exact nomatch(lZ O).1
  |Z2=>exact nomatch(lZ O).1
  |_=>exact cR O
inductive wQ(s:Shared)(n:Nat)(u:Value):Prop
|mk {j:Nat}:uw j n->s.TypeIs u (vI n)->(∀a,u=.ref a->∃ob,s.heap.get? a=some ob/\ob.dict=none)->wQ s n u
theorem Q8{v:cJ}{n b:Nat}{u:Value}{A:Around}{s:Shared}{qh:Bool}{d:Nat}(h:jR M v n=some (.bi b))(st:c5 p M)(am:c8 G qh d A p.σ s.heap)(r:cM p v (cv u)):wQ s n u:=by
 unfold jR at h
 cases q:vStr v with
 |some x=>
  rw[q] at h
  cases BJ q
  have m:=(lZ h).2
  exact(iH r).casesOn λt=>⟨m,m.casesOn λe _ _ _=>e▸typeIs_str _ _ _,λ_ e=>nomatch e⟩
 |none=>
  rw[q] at h
  obtain ⟨ob,h1,O⟩:=oB h
  refine(fH st h1 r).casesOn λ{a cs}e _=>?_
  have dd:∀{K:Type}{_:DecidableEq K}{U:KeyKind G.prog G.w K}{kvs},s.heap.DictOf U a kvs->kC 1 n=some (.bi b)->wQ s n (.ref a):=λhd O=>(lZ O).2.casesOn λe x1 x2 x3=>⟨.mk (k:=1) e x1 x2 x3,e▸hd.typeIs,λ_ e=>by
   cases e;exact hd.elim λ_ x=>x.elim λ_ x=>x.elim λ_ y=>⟨_,y.1,y.2.1.2.1⟩⟩
  cases ob with
  |list xs=>
   have i:IsL s.heap a cs:=am.rep.at_ _ _ e
   have m:=(lZ O).2
   exact i.casesOn λhp _=>hp.elim λ_ g=>⟨m,m.casesOn λe _ _ _=>e▸⟨_,g,rfl⟩,λ_ e=>by cases e;exact⟨_,g,rfl⟩⟩
  |Z7 es=>exact(show iC G.toPW s.heap a _ cs from am.rep.at_ _ _ e).casesOn λhd=>dd hd.dictOf O
  |Z4 es=>exact(show jH G.toPW s.heap a _ cs from am.rep.at_ _ _ e).casesOn λhd=>dd hd O
  |Z2 es=>exact(show jI G.toPW s.heap a _ cs from am.rep.at_ _ _ e).casesOn λhd=>(lZ O).2.casesOn λe x1 x2 x3=>⟨.mk (k:=1) e x1 x2 x3,e▸hd.typeIs,λ_ e=>by
   cases e;exact hd.elim λ_ x=>x.elim λ_ x=>x.elim λ_ y=>⟨_,y.1,y.2.1.2.1⟩⟩
  |inst C fs=>
   have O:(if(fs.lookup n).isNone then(mt C n).bind λo=>o.map .fn else none)=some (MK.bi b):=O
   split at O
   ·obtain ⟨o,e1,e2⟩:=oB O
    obtain ⟨f',rfl,e⟩:=oM e2
    cases e
   ·exact cR O
  |_=>exact cR O
theorem We{o:CE}{n m:Nat}{args:List CE}{e:Expr}{K₁:KT}(at_:At G k E M F p ρ)(h:c1 (cT co) G k o E M K₁ X)(hk:(cT co (m+1)).e F.S (.Z9 o n args) e=true)
 (g:∀{v M₁ q u pos as},K₁ v M₁->Gr p q->At G k E M₁ F q ρ->cM q v (cv u)->(cT co m).es F.S args as=true->
  ∃f,pg G f/\(∀U A s,c8 G F.qh (F.k+1) A q.σ s.heap->d5 G.base F.env F.S.names s.heap q.σ ρ->wpAny (model G.prog G.w) A (calleeOf true U F.env u (nm n)) (pL (λx=>x=(f,[u])) s) (λe s'=>eF G A (dk q X) q.σ s s' e) s)/\
   Tr G F ρ q.σ (callWith pos f [u] (backTo pos (starEach as F.env)) []) (Got RV q K) (dk q X)):Tr G F ρ p.σ (eval e F.env) (Got RV p K) (dk p X):=by
 refine kZ e (show(kL e).any (EW (cT co m) F.S o n args)=true from hk) λf0 as pos h1=>?_
 refine gL f0 (wJ f0) h1 λU an O h1=>?_
 have h1:=cN h1
 have h2:=cN h1.1
 have h3:=cN h2.1
 have h4:=cN h3.1
 have h5:=cN h4.1
 refine ib an h5.1 ?_
 have hs:=rU h1.2
 have hform:methodCallForm (as.length+([]:List Keyword).length) (backTo pos (starEach as F.env)) (backToKw pos (keywordEach [] F.env))=true:=by
  unfold methodCallForm
  rw[←List.not_any_eq_all_not,mi hs]
  exact(Bool.true_and _).trans (aG (show as.length+0+0<30 from Nat.lt_succ_of_lt (aD h3.2)))
 have hpos:methodCallPos true U F.env O pos=pure pos:=by unfold methodCallPos;rw[show(O.endLine==pos.line)=true from h4.2];rfl
 refine Tr.of (t':=eval U F.env>>=λov=>standAt O.atName>>=λ_=>holding [ov] (calleeOf true U F.env ov (nm n))>>=λx=>callWith pos x.1 x.2 (backTo pos (starEach as F.env)) []) ?_ ?_
 ·show(attributeBase U (nm n) F.env (eval U F.env)>>=λov=>standAt O.atName>>=λ_=>holding [ov] (calleeOf (methodCallForm (as.length+([]:List Keyword).length) (backTo pos (starEach as F.env)) (backToKw pos (keywordEach [] F.env))) U F.env ov (nm n))>>=λx=>
   methodCallPos (methodCallForm (as.length+([]:List Keyword).length) (backTo pos (starEach as F.env)) (backToKw pos (keywordEach [] F.env))) U F.env O pos>>=λcp=>callWith cp x.1 x.2 (backTo pos (starEach as F.env)) [])=_
  rw[CO h5.2,hform,hpos]
  rfl
 refine Tr.seq (h _ _ at_ h2.2) at_ λ{v M₁ q u}hq gr at₁ r=>Tr.standAt ?_
 refine(g (pos:=pos) hq gr at₁ r h1.2).elim λf h=>?_
 exact Tr.bind (R:=λx s=>x=(f,[u])/\s=q.σ) (Tr.holding (Tr.same λA s am fr=>az (h.2.1 U A s am fr) (λx s' y=>y.casesOn λe1 e2 e3 q=>⟨e1,e2,e3,q,rfl⟩) λ_ _ x=>x)) λx σ₁ y=>y.1▸y.2▸h.2.2
end
section
variable{co:Kr->SC->CE->Expr->Bool}{G:Gd}{k:Nat}{E:Ev}{M:LB}{K:Bool->XT}{X:XT}{a b c:CE}{F:Fc}{p:Pt}{ρ:List CV}
theorem VN(h:c1 (cT co) G k a E M (λv M₁=>∃t,ua M₁ v=some t/\K t M₁) X):eJ (cT co) G k (.ZW a) E M K X:=by
 intro F p ρ m e at_ hk
 refine kT hk λm hk=>?_
 have U:=cN hk
 refine Tr.of (t':=eval e F.env>>=λv=>standAt e.pos>>=λ_=>holding [v] (truthy v)) (S2 U.1) ?_
 exact Tr.seq (h _ _ at_ U.2) at_ λh g O r=>h.elim λt h=>Tr.standAt (Tr.holding ((IM O.st h.1 r).mono λb σ' y=>y.2▸.here (x:=b) O.st rfl (y.1.symm▸h.2)))
theorem VL(h:eJ (cT co) G k a E M (λt M₁=>K (!t) M₁) X):eJ (cT co) G k (.not a) E M K X:=by
 intro F p ρ m e at_ hk
 refine kT hk λm hk=>?_
 refine gL e (BV e) hk λo x pos U=>?_
 have U:=cN U
 refine ib o U.1 ?_
 exactλA s am f=>isTrue_not (az (h _ _ at_ U.2 A s am f) (λb s' y=>y.casesOn λst z=>.mk st (z.casesOn λ{t _ _ _}g st r k=>.mk (x:=!t) g st (aj (!·) r) k)) λ_ _ x=>x)
theorem Bz{t:Bool}{σ:H}{Q:Bool->H->Prop}{Y:H->Prop}(q:Q t σ):Tr G F ρ σ (truthy (.bool t)) Q Y:=Tr.same λ_ _ _ _=>wpAny_truthy_bool ⟨rfl,rfl,rfl,q⟩
theorem VF{op:CmpOp}(h:c1 (cT co) G k a E M (λx M₁=>c1 (cT co) G k b E M₁ (λy M₂=>fq M₂ (λr=>K r M₂) x y op) X) X):eJ (cT co) G k (.cmp op a b) E M K X:=by
 intro F p ρ m e at_ hk
 refine kT hk λm hk=>?_
 refine ET e hk λx y pos hb h1 h2=>?_
 rw[isTrue_Compare1,hb]
 exact Tr.seq (h _ _ at_ h1) at_ λq g O r=>Tr.ZQ (q _ _ O h2) O λq g₂ U r₂=>Tr.standAt (Tr.bind (Tr.operate (rL U.st q (cM.gr g₂ r) r₂)) λv σ' t=>t.casesOn λq=>Tr.holding (Bz (.here U.st rfl q)))
theorem VG(h:c1 (cT co) G k a E M (λx M₁=>c1 (cT co) G k b E M₁ (λy O=>fq O (λr=>if r then c1 (cT co) G k c E O (λz M₃=>fq M₃ (λr=>K r M₃) y z .Lt) X else K false O) x y .Lt) X) X):eJ (cT co) G k (.Zl a b c) E M K X:=by
 intro F p ρ m e at_ hk
 refine kT hk λm hk=>?_
 refine mr e (BQ e) hk λl o rs pos h1=>?_
 refine ib o (cN h1).1 ?_
 refine sd rs (cN h1).2 λy rs h1=>?_
 refine mQ rs h1 λz h1=>?_
 have h1:=cN h1
 have h2:=cN h1.1
 have h3:=cN h2.1
 refine Tr.of (t':=eval l F.env>>=λa=>holding [a] (eval y F.env)>>=λb=>standAt pos>>=λ_=>holding [a,b] (compareOp .Lt a b)>>=λc=>release [a,b] [c]>>=λ_=>holding [c,b] (truthy c)>>=λt=>if t then holding [b] (eval z F.env)>>=λz=>standAt pos>>=λ_=>operate [b,z] (compareOp .Lt b z)>>=λc=>holding [c] (truthy c) else pure false) ?_ ?_
 ·show(eval l F.env>>=λa=>holding [a] (eval y F.env)>>=λb=>standAt pos>>=λ_=>holding [a,b] (compareOp .Lt a b)>>=λc=>release [a,b] [c]>>=λ_=>holding [c,b] (truthy c)>>=λt=>if t then holding [b] (markedBehindIn .Lt z (eval z F.env))>>=λz=>standAt pos>>=λ_=>operate [b,z] (compareOp .Lt b z)>>=λc=>holding [c] (truthy c) else pure false)=_
  rw[CQ h3.1]
 refine Tr.seq (h _ _ at_ h3.2) at_ λq g at₁ r=>Tr.ZQ (q _ _ at₁ h2.2) at₁ λq g₂ U r₂=>Tr.standAt ?_
 refine Tr.bind (Tr.holding (rL U.st q (cM.gr g₂ r) r₂)) λv σ' t=>t.casesOn λ{t}q=>Tr.release ?_
 refine Tr.bind (Tr.holding (Bz (t:=t) (Q:=λb s=>b=t/\s=_) ⟨rfl,rfl⟩)) λb σ₁ y=>y.1▸y.2▸?_
 cases t with
 |false=>exact Tr.pure (v:=false) (.here U.st rfl q)
 |true=>exact Tr.ZQ ((show c1 (cT co) G k c E _ _ X from q) _ _ U h1.2) U λq g₃ at₃ r₃=>Tr.standAt (Tr.bind (Tr.operate (rL at₃.st q (cM.gr g₃ r₂) r₃)) λv σ' t=>t.casesOn λq=>Tr.holding (Bz (.here at₃.st rfl q)))
theorem Iy{op:BoolOp}{pos:Pos}{l:LX}{n:Nat}(h:eJ (cT co) G k b E M K X)(at_:At G k E M F p ρ)(hk:r8 (cT co n).t F.S b op pos l=true):Tr G F ρ p.σ (allTrue op l F.env) (Got RB p K) (dk p X):=by
 refine sd l hk λf r hk=>?_
 cases r with
 |cons g r=>exact h n (.BoolOp op (f::g::r) pos) at_ hk
 |nil=>
  refine Tr.bind (h n f at_ hk) λt σ' y=>?_
  cases op with
  |And=>cases t with
   |false=>exact Tr.pure y
   |true=>exact Tr.pure (v:=true) y
  |Or=>cases t with
   |false=>exact Tr.pure (v:=false) y
   |true=>exact Tr.pure y
noncomputable def Up(op:BoolOp)(t:Bool)(u:Sem Bool):Sem Bool:=match op,t with
| .And,false=>pure false
| .Or,true=>pure true
|_,_=>u
theorem Ir{op:BoolOp}(t1:K (op==.Or) M->True){e:Expr}{m:Nat}(at_:At G k E M F p ρ)(h:eJ (cT co) G k a E M (λt M₁=>cond (t==(op==.Or)) (K t M₁) (eJ (cT co) G k b E M₁ K X)) X)
 (hk:((uf e).any λx=>mY (λy l=>decide (x.1=op)&&(cT co m).t F.S a y&&r8 (cT co m).t F.S b op x.2.2 l) x.2.1)=true):Tr G F ρ p.σ (isTrue e F.env (eval e F.env)) (Got RB p K) (dk p X):=by
 refine gL e (IY e) hk λo es pos U=>?_
 refine sd es U λf l U=>?_
 have U:=cN U
 have h2:=cN U.1
 refine ib o h2.1 ?_
 show Tr G F ρ p.σ (isTrue f F.env (eval f F.env)>>=λt=>Up op t (allTrue op l F.env)) _ _
 refine Tr.seq (h _ _ at_ h2.2) at_ λ{c M₁ q v}h g O (e:c=v)=>e▸?_
 cases op with
 |And=>cases c with
  |false=>exact Tr.pure (v:=false) (.here O.st rfl h)
  |true=>exact Iy h O U.2
 |Or=>cases c with
  |true=>exact Tr.pure (v:=true) (.here O.st rfl h)
  |false=>exact Iy h O U.2
theorem VE(h:eJ (cT co) G k a E M (λt M₁=>if t then eJ (cT co) G k b E M₁ K X else K false M₁) X):eJ (cT co) G k (.and a b) E M K X:=λF p ρ m e at_ hk=>kT hk λm hk=>
 Ir (op:=.And) (λ_=>trivial) at_ (λ_ _ _ n e a hk=>(h n e a hk).mono λv σ' y=>y.casesOn λ{t _ _ _}g s r k=>.mk (x:=t) g s r (by cases t<;>exact k)) hk
theorem VM(h:eJ (cT co) G k a E M (λt M₁=>if t then K true M₁ else eJ (cT co) G k b E M₁ K X) X):eJ (cT co) G k (.or a b) E M K X:=λF p ρ m e at_ hk=>kT hk λm hk=>
 Ir (op:=.Or) (λ_=>trivial) at_ (λ_ _ _ n e a hk=>(h n e a hk).mono λv σ' y=>y.casesOn λ{t _ _ _}g s r k=>.mk (x:=t) g s r (by cases t<;>exact k)) hk
theorem Sh{K:KT}(h:c1 (cT co) G k a E M (λx M₁=>∃t,ua M₁ x=some t/\if t then c1 (cT co) G k b E M₁ K X else K x M₁) X):c1 (cT co) G k (.and a b) E M K X:=by
 intro F p ρ m e at_ hk
 refine kE hk λm hk=>?_
 refine gL e (IY e) hk λop es pos U=>?_
 refine sd es U λf l U=>?_
 have U:=cN U
 have h2:=cN U.1
 refine ib op h2.1 ?_
 refine sd l U.2 λg r hk=>?_
 show Tr G F ρ p.σ (eval f F.env>>=λv=>standAt pos>>=λ_=>holding [v] (truthy v)>>=λt=>match BoolOp.And,t with| .And,false=>pure v| .Or,true=>pure v|_,_=>boolOp pos .And (evalEach (g::r) F.env)) _ _
 refine Tr.seq (h _ _ at_ h2.2) at_ λ{x M₁ q v}h gr O rv=>Tr.standAt (h.elim λt h=>?_)
 refine Tr.bind (Tr.holding (IM O.st h.1 rv)) λc σ₁ y=>y.2▸y.1▸?_
 have h:=h.2
 cases t with
 |false=>exact Tr.pure (v:=v) (.here O.st rv h)
 |true=>
  cases r with
  |nil=>exact(show c1 (cT co) G k b E _ K X from h) m g O hk
  |cons f r=>exact(show c1 (cT co) G k b E _ K X from h) m (.BoolOp .And (g::f::r) pos) O hk
end
section
variable{co:Kr->SC->CE->Expr->Bool}{G:Gd}{k:Nat}{E:Ev}{M:LB}{K:KT}{X:XT}
theorem ON{μ:H}{is:LJ}{vs:List CV}(e:vs=is.map .int):dW μ (is.map .int) vs:=by
 subst e
 induction is with
 |nil=>exact rfl
 |cons i is O=>exact⟨rfl,O⟩
theorem Vl{μ:H}{is:LQ}{vs:List CV}(e:vs=is.map .str):dW μ (is.map .str) vs:=by
 subst e
 induction is with
 |nil=>exact rfl
 |cons i is O=>exact⟨rfl,O⟩
theorem OL{vs:LU}{ns:LJ}(h:IntsAre vs ns):vs.map cv=ns.map CV.int:=by
 induction h with
 |nil=>rfl
 |cons i t _ O=>exact aj _ O
theorem SF(h:iY (wg.map .str) M K):c1 (cT co) G k .ZI E M K X:=by
 intro F p ρ m e at_ hk
 refine kE hk λm hk=>?_
 refine kZ e hk λfe es pos U=>?_
 have U:=cN U
 refine mQ es U.2 λy h2=>?_
 refine wF U.1 at_.env λv i=>?_
 rw[xX i]
 refine oC y h2 λx xp hx=>?_
 intro A s am f
 refine PySem.callWith_type (mi λz hz=>((aF.mp hz)▸rfl)) ?_
 rw[ni rfl]
 refine evalArgs_plain ?_
 show wpAny _ _ (eval (.Name x xp) F.env>>=λv=>(pure [v]:Sem LU)>>=λhere=>holding here (spliced (backTo pos (starEach [] F.env)))>>=λr=>pure (here++r)) _ _ _
 refine ah (az (qW at_.env hx (Q:=λv s=>v=.ref G.oa/\s=p.σ) (Y:=dk p X) (λv i=>⟨i.casesOn (λh=>h) λh=>(cR h),rfl⟩) A s am f) (λu s₁ y=>y.casesOn λ{σ'}st q=>?_) λ_ _ x=>x)
 have st:St G p.σ s p.σ s₁:=q.2▸st
 have O:=am.on st
 refine q.1▸ah (aw (ah (aY (spliced_none (aw ?_)))))
 have hl:G.ov.size=3:=fY (f:=cv) (l:=G.ov.toList) (G.os▸rfl)
 exact G.ot.elim λo t=>t.2.2.elim λn hd=>call_list_seq G.oa (.inr rfl) (O.st _ _ t.1) t.2.1 hd (λh' c' kp hl'=>(e8.mk (O.list (s':={s₁ with heap:=h'}) kp (.size _) ⟨_,hl'⟩ (by rw[hl];decide) ⟨rfl,rfl⟩) (qd at_.st (O.rep.fresh (ao _)) (Vl G.os) h)).pre st) (by rw[hl];decide)
theorem SG{i:Nat}(hi:E[i]?=some (some (.sh (.raw G.sa))))(h:iY ((G.ZS.take 24).map .int) M K):c1 (cT co) G k (.pen i) E M K X:=by
 intro F p ρ m e at_ hk
 refine kE hk λm hk=>?_
 refine gL e (ug e) (cN hk).2 λa sl pos h1=>?_
 have h1:=cN h1
 refine qH a h1.1 λx xp hx=>?_
 refine mr sl (BU sl) h1.2 λy1 y2 y3 sp h2=>?_
 have h2:=cN h2
 have h3:=cN h2.1
 refine oW y1 h3.1 (oW y3 h2.2 ?_)
 cases y2 with
 |none=>exact cX h3.2
 |some u=>
 refine uO u h3.2 λv kk p2 h4=>?_
 refine ib v h4 ?_
 intro A s am f
 refine Subscript_ (Tr.wp (IJ (pos:=xp) (K:=λv M'=>v=.sh (.raw G.sa)/\M'=M) (X:=X) at_ (aD hx) hi ⟨rfl,rfl⟩) at_ am f (λ{v M' q o s₁}e g O r s1 U f₁=>?_) λ_ _ x=>x)
 have O:At G k E M F q ρ:=e.2▸O
 rw[rN (show cv o=.ref G.sa from(show cM q (.sh (.raw G.sa)) (cv o) from e.1▸r))]
 show wpAny _ _ ((pure .none:Sem Value)>>=λl=>holding [l] (mkInt 24)>>=λu=>holding [l,u] (pure .none)>>=λs=>newFields "slice" [l,u,s]) _ _ _
 refine ah (aw (ah (aY (wpAny_mkInt (ah (aY (aw (bJ ?_))))))))
 have s2:St G q.σ s₁ q.σ {s₁ with heap:=s₁.heap.push {cls:=.type "slice",data:=.fields #[.none,.int 24 s₁.toks,.none]},toks:=s₁.toks+1}:=⟨(U.ZG _).rep,(U.ZG _).keep,rfl,rfl⟩
 have am₂:=U.on s2
 have isl:=Heap.IsSliceOf.new s₁.heap .none (.int 24 s₁.toks) .none
 have hl:(s₁.heap.push {cls:=.type "slice",data:=.fields #[.none,.int 24 s₁.toks,.none]}).IsList G.sa G.sv:=G.sl.elim λo x=>⟨o,am₂.st _ _ x.1,x.2⟩
 have hlen:G.sv.size<=63:=by have:=ve G.si;rw[aZ] at this;rw[this];exact G.sz
 have ec:(slicePick G.sv none (some 24) none).toList.map cv=(G.ZS.take 24).map .int:=by
  rw[kms_pick_eq,Do,OL G.si,List.map_take]
  show List.take (min 24 _-0) _=_
  rw[Nat.sub_zero,←List.take_take]
  exact aj (List.take 24) (List.take_length (l:=G.ZS.map CV.int))
 have hle:(slicePick G.sv none (some 24) none).size<=mx:=by
  have:=aj List.length ec
  rw[ag,aZ,ag] at this
  rw[this]
  exact ae (List.length_take_le ..) dQ
 exact tail_any hl.typeIs PySem.slot_list_getitem.lookup (wpAny_getItem_list_slice hl isl .none (.int 24 _) .none (λq=>cR q)
  (.mk ((s1.trans s2).trans (am₂.list (ix _) (.size _) (qL _ _) hle ⟨rfl,rfl⟩)) (.pre g (qd O.st (am₂.rep.fresh (ao _)) (ON ec) h))) (ae hlen dQ)) rfl
end
inductive iQ(o:Obj):Prop
|fld {vs}:o.data=.fields vs->iQ o
|lst {xs n}:o.cls=.type "list"->o.data=.seq xs n->iQ o
theorem iQ.nd{o:Obj}(f:iQ o){es n}(h:o.data=.dict es n):False:=f.casesOn (λq=>nomatch q.symm.trans h) λ_ q=>nomatch q.symm.trans h
theorem iQ.nc{o:Obj}(f:iQ o){v}(h:o.data=.cell v):False:=f.casesOn (λq=>nomatch q.symm.trans h) λ_ q=>nomatch q.symm.trans h
theorem iQ.nt{o:Obj}(f:iQ o){xs n}(c:o.cls=.type "tuple")(h:o.data=.seq xs n):False:=f.casesOn (λq=>nomatch q.symm.trans h) λq _=>absurd (q.symm.trans c) dQ
structure dI(B:Heap)(σ:H)(h:Heap)(L:Nat)(o:Obj):Prop where
ZX:¬own σ L
nb:B.get? L=none
at_:h.get? L=some o
free:iQ o
def dS(σ:H)(h:Heap)(L:Nat):Prop:=∀o,h.get? L=some o->own σ L
def ja(I J:Nat)(h h':Heap):Prop:=∀(b:Nat)(o:Obj),b≠I->b≠J->h.get? b=some o->h'.get? b=some o
def Pk(B:Heap)(σ:H)(h:Heap)(σ':H)(h':Heap):Prop:=∀L o,dI B σ h L o->dI B σ' h' L o
section
variable{B h h':Heap}{σ σ' σ₀:H}{h₀:Heap}{I J L:Nat}{o oI oJ:Obj}
theorem dS.of(e:h.get? L=none):dS σ h L:=λo q=>(ez e q).elim
theorem dS.back(k:eD B σ h σ' h')(x:dS σ' h' L):dS σ h L:=λo q=>Classical.byContradiction λn=>(k L o q n).casesOn λ_ e _ O=>O (x _ e)
theorem ja.of(hs:Heap.ExtBut I h h'):ja I J h h':=λb o U _ e=>hs b o U e
theorem dI.is(x:dI B σ h L o){o'}(e:h.get? L=some o'):iQ o':=aq (x.at_.symm.trans e)▸x.free
theorem dI.keep(k:eD B σ h σ' h'):Pk B σ h σ' h':=λL o x=>⟨k.ZX x.at_ x.ZX,x.nb,k.at x.at_ x.ZX (.inr λ_ _=>x.free.nd),x.free⟩
theorem Pk.trans{σ₂:H}{h₂:Heap}(x:Pk B σ h σ' h')(y:Pk B σ' h' σ₂ h₂):Pk B σ h σ₂ h₂:=λL o q=>y L o (x L o q)
theorem dI.put(x:dI B σ h L o){o'}(e:h'.get? L=some o')(f:iQ o'):dI B σ h' L o':=⟨x.ZX,x.nb,e,f⟩
theorem dI.chg(x:dI B σ h L o)(c:ja I J h h')(O:L≠I)(U:L≠J):dI B σ h' L o:=⟨x.ZX,x.nb,c L o O U x.at_,x.free⟩
theorem ja.key(c:ja I J h h')(x:dI B σ h I oI)(y:dI B σ h J oJ)(e:h.get? L=some o)(n:iQ o->False):h'.get? L=some o:=c L o (λq=>n (x.is (q▸e))) (λq=>n (y.is (q▸e))) e
theorem eD.chg(k:eD B σ₀ h₀ σ h)(nI:dS σ₀ h₀ I)(O:dS σ₀ h₀ J)(c:ja I J h h'):eD B σ₀ h₀ σ h':=λa o e n=>
 (k a o e n).casesOn λsl U q n1=>⟨sl,c a _ (λq=>n (q▸nI o (q▸e))) (λq=>n (q▸O o (q▸e))) U,q,n1⟩
theorem c8.chg{G:Gd}{qh d A}(a:c8 G qh d A σ h)(x:dI G.base σ h I oI)(y:dI G.base σ h J oJ)(c:ja I J h h'):c8 G qh d A σ h':=
 ⟨a.room,a.hd,a.l0,λl hl=>(a.fr l hl).step λenv he L o O U es n hd=>⟨o,es,n,c.key x y U λf=>f.nd hd,hd,((a.fr l hl).out env he L O).casesOn λn _ _=>n⟩,
  λb o hb=>c b o (λe=>ez x.nb (e▸hb)) (λe=>ez y.nb (e▸hb)) (a.st b o hb),a.rep.mono (λb z ob hz=>c b z (λe=>x.ZX (e▸ob)) (λe=>y.ZX (e▸ob)) hz) λt z xs n ht hc hd=>c.key x y ht λf=>f.nt hc hd⟩
theorem d5.same{env:Env}{names:LQ}{ρ:List CV}(F:d5 B env names h σ ρ)(k:∀L o,h.get? L=some o->(iQ o->False)->h'.get? L=some o):d5 B env names h' σ ρ:=
 F.to (λm ⟨o,es,ep,U,hd,r⟩=>⟨o,es,ep,k _ _ U λf=>f.nd hd,hd,r⟩) F.ZX (λx c o v _ h3 O=>⟨o,k _ _ h3 λf=>f.nc O,O⟩) λx c hk hl=>(F.ZP x c hk hl).casesOn λn _ _ _=>n
end
structure dB(G:Gd)(F:Fc)(A:Around)(σ₀:H)(s₀:Shared)(σ:H)(ρ:List CV)(s:Shared):Prop where
Z6:c8 G F.qh (F.k+1) A σ s.heap
st:St G σ₀ s₀ σ s
fr:d5 G.base F.env F.S.names s.heap σ ρ
inductive mD(σ₀:H)(h₀:Heap)(env:Env)(x:Str):Prop
|loc:env.kindOf x=some .local->mD σ₀ h₀ env x
|cell {c}:env.kindOf x=some .cell->env.cells.lookup x=some c->dS σ₀ h₀ c->mD σ₀ h₀ env x
section
variable{G:Gd}{F:Fc}{A:Around}{σ₀ σ σ':H}{s₀ s s':Shared}{ρ:List CV}
theorem dB.step(x:dB G F A σ₀ s₀ σ ρ s)(k:St G σ s σ' s'):dB G F A σ₀ s₀ σ' ρ s':=⟨x.Z6.on k,x.st.trans k,x.fr.on x.Z6 k.keep⟩
theorem dB.chg{I J:Nat}{oI oJ:Obj}(x:dB G F A σ₀ s₀ σ ρ s)(p:dI G.base σ s.heap I oI)(q:dI G.base σ s.heap J oJ)(c:ja I J s.heap s'.heap)(nI:dS σ₀ s₀.heap I)(O:dS σ₀ s₀.heap J)(fx:Fx s s'):dB G F A σ₀ s₀ σ ρ s':=
 have a:=x.Z6.chg p q c
 ⟨a,⟨a.rep,x.st.keep.chg nI O c,x.st.fx.trans fx⟩,x.fr.same λ_ _=>c.key p q⟩
theorem c8.put{G:Gd}{qh d A}{h h':Heap}{L:Nat}{o o':Obj}(a:c8 G qh d A σ h)(no:¬own σ L)(nb:G.base.get? L=none)(hs:Heap.SameBut L h h')(ho:h.get? L=some o)(ho':h'.get? L=some o')
 (ht:∀xs n,o.cls=.type "tuple"->o.data=.seq xs n->False) (hd:∀es n,o.data=.dict es n->∃es n,o'.data=.dict es n):c8 G qh d A σ h':=by
 have st:G.base.StaysIn h':=λb x hb=>(hs.2 b λe=>ez nb (e▸hb)).trans (a.st b x hb)
 refine⟨a.room,a.hd,a.l0,λl hl=>(a.fr l hl).step λenv he L' o1 hL' O es n U=>?_,st,a.rep.mono (λb z ob hz=>(hs.2 b λe=>no (e▸ob)).trans hz) (nR.but hs ho ht)⟩
 have nw:¬own σ L':=((a.fr l hl).out env he L' hL').casesOn λn _ _=>n
 by_cases e:L'=L
 ·subst e
  obtain ⟨es',n',q⟩:=hd es n (aq (ho.symm.trans O)▸U)
  exact⟨o',es',n',ho',q,nw⟩
 ·exact⟨o1,es,n,(hs.2 _ e).trans O,U,nw⟩
theorem dB.put{ρ':List CV}{L:Nat}{o o':Obj}(x:dB G F A σ₀ s₀ σ ρ s)(no:¬own σ L)(nb:G.base.get? L=none)(hs:Heap.SameBut L s.heap s'.heap)(U:s.heap.get? L=some o)(O:s'.heap.get? L=some o')
 (nf:iQ o->False) (ht:∀xs n,o.cls=.type "tuple"->o.data=.seq xs n->False) (hd:∀es n,o.data=.dict es n->∃es n,o'.data=.dict es n) (ou:dS σ₀ s₀.heap L) (fx:Fx s s') (fr:d5 G.base F.env F.S.names s'.heap σ ρ'):
 dB G F A σ₀ s₀ σ ρ' s'/\Pk G.base σ s.heap σ s'.heap:=
 have a:=x.Z6.put no nb hs U O ht hd
 ⟨⟨a,⟨a.rep,x.st.keep.chg (I:=L) (J:=L) ou ou λb o h1 _ e=>(hs.2 b h1).trans e,x.st.fx.trans fx⟩,fr⟩,λb o p=>p.put ((hs.2 b λe=>nf (p.is (e▸U))).trans p.at_) p.free⟩
theorem rT{o:Obj}{es n v}(h:o.data=.dict es n)(q:o.data=.cell v):False:=nomatch h.symm.trans q
theorem Rh{h h':Heap}{env:Env}{names:LQ}{i:Nat}{x:Str}{v:Value}{m:Str->Option Value}{B:Heap}(F:d5 B env names h σ ρ)(hx:names[i]?=some x)(hk:env.kindOf x=some .local)(hn:h.Ns env.locals m)
 (O:h'.Ns env.locals λy=>if y=x then some v else m y) (kc:∀(c:Nat)o u,h.get? c=some o->o.data=.cell u->h'.get? c=some o):d5 B env names h' σ (ρ.set i (cv v)):=by
 refine⟨F.len.trans (bc ..).symm,λj y r U hr=>?_,⟨_,O⟩,F.ZX,F.nb,λy c hk hc=>(F.ZP y c hk hc).casesOn λh1 h2 h3 h4=>⟨h1,h2,kc _ _ _ h3 h4,h4⟩,F.Zy,F.nodup,F.plain⟩
 by_cases e:j=i
 ·subst e
  have e:=hx.symm.trans U
  have hlt:=(aO.mp U).1
  rw[F.len] at hlt
  have er:=(bd hlt).symm.trans hr
  exact aq e▸aq er▸.loc hk O (aj me (al rfl))
 ·have hr:=(bX (Ne.symm e)).symm.trans hr
  refine(F.var j y r U hr).casesOn (λ{m'}h1 h2 h3=>.loc h1 O ?_) λh1 h2 h3 h4 h5=>.cell h1 h2 (kc _ _ _ h3 h4) h4 h5
  have em:m'=m:=(Heap.Ns.eq_nsMap h2).trans (Heap.Ns.eq_nsMap hn).symm
  exact(aj me (av λq:y=x=>e ((b9 (aO.mp U).1 F.nodup).mp (U.trans (q▸hx.symm))))).trans (em▸h3)
theorem Ml{h h':Heap}{env:Env}{names:LQ}{i:Nat}{x:Str}{v:Value}{c:Nat}{o':Obj}{B:Heap}(F:d5 B env names h σ ρ)(hx:names[i]?=some x)(hk:env.kindOf x=some .cell)(hc:env.cells.lookup x=some c)
 (ho':h'.get? c=some o') (hd':o'.data=.cell (some v)) (hs:Heap.SameBut c h h') (nl:env.locals≠c):d5 B env names h' σ (ρ.set i (cv v)):=by
 have hns:∀m,h.Ns env.locals m->h'.Ns env.locals m:=λm ⟨o2,es,ep,ho2,r⟩=>⟨o2,es,ep,(hs.2 _ nl).trans ho2,r⟩
 refine⟨F.len.trans (bc ..).symm,λj y r hj hr=>?_,F.ns.imp hns,F.ZX,F.nb,λy c' hky hcy=>(F.ZP y c' hky hcy).casesOn λ{o2 v2}U O h3 h4=>?_,F.Zy,F.nodup,F.plain⟩
 ·by_cases e:j=i
  ·subst e
   have e:=hx.symm.trans hj
   have hlt:=(aO.mp hj).1
   rw[F.len] at hlt
   have er:=(bd hlt).symm.trans hr
   exact aq e▸aq er▸.cell (.inl hk) hc ho' hd' rfl
  ·have hr:=(bX (Ne.symm e)).symm.trans hr
   refine(F.var j y r hj hr).casesOn (λU O h3=>.loc U (hns _ O) h3) λU O h3 h4 h5=>.cell U O ((hs.2 _ λq=>e ?_).trans h3) h4 h5
   exact(b9 (aO.mp hj).1 F.nodup).mp (hj.trans (F.Zy y x c (q▸O) hc▸hx.symm))
 ·by_cases e:c'=c
  ·exact⟨U,O,e▸ho',hd'⟩
  ·exact⟨U,O,(hs.2 _ e).trans h3,h4⟩
inductive uo(env:Env):Nat->Prop
|loc:uo env env.locals
|cell {y c}:env.kindOf y=some .cell->env.cells.lookup y=some c->uo env c
inductive Cq(G:Gd)(F:Fc)(A:Around)(σ₀:H)(s₀:Shared)(σ:H)(ρ:List CV)(s:Shared)(_:Unit)(s':Shared):Prop
|mk {L}:dB G F A σ₀ s₀ σ ρ s'->Pk G.base σ s.heap σ s'.heap->uo F.env L->Heap.SameBut L s.heap s'.heap->Cq G F A σ₀ s₀ σ ρ s () s'
theorem dB.store{E:Value->Shared->Prop}{i:Nat}{n:Str}{v:Value}(x:dB G F A σ₀ s₀ σ ρ s)(eo:pq F.env)(hx:F.S.names[i]?=some n)(ow:mD σ₀ s₀.heap F.env n)(ol:dS σ₀ s₀.heap F.env.locals):
 wpAny (model G.prog G.w) A (storeName F.env n v) (Cq G F A σ₀ s₀ σ (ρ.set i (cv v)) s) E s:=by
 refine ow.casesOn (λhk=>?_) λ{c}hk hc oc=>?_
 ·obtain ⟨m,hn⟩:=x.fr.ns
  obtain ⟨o,es,ep,ho,hd,_⟩:=id hn
  refine wpAny_storeName_local hk hn (λh' hn' U=>?_) (eo.kind▸rfl)
  obtain ⟨o',es',ep',O,hd',_⟩:=id hn'
  have r:=x.put (s':={s with heap:=h',toks:=s.toks+1}) x.fr.ZX x.fr.nb U ho O (λf=>f.nd hd) (λ_ _ _ q=>nomatch hd.symm.trans q) (λ_ _ _=>⟨es',ep',hd'⟩) ol ⟨rfl,rfl⟩ (Rh x.fr hx hk hn hn' λc oc u h1 h2=>(U.2 c λe=>?_).trans h1)
  ·exact⟨r.1,r.2,.loc,U⟩
  ·subst e;exact rT hd (aq (ho.symm.trans h1)▸h2)
 ·refine(x.fr.ZP n c hk hc).casesOn λ{o v0}h1 h2 ho hd=>wpAny_storeName_cell eo.kind hk hc ⟨o,ho,hd⟩ λh' ⟨o',O,hd'⟩U=>?_
  have r:=x.put (s':={s with heap:=h'}) h1 h2 U ho O (λf=>f.nc hd) (λ_ _ _ q=>nomatch hd.symm.trans q) (λ_ _ q=>(rT q hd).elim) oc ⟨rfl,rfl⟩ (Ml x.fr hx hk hc O hd' U λe=>?_)
  ·exact⟨r.1,r.2,.cell hk hc,U⟩
  ·obtain ⟨m,o2,es,ep,ho2,hd2,_⟩:=x.fr.ns
   exact rT hd2 (aq ((e▸ho).symm.trans ho2)▸hd)
end
inductive Sr where
|list (a:Nat)|tup (a:Nat)|dict (a:Nat)|range|rev (a:Nat)|enum (a:Nat)
inductive gN(μ:H):Sr->LD->Prop
|list {a ds vs}:μ a=some ⟨.list,vs⟩->dW μ ds vs->gN μ (.list a) ds
|tup {a ds vs}:μ a=some ⟨.tup,vs⟩->dW μ ds vs->gN μ (.tup a) ds
|dict {a ks vs}:μ a=some ⟨.Z7 ks,vs⟩->gN μ (.dict a) (ks.map .int)
|range (n:Nat):gN μ .range ((List.range n).map λi:Nat=>.int (i:Int))
|rev {a ds vs}:μ a=some ⟨.list,vs⟩->dW μ ds vs->gN μ (.rev a) ds.reverse
|enum {a ds vs}:μ a=some ⟨.list,vs⟩->dW μ ds vs->gN μ (.enum a) ds
theorem gN.up{μ U:H}(x:fv μ U){sr:Sr}{ds:LD}(h:gN μ sr ds):gN U sr ds:=
 h.casesOn (λa b=>.list (x _ _ a) (b.mono x)) (λa b=>.tup (x _ _ a) (b.mono x)) (λa=>.dict (x _ _ a)) .range (λa b=>.rev (x _ _ a) (b.mono x)) λa b=>.enum (x _ _ a) (b.mono x)
noncomputable def Sr.en:Sr->Bool
| .enum _=>true
|_=>false
inductive lG(n i I J:Nat):Sr->Obj->Obj->Prop
|list {a o oj}:o.cls=.type "list_iterator"->o.data=.fields #[.ref a,.int i 0]->lG n i I J (.list a) o oj
|tup {a o oj}:o.cls=.type "tuple_iterator"->o.data=.fields #[.ref a,.int i 0]->lG n i I J (.tup a) o oj
|dict {a o oj}:o.cls=.type "dict_keyiterator"->o.data=.fields #[.ref a,.int i 0,.int n 0,.int n 0]->lG n i I J (.dict a) o oj
|range {k:Nat} {oj}:k+i=n->lG n i I J .range {cls:=.type "range_iterator",dict:=none,data:=.fields #[rawInt i,rawInt k,rawInt 1],slots:=#[]} oj
|rev {k a:Nat} {o oj}:k+i=n->o.cls=.type "list_reverseiterator"->o.data=.fields #[.ref a,rawInt ((k:Int)-1)]->lG n i I J (.rev a) o oj
|enum {a old oj}:I≠J->oj.cls=.type "list_iterator"->oj.data=.fields #[.ref a,.int i 0]->lG n i I J (.enum a) {cls:=.type "enumerate",dict:=none,data:=.fields #[.none,.bool false,.ref J,rawInt i,.none,old],slots:=#[]} oj
inductive iD(B:Heap)(σ:H)(h:Heap)(sr:Sr)(n i I J:Nat):Prop
|mk {o oj}:dI B σ h I o->dI B σ h J oj->lG n i I J sr o oj->iD B σ h sr n i I J
theorem iD.pk{B h h':Heap}{σ σ':H}{sr:Sr}{n i I J:Nat}(p:Pk B σ h σ' h')(x:iD B σ h sr n i I J):iD B σ' h' sr n i I J:=x.casesOn λa b c=>⟨p _ _ a,p _ _ b,c⟩
inductive rE(μ:H)(h:Heap)(i:Nat)(d:D):Bool->Value->Prop
|pl {v}:dp μ d (cv v)->rE μ h i d false v
|en {T t y}:h.IsTuple T #[.int i t,y]->dp μ d (cv y)->rE μ h i d true (.ref T)
inductive nQ:Expr->Prop
|nm {x p}:nQ (.Name x p)
|tup {es k p}:nQ (.Tuple es k p)
section
variable{prog:Program}{w:World}{A:Around}{E:Value->Shared->Prop}{s:Shared}
theorem QN{target:Expr}{I:Nat}{o:Obj}{T:String}{vs:Array Value}{u:Value}{Q:Unit->Shared->Prop}(tg:nQ target)(U:s.heap.get? I=some o)(hc:o.cls=.type T)(hd:o.data=.fields vs)
 (hT:(["enumerate","zip","dict_itemiterator","dict_reverseitemiterator","odict_iterator","itertools.zip_longest","itertools.pairwise"].contains T)=false) (O:Q () s):wpAny (model prog w) A (letOwnedTupleGo target (.ref I) u) Q E s:=by
 refine tg.casesOn (aw O) ?_
 intro es k p
 unfold letOwnedTupleGo
 cases u with
 |ref a=>
  refine ah (wpAny_load U ?_)
  rw[hc,hd]
  show wpAny _ _ (if _ then _ else _) _ _ _
  rw[hT,Bool.false_and,av Bool.false_ne_true]
  exact aw O
 |_=>exact aw O
end
inductive Cn(B:Heap)(μ σ:H)(s:Shared)(sr:Sr)(ds:LD)(i I J:Nat)(v:Value)(s₂:Shared):Prop
|mk {d}:ds[i]?=some d->ja I J s.heap s₂.heap->Fx s s₂->iD B σ s₂.heap sr ds.length (i+1) I J->rE μ s₂.heap i d sr.en v->Cn B μ σ s sr ds i I J v s₂
inductive pF(s:Shared)(ds:LD)(i I J:Nat)(s₂:Shared):Prop
|mk:ds.length<=i->ja I J s.heap s₂.heap->Fx s s₂->pF s ds i I J s₂
def jJ(G:Gd)(A:Around)(target:Expr)(E:Value->Shared->Prop)(μ σ:H)(s:Shared)(sr:Sr)(ds:LD)(i I J:Nat)(r:Option Value)(s₁:Shared):Prop:=
 r.elim (pF s ds i I J s₁) λv=>wpAny (model G.prog G.w) A (letOwnedTupleGo target (.ref I) v) (λ_ O=>Cn G.base μ σ s sr ds i I J v O) E s₁
inductive w8(μ:H)(ds:LD)(items:Array Value)(i:Nat):Prop
|no:items[i]?=none->ds.length<=i->w8 μ ds items i
|at{u d}:items[i]?=some u->ds[i]?=some d->dp μ d (cv u)->w8 μ ds items i
theorem wo{μ:H}{ds:LD}{items:Array Value}(h:dW μ ds (items.toList.map cv))(i:Nat):w8 μ ds items i:=by
 have hl:=h.len
 rw[ag,aZ] at hl
 cases e:ds[i]? with
 |none=>exact .no (Array.getElem?_eq_none_iff.mpr (hl▸List.getElem?_eq_none_iff.mp e)) (List.getElem?_eq_none_iff.mp e)
 |some d=>
  refine(h.get e).casesOn λq r=>?_
  rw[aA,Array.getElem?_toList] at q
  obtain ⟨u,U,O⟩:=oM q
  exact .at U e (O▸r)
section
variable{G:Gd}{qh:Bool}{d:Nat}{A:Around}{target:Expr}{E E':Value->Shared->Prop}{μ σ:H}{s:Shared}{ds:LD}{i I J:Nat}{sr:Sr}
theorem tO(tg:nQ target){oI oJ o:Obj}{h':Heap}{tk:Nat}{T:String}{vs:Array Value}{u:Value}{d:D}(p:dI G.base σ s.heap I oI)(q:dI G.base σ s.heap J oJ)(hs:Heap.SameBut I s.heap h')(U:h'.get? I=some o)(hc:o.cls=.type T)(hd:o.data=.fields vs)
 (hT:(["enumerate","zip","dict_itemiterator","dict_reverseitemiterator","odict_iterator","itertools.zip_longest","itertools.pairwise"].contains T)=false) (hx:ds[i]?=some d) (hn:sr.en=false) (hv:dp μ d (cv u)) (it:∀oj,lG ds.length (i+1) I J sr o oj):
 jJ G A target E μ σ s sr ds i I J (some u) {s with heap:=h',toks:=tk}:=by
 have O:=p.put U (.fld hd)
 have c:ja I J s.heap h':=.of hs.extBut
 have vi:rE μ h' i d sr.en u:=hn▸.pl hv
 refine QN tg U hc hd hT ⟨hx,c,⟨rfl,rfl⟩,?_,vi⟩
 by_cases e:J=I
 ·exact⟨O,e▸O,it _⟩
 ·exact⟨O,q.put ((hs.2 J e).trans q.at_) q.free,it _⟩
theorem tN{h':Heap}{tk:Nat}(hs:Heap.ExtBut I s.heap h')(hl:ds.length<=i):jJ G A target E μ σ s sr ds i I J none {s with heap:=h',toks:=tk}:=⟨hl,.of hs,⟨rfl,rfl⟩⟩
variable(a:c8 G true d A σ s.heap)(tg:nQ target)(x:fv μ σ){o oj:Obj}(p:dI G.base σ s.heap I o)(q:dI G.base σ s.heap J oj)
include a tg x p q
theorem RM{b:Nat}{vs:List CV}(e:μ b=some ⟨.list,vs⟩)(r:dW μ ds vs)(hc:o.cls=.type "list_iterator")(hd:o.data=.fields #[.ref b,.int i 0]):
 wpAny (model G.prog G.w) A (pyNext (.ref I)) (jJ G A target E μ σ s (.list b) ds i I J) E' s:=by
 have l:IsL s.heap b vs:=a.rep.at_ _ _ (x _ _ e)
 revert r
 clear e
 refine l.casesOn λ{items}hp _ r=>?_
 have hl:=eN hp
 have O:s.heap.IsListIter I b i:=⟨o,p.at_,hc,hd⟩
 refine(wo r i).casesOn (λU h2=>wpAny_pyNext_list_end (a.hd rfl) O hl U λh' hs=>tN hs h2) λU h2 h3=>?_
 exact wpAny_pyNext_list_item O hl U λh' ⟨o',ho,hc,hd⟩hs=>tO tg p q hs ho hc hd dQ h2 rfl h3 λ_=>.list hc hd
theorem RP{b:Nat}{vs:List CV}(e:μ b=some ⟨.tup,vs⟩)(r:dW μ ds vs)(hc:o.cls=.type "tuple_iterator")(hd:o.data=.fields #[.ref b,.int i 0]):
 wpAny (model G.prog G.w) A (pyNext (.ref I)) (jJ G A target E μ σ s (.tup b) ds i I J) E' s:=by
 have l:IsT s.heap b vs:=a.rep.at_ _ _ (x _ _ e)
 revert r
 clear e
 refine l.casesOn λ{items}hp _ r=>?_
 have O:s.heap.IsTupleIter I b i:=⟨o,p.at_,hc,hd⟩
 refine(wo r i).casesOn (λU h2=>wpAny_pyNext_tuple_end (a.hd rfl) O hp U λh' hs=>tN hs h2) λU h2 h3=>?_
 exact wpAny_pyNext_tuple_item O hp U λh' ⟨o',ho,hc,hd⟩hs=>tO tg p q hs ho hc hd dQ h2 rfl h3 λ_=>.tup hc hd
theorem RK{b:Nat}{ks:LJ}{vs:List CV}(e:μ b=some ⟨.Z7 ks,vs⟩)(hc:o.cls=.type "dict_keyiterator")(hd:o.data=.fields #[.ref b,.int i 0,.int (ks.map D.int).length 0,.int (ks.map D.int).length 0]):
 wpAny (model G.prog G.w) A (pyNext (.ref I)) (jJ G A target E μ σ s (.dict b) (ks.map .int) i I J) E' s:=by
 have l:iC G.toPW s.heap b ks vs:=a.rep.at_ _ _ (x _ _ e)
 clear e
 refine l.casesOn (motive:=λks vs _=>o.data=.fields #[.ref b,.int i 0,.int (ks.map D.int).length 0,.int (ks.map D.int).length 0]->wpAny (model G.prog G.w) A (pyNext (.ref I)) (jJ G A target E μ σ s (.dict b) (ks.map .int) i I J) E' s) (λ{U}hm hd=>?_) hd
 have hn:((U.map (·.1)).map D.int).length=U.length:=(ag _).trans (ag _)
 rw[hn] at hd
 have O:s.heap.IsKeyIter I b i U.length U.length:=⟨o,p.at_,hc,hd⟩
 cases hv:U[i]? with
 |none=>exact wpAny_pyNext_dict_end (a.hd rfl) O hm hv λh' hs=>tN hs (hn▸List.getElem?_eq_none_iff.mp hv)
 |some y=>
  refine wpAny_pyNext_dict_item (k:=y.1) (v:=y.2) O hm hv λkey h' hk ⟨o',ho,hc,hd⟩hs=>tO (d:=.int y.1) tg p q hs ho hc hd dQ ?_ rfl ?_ λ_=>.dict hc (hn▸hd)
  ·rw[aA,aA,hv];rfl
  ·have hk':Value.isInt y.1 key=true:=hk
   cases key with
   |int j t=>exact aj CV.int (eq_of_beq hk')
   |_=>exact cX hk'
theorem RN{n k:Nat}(e:k+i=n)(ho:o={cls:=.type "range_iterator",dict:=none,data:=.fields #[rawInt i,rawInt k,rawInt 1],slots:=#[]}):
 wpAny (model G.prog G.w) A (pyNext (.ref I)) (jJ G A target E μ σ s .range ((List.range n).map λi:Nat=>.int (i:Int)) i I J) E' s:=by
 have hr:IsRangeIter s.heap I i k 1:=p.at_.trans (aj some ho)
 have hn:((List.range n).map λi:Nat=>D.int (i:Int)).length=n:=(ag _).trans aQ
 cases k with
 |zero=>exact wpAny_pyNext_range_end (a.hd rfl) hr (Int.le_refl 0) λh' U=>tN U (bn (hn.trans (e.symm.trans (bA i))))
 |succ k=>
  refine wpAny_pyNext_range_item hr (aV.mpr (Nat.succ_pos k)) λh' O U=>tO (d:=.int i) tg p q U O rfl rfl dQ ?_ rfl rfl λ_=>?_
  ·rw[aA,cg (by lia)];rfl
  ·rw[show((k+1:Nat):Int)-1=(k:Int) from Int.add_sub_cancel (k:Int) 1]
   exact .range (k:=k) (by rw[hn];lia)
theorem RO{b k:Nat}{vs:List CV}(e:μ b=some ⟨.list,vs⟩)(r:dW μ ds vs)(hk:k+i=ds.reverse.length)(hc:o.cls=.type "list_reverseiterator")(hd:o.data=.fields #[.ref b,rawInt ((k:Int)-1)]):
 wpAny (model G.prog G.w) A (pyNext (.ref I)) (jJ G A target E μ σ s (.rev b) ds.reverse i I J) E' s:=by
 have l:IsL s.heap b vs:=a.rep.at_ _ _ (x _ _ e)
 revert r
 clear e
 refine l.casesOn λ{items}hp _ r=>?_
 have hl:=eN hp
 have O:s.heap.IsRevIter I b ((k:Int)-1):=⟨o,p.at_,hc,hd⟩
 cases k with
 |zero=>exact wpAny_pyNext_rev_end (a.hd rfl) O λh' U=>tN U ((bA i▸hk)▸ao _)
 |succ k=>
  rw[show((k+1:Nat):Int)-1=(k:Int) from Int.add_sub_cancel (k:Int) 1] at O
  have hz:ds.length=k+1+i:=(List.length_reverse.symm.trans hk.symm)
  refine(wo r k).casesOn (λ_ h2=>absurd h2 (by lia)) λh1 h2 h3=>?_
  refine wpAny_pyNext_rev_item O hl h1 λh' ⟨o',ho,hc,hd⟩U=>tO tg p q U ho hc hd dQ ?_ rfl h3 λ_=>.rev (k:=k) (by lia) hc hd
  rw[List.getElem?_reverse (by lia),show ds.length-1-i=k by lia];exact h2
theorem RL{b:Nat}{old:Value}{vs:List CV}(e:μ b=some ⟨.list,vs⟩)(r:dW μ ds vs)(tt:∀x p,target≠.Name x p)(ne:I≠J)(ho:o={cls:=.type "enumerate",dict:=none,data:=.fields #[.none,.bool false,.ref J,rawInt i,.none,old],slots:=#[]})(hc:oj.cls=.type "list_iterator")(hd:oj.data=.fields #[.ref b,.int i 0]):
 wpAny (model G.prog G.w) A (pyNext (.ref I)) (jJ G A target E μ σ s (.enum b) ds i I J) E' s:=by
 have l:IsL s.heap b vs:=a.rep.at_ _ _ (x _ _ e)
 revert r
 clear e
 refine l.casesOn λ{items}hp _ r=>?_
 have hl:=eN hp
 have he:IsEnum s.heap I J i old:=p.at_.trans (aj some ho)
 have hj:s.heap.IsListIter J b i:=⟨oj,q.at_,hc,hd⟩
 refine(wo r i).casesOn (λh1 h2=>wpAny_pyNext_enum_end (a.hd rfl) he hj hl h1 λh' hs=>⟨h2,λb o _ h e=>hs b o h e,⟨rfl,rfl⟩⟩) λ{u _}h1 h2 h3=>?_
 refine wpAny_pyNext_enum_item he hj hl h1 ne λh' he' ⟨oj',hj1,hj2,U⟩ht hz hk=>?_
 have lt:=bD he
 refine tg.casesOn (motive:=λt _=>(∀x p,t≠.Name x p)->jJ G A t E μ σ s (.enum b) ds i I J _ _) (λ{x p}n=>(n x p rfl).elim) (λ{es k p1}_=>?_) tt
 refine wpAny_letOwnedTupleGo_enum he' λh2' he2 O=>⟨h2,λc o n1 n2 e=>(O.2 c n1).trans (hk c o n1 n2 e),⟨rfl,rfl⟩,?_,.en ⟨_,(O.2 _ (Nat.ne_of_gt lt)).trans ht,rfl,_,rfl⟩ h3⟩
 exact⟨p.put he2 (.fld rfl),q.put ((O.2 J (Ne.symm ne)).trans hj1) (.fld U),.enum ne hj2 U⟩
omit tg p q in
theorem EP(tt:nQ target)(tn:sr.en=true->∀x p,target≠.Name x p)(O:gN μ sr ds)(it:iD G.base σ s.heap sr ds.length i I J):wpAny (model G.prog G.w) A (pyNext (.ref I)) (jJ G A target E μ σ s sr ds i I J) E' s:=by
 refine it.casesOn λ{o oj}p q it=>?_
 generalize hn:ds.length=n at it
 revert O
 refine it.casesOn (motive:=λsr o oj _=>dI G.base σ s.heap I o->dI G.base σ s.heap J oj->(sr.en=true->∀x p,target≠.Name x p)->gN μ sr ds->wpAny (model G.prog G.w) A (pyNext (.ref I)) (jJ G A target E μ σ s sr ds i I J) E' s)
  (λU hd p q _ O=>?_) (λU hd p q _ O=>?_) (λU hd p q _ O=>?_) (λhk p q _ O=>?_) (λhk U hd p q _ O=>?_) (λne U hd p q tn O=>?_) p q tn
 ·cases O with|list e r=>exact RM a tt x p q e r U hd
 ·cases O with|tup e r=>exact RP a tt x p q e r U hd
 ·cases O with|dict e=>exact RK a tt x p q e U (hn▸hd)
 ·cases O with|range m=>exact RN a tt x p q (hk.trans (hn.symm.trans ((ag _).trans aQ))) rfl
 ·cases O with|rev e r=>exact RO a tt x p q e r (hk.trans hn.symm) U hd
 ·cases O with|enum e r=>exact RL a tt x p q e r (tn rfl) ne rfl U hd
omit tg p q a x in
theorem OX{n:Nat}{Q:Value->Shared->Prop}(h:iD G.base σ s.heap sr n i I J)(U:Q (.ref I) s):wpAny (model G.prog G.w) A (pyIter (.ref I)) Q E s:=by
 refine h.casesOn λp q it=>?_
 exact it.casesOn (motive:=λ_ o oj _=>dI G.base σ s.heap I o->wpAny (model G.prog G.w) A (pyIter (.ref I)) Q E s) (λO hd p=>wpAny_pyIter_listiter ⟨_,p.at_,O,hd⟩ U) (λO hd p=>wpAny_pyIter_tupleiter ⟨_,p.at_,O,hd⟩ U)
  (λO hd p=>wpAny_pyIter_keyiter ⟨_,p.at_,O,hd⟩ U) (λhk p=>wpAny_pyIter_rangeiter p.at_ U) (λhk O hd p=>wpAny_pyIter_revIter ⟨_,p.at_,O,hd⟩ U) (λne O hd p=>wpAny_pyIter_enum p.at_ U) p
end
noncomputable def yD:D->Option LD
| .con t ds=>fh.casesOn t (some ds) none (λ_=>none) (λ_=>none) (λ_=>none) λ_ _=>none
|_=>none
noncomputable def CL:D->Option LD
| .con t ds=>fh.casesOn t (some ds) (some ds) (λks=>some (ks.map .int)) (λ_=>none) (λ_=>none) λ_ _=>none
|_=>none
def Ha:D->Option LD
| .int n=>if 0<=n/\n<=mx then some ((List.range n.toNat).map λi:Nat=>.int (i:Int)) else none
|_=>none
def ji(how:Nat)(M:LB)(v:cJ):Option LD:=
 (iI M v).bind λd=>Nat.casesOn how (CL d) λn=>Nat.casesOn n (Ha d) λn=>Nat.casesOn n ((yD d).map List.reverse) λ_=>yD d
inductive ui(ds:LD):D->Prop
|list:ui ds (.list ds)
|tup:ui ds (.tup ds)
|dict {ks es}:ds=ks.map .int->ui ds (.Z7 ks es)
theorem JJ{d:D}{ds:LD}(h:CL d=some ds):ui ds d:=by
 cases d with
 |con t es=>cases t with
  |list=>exact aq h▸.list
  |tup=>exact aq h▸.tup
  |Z7 ks=>exact .dict (aq h).symm
  |_=>exact cR h
 |_=>exact cR h
theorem Fp{d:D}{ds:LD}(h:yD d=some ds):d=.list ds:=by
 cases d with
 |con t es=>cases t with
  |list=>exact aq h▸rfl
  |_=>exact cR h
 |_=>exact cR h
inductive Cs(ds:LD):D->Prop
|mk {n:Nat}:(n:Int)<=mx->ds=(List.range n).map (λi:Nat=>.int (i:Int))->Cs ds (.int n)
theorem Uo{d:D}{ds:LD}(h:Ha d=some ds):Cs ds d:=by
 cases d with
 |int n=>
  obtain ⟨⟨U,O⟩,e⟩:=gu h
  obtain ⟨m,rfl⟩:=Int.eq_ofNat_of_zero_le U
  exact⟨O,e.symm⟩
 |_=>exact cR h
theorem c8.ZE{G:Gd}{qh d}{A:Around}{σ:H}{h:Heap}{L:Nat}(a:c8 G qh d A σ h)(f:h.get? L=none):G.base.get? L=none:=by
 cases q:G.base.get? L with
 |none=>rfl
 |some o=>exact(ez f (a.st _ _ q)).elim
theorem ky{h:Heap}{L:Nat}(f:h.objs.size<=L):h.get? L=none:=jc.none (.size h) f
inductive lH(G:Gd)(q:Pt)(s:Shared)(en:Bool)(ds:LD)(it:Value)(s₂:Shared):Prop
|mk {I J sr}:it=.ref I->(∀b o,s.heap.get? b=some o->s₂.heap.get? b=some o)->Fx s s₂->gN q.μ sr ds->sr.en=en->iD G.base q.σ s₂.heap sr ds.length 0 I J->s.heap.get? I=none->s.heap.get? J=none->lH G q s en ds it s₂
section
variable{G:Gd}{qh:Bool}{d:Nat}{A:Around}{q:Pt}{M:LB}{s:Shared}{E:Value->Shared->Prop}{u:Value}{x:cJ}{ds:LD}
theorem c8.Zs{o:Obj}{h':Heap}{L:Nat}{σ:H}(a:c8 G qh d A σ s.heap)(O:s.heap.objs.size<=L)(U:h'.get? L=some o)(f:iQ o):dI G.base σ h' L o:=⟨a.rep.ZJ O,a.ZE (ky O),U,f⟩
theorem vh{o:Obj}{sr:Sr}{vs:Array Value}(a:c8 G qh d A q.σ s.heap)(hd:o.data=.fields vs)(hf:o.isFreed=false)(sc:gN q.μ sr ds)(en:sr.en=false)(it:lG ds.length 0 s.heap.objs.size s.heap.objs.size sr o o):lH G q s false ds (.ref s.heap.objs.size) {s with heap:=s.heap.push o}:=
 have p:=a.Zs (ao _) (bY s.heap hf) (.fld hd)
 ⟨rfl,ix o,⟨rfl,rfl⟩,sc,en,⟨p,p,it⟩,ky (ao _),ky (ao _)⟩
theorem VD{b:Nat}{o:fK}{σ:H}(a:c8 G qh d A σ s.heap)(e:σ b=some o):(b==sysModules)=false:=by
 cases q:b==sysModules with
 |false=>rfl
 |true=>
  have U:=beq_iff_eq.mp q
  have s:=G.sys
  rw[←U,a.rep.new b (.at e)] at s
  exact cX s
theorem OT(st:c5 q M)(a:c8 G qh d A q.σ s.heap)(h:ji 0 M x=some ds)(r:cM q x (cv u)):wpAny (model G.prog G.w) A (pyIter u) (lH G q s false ds) E s:=by
 obtain ⟨dd,h1,h2⟩:=oB h
 have hd:=mK st h1 r
 revert hd
 refine(JJ h2).casesOn (λhd=>?_) (λhd=>?_) λ{ks es}e hd=>?_
 ·refine(mP hd).casesOn λ{b vs}e r=>?_
  have l:IsL s.heap b vs:=a.rep.at_ _ _ (st.sub _ _ e)
  refine l.casesOn (motive:=λvs _=>q.μ b=some ⟨.list,vs⟩->dW q.μ ds vs->_) (λ{items}U _ e r=>?_) e r
  exact wpAny_pyIter_list (eN U) (vh a rfl rfl (.list e r) rfl (.list rfl rfl))
 ·refine(mP hd).casesOn λ{b vs}e r=>?_
  have l:IsT s.heap b vs:=a.rep.at_ _ _ (st.sub _ _ e)
  refine l.casesOn (motive:=λvs _=>q.μ b=some ⟨.tup,vs⟩->dW q.μ ds vs->_) (λ{items}U _ e r=>?_) e r
  exact wpAny_pyIter_tuple U (vh a rfl rfl (.tup e r) rfl (.tup rfl rfl))
 ·refine(mP hd).casesOn λ{b vs}O r=>?_
  have l:iC G.toPW s.heap b ks vs:=a.rep.at_ _ _ (st.sub _ _ O)
  refine l.casesOn (motive:=λks vs _=>q.μ b=some ⟨.Z7 ks,vs⟩->ds=ks.map .int->_) (λ{kvs}hm O e=>?_) O e
  have hn:ds.length=kvs.length:=(aj List.length e).trans ((ag _).trans (ag _))
  exact wpAny_pyIter_dict (VD a (st.sub _ _ O)) hm (vh (sr:=.dict b) a rfl rfl (e▸gN.dict O) rfl (.dict rfl (hn▸rfl)))
theorem OV(st:c5 q M)(a:c8 G qh d A q.σ s.heap)(h:ji 1 M x=some ds)(r:cM q x (cv u)):wpAny (model G.prog G.w) A (call (.type "range") [u]) (λv s₁=>wpAny (model G.prog G.w) A (pyIter v) (lH G q s false ds) E s₁) E s:=by
 obtain ⟨dd,h1,h2⟩:=oB h
 have hd:=mK st h1 r
 revert hd
 refine(Uo h2).casesOn λ{n}hn e hd=>(fM hd).casesOn λt=>call_range_1 ?_
 have O:=IsRange.new s.heap 0 n 1 s.toks t (s.toks+1)
 refine wpAny_pyIter_range O (small_one (by lia) (by lia) (by lia) (by unfold mx at hn;lia)) ?_
 have U:(s.heap.push {cls:=.type "range",data:=.fields #[.int 0 s.toks,.int n t,.int 1 (s.toks+1)]}).objs.size=s.heap.objs.size+1:=Heap.size_push ..
 have es:Builtin.Range.rangeSize 0 n 1=n:=by
  rw[rangeSize_one];split<;>lia
 have p:=a.Zs (U▸aU _) (bY (s.heap.push {cls:=.type "range",data:=.fields #[.int 0 s.toks,.int n t,.int 1 (s.toks+1)]}) (o:={cls:=.type "range_iterator",data:=.fields #[rawInt 0,rawInt (Builtin.Range.rangeSize 0 n 1),rawInt 1]}) rfl) (.fld rfl)
 have f:s.heap.get? (s.heap.push {cls:=.type "range",data:=.fields #[.int 0 s.toks,.int n t,.int 1 (s.toks+1)]}).objs.size=none:=ky (U▸aU _)
 have hl:ds.length=n:=(aj List.length e).trans ((ag _).trans aQ)
 exact⟨rfl,λb o k=>ix _ b o (ix _ b o k),⟨rfl,rfl⟩,e▸gN.range n,rfl,⟨p,p,by rw[es];exact .range (k:=n) hl.symm⟩,f,f⟩
theorem OW(st:c5 q M)(a:c8 G qh d A q.σ s.heap)(h:ji 2 M x=some ds)(r:cM q x (cv u)):wpAny (model G.prog G.w) A (call (.type "reversed") [u]) (λv s₁=>wpAny (model G.prog G.w) A (pyIter v) (lH G q s false ds) E s₁) E s:=by
 obtain ⟨dd,U,O⟩:=oB h
 obtain ⟨es,h3,rfl⟩:=oM O
 cases Fp h3
 refine(mP (mK st U r)).casesOn λ{b vs}e r=>?_
 have l:IsL s.heap b vs:=a.rep.at_ _ _ (st.sub _ _ e)
 refine l.casesOn (motive:=λvs _=>q.μ b=some ⟨.list,vs⟩->dW q.μ es vs->_) (λ{items}hp _ e r=>?_) e r
 have hl:=r.len
 rw[ag,aZ] at hl
 refine call_reversed_list (eN hp) (wpAny_pyIter_revIter (i:=(items.size:Int)-1) ⟨_,bY s.heap rfl,rfl,rfl⟩ (vh a rfl rfl (.rev e r) rfl (.rev (k:=items.size) ?_ rfl rfl)))
 rw[List.length_reverse];exact hl
theorem OU(st:c5 q M)(a:c8 G qh d A q.σ s.heap)(h:ji 3 M x=some ds)(r:cM q x (cv u)):wpAny (model G.prog G.w) A (call (.type "enumerate") [u]) (λv s₁=>wpAny (model G.prog G.w) A (pyIter v) (lH G q s true ds) E s₁) E s:=by
 obtain ⟨dd,U,O⟩:=oB h
 cases Fp O
 refine(mP (mK st U r)).casesOn λ{b vs}e r=>?_
 have l:IsL s.heap b vs:=a.rep.at_ _ _ (st.sub _ _ e)
 refine l.casesOn (motive:=λvs _=>q.μ b=some ⟨.list,vs⟩->dW q.μ ds vs->_) (λ{items}hp _ e r=>?_) e r
 refine call_enumerate_list (eN hp) λh' he ⟨o,ho,hc,hd⟩hz kk=>wpAny_pyIter_enum he ?_
 exact⟨rfl,kk,⟨rfl,rfl⟩,.enum e r,rfl,⟨a.Zs (aU _) he (.fld rfl),a.Zs (ao _) ho (.fld hd),.enum (Nat.succ_ne_self _) hc hd⟩,ky (aU _),ky (ao _)⟩
end
noncomputable def Ov:Nat->Option GV
|1=>some .range
|2=>some .reversed
|3=>some .enumerate
|_=>none
def kI(r:Kr)(S:SC)(how:Nat)(c:CE)(e:Expr):Bool:=
 ma e&&Nat.casesOn how (r.e S c e) λn=>decide (n<3)&&(Ov (n+1)).any λg=>(kL e).any λx=>ip S g x.1&&r.es S [c] x.2.1
inductive w0(G:Gd)(p:Pt)(s:Shared)(en:Bool)(K:LD->XT)(it:Value)(s₂:Shared):Prop
|mk {I J sr ds M as μ σ'}:it=.ref I->Gr p ⟨as,μ,σ'⟩->c5 ⟨as,μ,σ'⟩ M->St G p.σ s σ' s₂->gN μ sr ds->sr.en=en->iD G.base σ' s₂.heap sr ds.length 0 I J->dS p.σ s.heap I->dS p.σ s.heap J->K ds M->w0 G p s en K it s₂
def Cf(G:Gd)(A:Around)(p:Pt)(s:Shared)(en:Bool)(K:LD->XT)(X:XT)(x:Value)(s₁:Shared):Prop:=
 wpAny (model G.prog G.w) A (pyIter x) (w0 G p s en K) (λe s'=>eF G A (dk p X) p.σ s s' e) s₁
theorem lH.got{G:Gd}{p q:Pt}{M:LB}{s s₁ s₂:Shared}{en:Bool}{K:LD->XT}{ds:LD}{it:Value}(g:Gr p q)(st:c5 q M)(r:dY G.toPW G.base s₁.heap q.σ)(k:St G p.σ s q.σ s₁)(O:K ds M)(x:lH G q s₁ en ds it s₂):w0 G p s en K it s₂:=
 x.casesOn λe keep fx sr en it oI oJ=>⟨e,g,st,k.trans ⟨r.keeps keep,.same keep,fx⟩,sr,en,it,.back k.keep (.of oI),.back k.keep (.of oJ),O⟩
theorem yu{r:Kr}{S:SC}{how:Nat}{c:CE}{e:Expr}(h:kI r S how c e=true)(env:Env)(x:Value):foldedSetIterable e env x=pure x:=(GW (cN h).1).casesOn λ_ h=>h env x
section
variable{co:Kr->SC->CE->Expr->Bool}{G:Gd}{k:Nat}{E:Ev}{M:LB}{K:LD->XT}{X:XT}{c:CE}{F:Fc}{p:Pt}{ρ:List CV}
theorem AI{how n:Nat}{g:GV}{T:String}{en:Bool}{fe:Expr}{es:LX}{pos:Pos}(hT:vc g=some (.type T))(hg:∀v,yf G g v->False)
 (hc:∀{A:Around}{q:Pt}{M:LB}{s:Shared}{u:Value}{x:cJ}{ds:LD}(E:Value->Shared->Prop),c5 q M->c8 G true (F.k+1) A q.σ s.heap->ji how M x=some ds->cM q x (cv u)->
  wpAny (model G.prog G.w) A (call (.type T) [u]) (λv s₁=>wpAny (model G.prog G.w) A (pyIter v) (lH G q s en ds) E s₁) E s)
 (h:c1 (cT co) G k c E M (λv M₁=>∃ds,ji how M₁ v=some ds/\K ds M₁) X) (a:At G k E M F p ρ) (hk:(ip F.S g fe&&(cT co n).es F.S [c] es)=true) {A:Around} {s:Shared} (am:c8 G F.qh (F.k+1) A p.σ s.heap) (f:d5 G.base F.env F.S.names s.heap p.σ ρ):
 wpAny (model G.prog G.w) A (eval (.Call fe es [] pos) F.env) (Cf G A p s en K X) (λe s'=>eF G A (dk p X) p.σ s s' e) s:=by
 have h1:=cN hk
 refine oC fe h1.1 λy yp hy=>?_
 refine vo es h1.2 λn e l h0 he hl=>?_
 refine yv l hl ?_
 show wpAny _ A (eval (.Name y yp) F.env>>=λf=>callWith pos f [] (backTo pos (starEach [e] F.env)) []) _ _ s
 refine ah (az (qW (ρ:=ρ) (Y:=dk p X) a.env hy (Q:=λv σ=>v=.type T/\σ=p.σ) (λv i=>⟨i.casesOn (λq=>(hg v q).elim) λq=>(aq (hT.symm.trans q)).symm,rfl⟩) A s am f) (λv s₁ z=>z.casesOn λ{σ₁}s1 q=>?_) λ_ _ x=>x)
 have s1:St G p.σ s p.σ s₁:=q.2▸s1
 refine q.1▸PySem.callWith_type (mi λz hz=>((aF.mp hz)▸h0)) ?_
 rw[ni h0]
 refine evalArgs_plain ?_
 show wpAny _ _ (eval e F.env>>=λv=>(pure [v]:Sem LU)>>=λhere=>holding here (spliced (backTo pos (starEach [] F.env)))>>=λr=>pure (here++r)) _ _ _
 refine ah (Tr.wp (h _ _ a he) a (am.on s1) (f.on am s1.keep) (λ{x M₁ q u s₂}hq gr O r s2 U f₂=>?_) λ_ _ x=>x.mono s1)
 refine ah (aw (ah (aY (spliced_none (aw (hq.elim λds hq=>?_))))))
 exact az (hc _ O.st (O.qh▸U) hq.1 r) (λx s₃ z=>az z (λit s₄ x=>x.got gr O.st U.rep (s1.trans s2) hq.2) λ_ _ x=>x) λ_ _ x=>x
theorem GQ{how n:Nat}{e:Expr}(h:c1 (cT co) G k c E M (λv M₁=>∃ds,ji how M₁ v=some ds/\K ds M₁) X)(a:At G k E M F p ρ)(hk:kI (cT co n) F.S how c e=true){A:Around}{s:Shared}(am:c8 G F.qh (F.k+1) A p.σ s.heap)(f:d5 G.base F.env F.S.names s.heap p.σ ρ):
 wpAny (model G.prog G.w) A (eval e F.env) (Cf G A p s (Nat.beq how 3) K X) (λe s'=>eF G A (dk p X) p.σ s s' e) s:=by
 have hk:=(cN hk).2
 cases how with
 |zero=>
  refine Tr.wp (h _ _ a hk) a am f (λq gr O r s1 U f₁=>?_) λ_ _ x=>x
  exact q.elim λds q=>az (OT O.st U q.1 r) (λit s₂ x=>x.got gr O.st U.rep s1 q.2) λ_ _ x=>x
 |succ m=>
  have hm:=aD (cN hk).1
  have hk:=(cN hk).2
  cases m with
  |zero=>
   refine kZ e hk λfe es pos h1=>?_
   exact AI (T:="range") (g:=.range) rfl (λ_ q=>q) (λE st am h r=>OV st am h r) h a h1 am f
  |succ m=>cases m with
   |zero=>
    refine kZ e hk λfe es pos h1=>?_
    exact AI (T:="reversed") (g:=.reversed) rfl (λ_ q=>q) (λE st am h r=>OW st am h r) h a h1 am f
   |succ m=>cases m with
    |zero=>
     refine kZ e hk λfe es pos h1=>?_
     exact AI (T:="enumerate") (g:=.enumerate) rfl (λ_ q=>q) (λE st am h r=>OU st am h r) h a h1 am f
    |succ m=>exact absurd hm (Nat.not_lt_of_le (Nat.le_add_left 3 m))
end
noncomputable def xW(gtab:Str->Option GV)(ns:List (Str×NameKind)):List (Str×GV):=ns.filterMap λx=>if x.2=.globalImplicit then(gtab x.1).map λg=>(x.1,g) else none
noncomputable def d7(ns:List (Str×NameKind)):LQ:=(ns.filter λx=>x.2=.local∨x.2=.cell).map (·.1)
noncomputable def jB(ns:List (Str×NameKind)):LQ:=(ns.filter λx=>x.2=.free).map (·.1)
def SC.inner(S:SC)(sc:Scope):SC:={names:=d7 sc.names++jB sc.names,gl:=xW S.gtab sc.names,gtab:=S.gtab,pen:=none,cells:=jB sc.names}
section
variable{env:Env}
theorem NP{α β:Type}(g:α->β->β)(f:α->β->Sem (ForInStep β))(l:List α):∀b:β,(∀x∈l,∀c,f x c=pure (.yield (g x c)))->forIn l b f=(pure (l.foldl (λb x=>g x b) b):Sem β):=by
 induction l with
 |nil=>exactλ_ _=>rfl
 |cons x r O=>
  intro b h
  rw[List.forIn_cons,h x (.head _) b]
  exact O (g x b) λy U=>h y (.tail _ U)
noncomputable def rK(env:Env)(x:Str×NameKind)(c:List (Str×Addr)):List (Str×Addr):=if x.2=.free then(x.1,(env.cells.lookup x.1).getD 0)::c else c
def nX(sc:Scope)(env:Env):List (Str×Addr):=sc.names.foldl (λb x=>rK env x b) []
theorem Mv{sc:Scope}(h:∀x∈sc.names,x.2=.free->∃c,env.cells.lookup x.1=some c):closureFor sc env=pure (nX sc env):=by
 simp only[closureFor]
 rw[NP (rK env)]
 ·rfl
 ·intro x U c
  unfold rK
  by_cases e:x.2=.free
  ·obtain ⟨a,O⟩:=h _ U e
   rw[al e,e]
   simp only[cellOf,O]
   rfl
  ·rw[av e,av (λq=>e (eq_of_beq q))]
theorem oH{α:Type}{x:Str}{a:α}{l:List (Str×α)}:((x,a)::l).lookup x=some a:=by rw[bQ,ck]
theorem oK{α:Type}{x y:Str}{a:α}{l:List (Str×α)}(h:x≠y):((y,a)::l).lookup x=l.lookup x:=by rw[bQ,beq_false_of_ne h]
theorem Mr(ns:List (Str×NameKind)):∀(acc:List (Str×Addr))(x:Str),(∀y∈ns,y.2=.free->∃c,env.cells.lookup y.1=some c)->
 (ns.foldl (λb x=>rK env x b) acc).lookup x=if(x,NameKind.free)∈ns then env.cells.lookup x else acc.lookup x:=by
 induction ns with
 |nil=>exactλacc x _=>(av (λh=>dh h)).symm
 |cons y r O=>
  intro acc x h
  rw[List.foldl_cons,O _ x λy U=>h y (.tail _ U)]
  by_cases hr:(x,NameKind.free)∈r
  ·rw[al hr,al (.tail _ hr)]
  ·rw[av hr]
   unfold rK
   by_cases e:y.2=.free
   ·rw[al e]
    by_cases ex:x=y.1
    ·obtain ⟨c,hc⟩:=h _ (.head _) e
     rw[al (by rw[ex,←e];exact .head _),ex,oH,hc];rfl
    ·rw[av (λq=>(aM.mp q).elim (λq=>ex (aj Prod.fst q)) hr),oK ex]
   ·rw[av e,av (λq=>(aM.mp q).elim (λq=>e (aj Prod.snd q).symm) hr)]
noncomputable def AN(env:Env)(n:Str)(k:NameKind):NameKind:=if(k==.free&&env.scope.kind==.function&&env.kindOf n==some .cell) then .cell else k
theorem QX{f:Str->NameKind->NameKind}(ns:List (Str×NameKind))(x:Str):(ns.map λy=>(y.1,f y.1 y.2)).lookup x=(ns.lookup x).map (f x):=by
 induction ns with
 |nil=>rfl
 |cons y r O=>
  rw[aN]
  by_cases e:x=y.1
  ·rw[e,oH,show y::r=(y.1,y.2)::r from rfl,oH];rfl
  ·rw[oK e,O,show y::r=(y.1,y.2)::r from rfl,oK e]
theorem vt(sc:Scope)(cl:List (Str×Addr))(L:Addr)(env:Env)(x:Str):Env.kindOf (compEnvC sc cl L env) x=(sc.names.lookup x).map (AN env x):=by
 show(relabel sc env).names.lookup x=_
 rw[←QX]
 have e:(relabel sc env).names=sc.names.map λy=>(y.1,AN env y.1 y.2):=by
  show List.map _ _=List.map _ _
  congr 1
  funext ⟨n,k⟩
  unfold AN
  dsimp only
  split<;>rfl
 rw[e]
theorem gU{α:Type}{k:α}{x:Str}:∀{ns:List (Str×α)},(ns.map (·.1)).Nodup->(x,k)∈ns->ns.lookup x=some k:=by
 intro ns
 induction ns with
 |nil=>exactλ_ h=>dh h
 |cons y r O=>
  intro hn hm
  have hn:=bR.mp hn
  refine(aM.mp hm).elim (λe=>e▸oH) λe=>?_
  rw[show y::r=(y.1,y.2)::r from rfl,oK λq:x=y.1=>hn.1 (show y.1∈r.map (·.1) from q▸aB.mpr ⟨_,e,rfl⟩)]
  exact O hn.2 e
theorem mem_lookup{α:Type}{k:α}{x:Str}:∀{ns:List (Str×α)},ns.lookup x=some k->(x,k)∈ns:=by
 intro ns
 induction ns with
 |nil=>exactλh=>cR h
 |cons y r O=>
  intro h
  by_cases e:x=y.1
  ·rw[e,show y::r=(y.1,y.2)::r from rfl,oH] at h
   exact e▸aq h▸.head _
  ·rw[show y::r=(y.1,y.2)::r from rfl,oK e] at h
   exact .tail _ (O h)
def Df(S:SC)(sc:Scope):Bool:=
 (jB sc.names).all (λx=>decide (x∈S.cells)&&decide (x∈S.names))&&decide (sc.kind=.function)&&sc.names.all (λy=>decide (y.2≠.cell))&&decide (sc.names.map (·.1)).Nodup&&
  (d7 sc.names).all λy=>!(y==("__classdict__":Str))&&!(y==("__debug__":Str))
structure pj(S:SC)(sc:Scope):Prop where
frees:∀x∈jB sc.names,x∈S.cells/\x∈S.names
kind:sc.kind=.function
Y7:∀y∈sc.names,y.2≠.cell
nodup:(sc.names.map (·.1)).Nodup
plain:∀y∈d7 sc.names,(y==("__classdict__":Str))=false/\(y==("__debug__":Str))=false
theorem GB{b:Bool}(h:(!b)=true):b=false:=by cases b<;>first|rfl|exact cX h
theorem MH{S:SC}{sc:Scope}(h:Df S sc=true):pj S sc:=by
 have h:=cN h
 have O:=cN h.1
 have h2:=cN O.1
 have h3:=cN h2.1
 exact⟨λx hx=>have q:=cN (bh.mp h3.1 x hx);⟨aD q.1,aD q.2⟩,aD h3.2,λy U=>aD (bh.mp h2.2 y U),aD O.2,
  λy U=>have q:=cN (bh.mp h.2 y U);⟨GB q.1,GB q.2⟩⟩
theorem qu{p:NameKind->Prop}[DecidablePred p]{ns:List (Str×NameKind)}{x:Str}:x∈(ns.filter λx=>p x.2).map (·.1)↔∃k,(x,k)∈ns/\p k:=
 ⟨λh=>let⟨y,U,O⟩:=aB.mp h;have q:=aT.mp U;⟨y.2,O▸q.1,aD q.2⟩,λ⟨k,U,O⟩=>aB.mpr ⟨_,aT.mpr ⟨U,aG O⟩,rfl⟩⟩
theorem vE{ns:List (Str×NameKind)}{x:Str}:x∈jB ns↔(x,NameKind.free)∈ns:=
 ⟨λh=>let⟨_,U,O⟩:=(qu (p:=λk=>k=.free)).mp h;O▸U,λh=>(qu (p:=λk=>k=.free)).mpr ⟨_,h,rfl⟩⟩
theorem qt{ns:List (Str×NameKind)}{x:Str}:x∈d7 ns↔((x,NameKind.local)∈ns∨(x,NameKind.cell)∈ns):=
 ⟨λh=>let⟨k,U,O⟩:=(qu (p:=λk=>k=.local∨k=.cell)).mp h;Or.imp (λe:k=.local=>e▸U) (λe:k=.cell=>e▸U) O,λh=>(qu (p:=λk=>k=.local∨k=.cell)).mpr (h.elim (λh=>⟨_,h,.inl rfl⟩) λh=>⟨_,h,.inr rfl⟩)⟩
theorem xY{gtab:Str->Option GV}{ns:List (Str×NameKind)}{x:Str}{g:GV}(h:(xW gtab ns).lookup x=some g):(x,NameKind.globalImplicit)∈ns/\gtab x=some g:=by
 obtain ⟨y,h1,O⟩:=List.mem_filterMap.mp (mem_lookup h)
 by_cases e:y.2=.globalImplicit
 ·rw[al e] at O
  obtain ⟨g',h3,U⟩:=oM O
  have e1:y.1=x:=aj Prod.fst U
  have e2:g'=g:=aj Prod.snd U
  exact⟨e1▸e▸h1,e1▸e2▸h3⟩
 ·rw[av e] at O;exact cR O
end
def Fc.comp(F:Fc)(sc:Scope)(L:Nat):Fc:=⟨compEnvC sc (nX sc F.env) L F.env,F.S.inner sc,F.k,true⟩
section
variable{G:Gd}{F:Fc}{sc:Scope}(E:jx G F)(ok:pj F.S sc)
include E ok
theorem xC:∀x∈sc.names,x.2=.free->∃c,F.env.cells.lookup x.1=some c:=λx U hk=>(E.cells x.1 (ok.frees x.1 (vE.mpr (hk▸U))).1).2
theorem Dh:closureFor sc F.env=pure (nX sc F.env):=Mv (xC E ok)
theorem Dk(x:Str):(nX sc F.env).lookup x=if(x,NameKind.free)∈sc.names then F.env.cells.lookup x else none:=Mr _ _ _ (xC E ok)
theorem xA{x:Str}{c:Addr}(h:(nX sc F.env).lookup x=some c):(x,NameKind.free)∈sc.names/\F.env.cells.lookup x=some c:=by
 rw[Dk E ok] at h
 by_cases q:(x,NameKind.free)∈sc.names
 ·rw[al q] at h;exact⟨q,h⟩
 ·rw[av q] at h;exact cR h
theorem Dg{x:Str}(h:(x,NameKind.free)∈sc.names):(nX sc F.env).lookup x=F.env.cells.lookup x:=(Dk E ok x).trans (al h)
omit E in
theorem Dj{x:Str}{L:Addr}(h:x∈d7 sc.names):Env.kindOf (F.comp sc L).env x=some .local:=
 (qt.mp h).elim (λh=>(vt ..).trans ((aj (Option.map _) (gU ok.nodup h)).trans rfl)) λh=>absurd rfl (ok.Y7 _ h)
omit E in
theorem Di{x:Str}{L:Addr}(h:(x,NameKind.free)∈sc.names):Env.kindOf (F.comp sc L).env x=some .cell∨Env.kindOf (F.comp sc L).env x=some .free:=by
 show Env.kindOf (compEnvC sc _ L F.env) x=_∨Env.kindOf (compEnvC sc _ L F.env) x=_
 rw[vt,gU ok.nodup h]
 show some (ite _ _ _)=_∨some (ite _ _ _)=_
 split
 ·exact .inl rfl
 ·exact .inr rfl
theorem MJ{L:Addr}:jx G (F.comp sc L) where
 ok:=⟨ok.kind,E.ok.globals,E.ok.builtins⟩
 gl:=λx g U=>have h:=xY U;have q:=E.tab _ _ h.2;⟨(vt ..).trans (aj (Option.map _) (gU ok.nodup h.1)),q.1,q.2⟩
 tab:=E.tab
 cells:=λx U=>have hm:=vE.mp U;⟨Di ok hm,(xC E ok _ hm rfl).imp λc O=>(Dg E ok hm).trans O⟩
theorem ML{L:Nat}{h:Heap}{σ:H}{ρ:List CV}(f:d5 G.base F.env F.S.names h σ ρ)(hL:h.Ns L λ_=>none)(no:¬own σ L)(nb:G.base.get? L=none):
 d5 G.base (F.comp sc L).env (F.comp sc L).S.names h σ (List.replicate (d7 sc.names).length CV.Z8++(jB sc.names).map λx=>ρ.getD (F.S.names.idxOf x) .Z8):=by
 refine⟨?_,λi x r hx hr=>?_,⟨_,hL⟩,no,nb,λx c hk hc=>?_,λx y c U O=>f.Zy x y c (xA E ok U).2 (xA E ok O).2,?_,λx hx=>?_⟩
 ·show(d7 sc.names++jB sc.names).length=_
  rw[ak,ak,bv,ag]
 ·by_cases hi:i<(d7 sc.names).length
  ·have U:(d7 sc.names)[i]?=some x:=(bg hi).symm.trans hx
   rw[bg (by rw[bv];exact hi),List.getElem?_replicate,al hi] at hr
   exact aq hr▸.loc (Dj ok (ax U)) hL rfl
  ·have hge:(d7 sc.names).length<=i:=Nat.le_of_not_lt hi
   have U:(jB sc.names)[i-(d7 sc.names).length]?=some x:=(ba hge).symm.trans hx
   rw[ba (by rw[bv];exact hge),bv,aA,U] at hr
   have hm:=vE.mp (ax U)
   have q:=ok.frees x (ax U)
   have hid:F.S.names[F.S.names.idxOf x]?=some x:=(aC (List.idxOf_lt_length_of_mem q.2)).trans (aj some (List.getElem_idxOf _))
   have hlt:F.S.names.idxOf x<ρ.length:=f.len▸(aO.mp hid).1
   have hr':ρ[F.S.names.idxOf x]?=some (ρ.getD (F.S.names.idxOf x) .Z8):=by rw[cw,aC hlt];rfl
   refine aq hr▸(f.var _ _ _ hid hr').casesOn (λU _ _=>?_) λU O h3 h4 h5=>.cell (Di ok hm) ((Dg E ok hm).trans O) h3 h4 h5
   exact(E.cells x q.1).1.elim (λq=>nomatch q.symm.trans U) λq=>nomatch q.symm.trans U
 ·have q:=xA E ok hc
  refine f.ZP x c ?_ q.2
  have hk:Env.kindOf (compEnvC sc _ L F.env) x=_:=hk
  rw[vt,gU ok.nodup q.1] at hk
  have hk:some (ite _ _ _)=some NameKind.cell:=hk
  split at hk
  ·rename_i q;exact eq_of_beq (cN q).2
  ·cases hk
 ·have sub:∀{p:Str×NameKind->Bool},((sc.names.filter p).map (·.1)).Nodup:=λ{p}=>ok.nodup.sublist (List.Sublist.map _ b0)
  refine bH.mpr ⟨sub,sub,λa ha b hb e=>?_⟩
  have O:=gU ok.nodup (vE.mp (e▸hb))
  exact(qt.mp ha).elim (λU=>nomatch O.symm.trans (gU ok.nodup U)) λU=>nomatch O.symm.trans (gU ok.nodup U)
 ·exact(aI.mp hx).elim (ok.plain x) λU=>f.plain x (ok.frees x U).2
end
noncomputable def i6(E:Ev)(is:LN)(xs:LD):Ev:=(is.zip xs).foldl (λr p=>r.set p.1 (some (.sh p.2))) E
noncomputable def IP:D->Option LD
| .con t ds=>fh.casesOn t none (some ds) (λ_=>none) (λ_=>none) (λ_=>none) λ_ _=>none
|_=>none
theorem Wk{d:D}{ds:LD}(h:IP d=some ds):d=.tup ds:=by
 cases d with
 |con t es=>cases t with
  |tup=>exact aq h▸rfl
  |_=>exact cR h
 |_=>exact cR h
def wB(is:LN)(tup en:Bool)(i:Nat)(x:D):Option LD:=
 cond en (if is.length=2 then some [.int i,x] else none) (cond tup ((IP x).bind λO=>if O.length=is.length then some O else none) (if is.length=1 then some [x] else none))
def jj(names:LQ)(is:LN)(es:LX):Bool:=decide (is.length=es.length)&&(is.zip es).all λp=>(lz p.2).any λx=>decide (names[p.1]?=some x)
def jk(names:LQ)(is:LN)(tup:Bool)(e:Expr):Bool:=cond tup ((nv e).any λx=>jj names is x.1) (jj names is [e]&&(lz e).isSome)
inductive pM(p:Pt)(h:Heap)(is:LN)(xs:LD):Bool->Value->Prop
|one {v}:dW p.μ xs [cv v]->is.length=1->pM p h is xs false v
|tup {T items}:h.IsTuple T items->items.size=is.length->dW p.μ xs (items.toList.map cv)->pM p h is xs true (.ref T)
inductive uz(G:Gd)(F:Fc)(A:Around)(σ₀:H)(s₀:Shared)(p:Pt)(E:Ev)(s:Shared)(_:Unit)(s':Shared):Prop
|mk {ρ}:dB G F A σ₀ s₀ p.σ ρ s'->Pk G.base p.σ s.heap p.σ s'.heap->eC p E ρ->uz G F A σ₀ s₀ p E s () s'
theorem eC.set{p:Pt}{E:Ev}{ρ:List CV}{v:cJ}{c:CV}(r:eC p E ρ)(hv:cM p v c)(i:Nat):eC p (E.set i (some v)) (ρ.set i c):=by
 refine⟨by rw[bc,bc,r.len],λj u U=>?_⟩
 by_cases e:j=i
 ·subst e
  have O:=(aO.mp U).1
  rw[bc] at O
  have e:=aq (aq ((bd O).symm.trans U))
  exact⟨bd (r.len▸O),e▸hv⟩
 ·exact(r.at_ j u ((bX (Ne.symm e)).symm.trans U)).casesOn λa b=>⟨(bX (Ne.symm e)).trans a,b⟩
section
variable{G:Gd}{F:Fc}{A:Around}{σ₀:H}{s₀ s:Shared}{p:Pt}{ρ:List CV}{E:Ev}{E':Value->Shared->Prop}
theorem qi{names:LQ}{i:Nat}{is:LN}{e:Expr}{es:LX}(h:jj names (i::is) (e::es)=true):(∃x q,e=.Name x q/\names[i]?=some x)/\jj names is es=true:=by
 have h:=cN h
 have U:=cN h.2
 obtain ⟨x,⟨q,e⟩,O⟩:=q9 (BS e) U.1
 exact⟨⟨x,q,e,aD O⟩,by
  show(_&&_)=true
  rw[aG (bO (aD h.1)),Bool.true_and];exact U.2⟩
theorem dB.names(eo:pq F.env)(ol:dS σ₀ s₀.heap F.env.locals)(is:LN):∀{es:LX}{vals:LU}{xs:LD}{ρ:List CV}{E:Ev}{s:Shared},jj F.S.names is es=true->vals.length=is.length->
 (∀i∈is,∀n,F.S.names[i]?=some n->mD σ₀ s₀.heap F.env n)->dW p.μ xs (vals.map cv)->eC p E ρ->dB G F A σ₀ s₀ p.σ ρ s->
 wpAny (model G.prog G.w) A (assignInOrder ((assignEach es F.env).map (·.2)) vals) (uz G F A σ₀ s₀ p (i6 E is xs) s) E' s:=by
 induction is with
 |nil=>
  intro es vals xs ρ E s hk hl ow hr er x
  cases vals with
  |cons=>exact uh hl
  |nil=>cases es with
   |cons=>exact cX hk
   |nil=>exact aw ⟨x,λ_ _ p=>p,er⟩
 |cons i is ih=>
  intro es vals xs ρ E s hk hl ow hr er x
  cases vals with
  |nil=>exact nA hl
  |cons v vs=>cases es with
   |nil=>exact cX hk
   |cons e es=>cases xs with
    |nil=>exact jE ((show cv v::vs.map cv=[] from hr))
    |cons d xs=>
     obtain ⟨⟨n,q,rfl,hn⟩,hk'⟩:=qi hk
     show wpAny _ A (holding vs (assign (.Name n q) F.env v)>>=λ_=>assignInOrder ((assignEach es F.env).map (·.2)) vs) _ _ _
     refine ah (aY (wpAny_assign_Name (az (x.store (E:=E') (v:=v) eo hn (ow i (.head _) n hn) ol) (λ_ s₁ y=>y.casesOn λO U _ _=>?_) λ_ _ e=>e)))
     exact az (ih hk' (bO hl) (λj hj=>ow j (.tail _ hj)) hr.tl (er.set (v:=.sh d) hr.hd i) O) (λ_ s₂ z=>z.casesOn λx₂ k₂ e₂=>⟨x₂,U.trans k₂,e₂⟩) λ_ _ e=>e
theorem Dw{names:LQ}{env:Env}{is:LN}:∀{es:LX},jj names is es=true->(assignEach es env).length=is.length/\(assignEach es env).findIdx? (·.1)=none:=by
 induction is with
 |nil=>intro es hk;cases es with
  |nil=>exact⟨rfl,rfl⟩
  |cons=>exact cX hk
 |cons i is U=>intro es hk;cases es with
  |nil=>exact cX hk
  |cons e es=>
   obtain ⟨⟨n,q,rfl,hn⟩,O⟩:=qi hk
   have h:=U O
   have e:assignEach (.Name n q::es) env=(false,assign (.Name n q) env)::assignEach es env:=rfl
   rw[e]
   refine⟨aj Nat.succ h.1,?_⟩
   rw[List.findIdx?_cons,h.2];rfl
theorem dB.target{is:LN}{xs:LD}{tup:Bool}{t:Expr}{v:Value}(x:dB G F A σ₀ s₀ p.σ ρ s)(hh:A.handled=none)(eo:pq F.env)(ol:dS σ₀ s₀.heap F.env.locals)(hk:jk F.S.names is tup t=true)
 (ow:∀i∈is,∀n,F.S.names[i]?=some n->mD σ₀ s₀.heap F.env n) (hv:pM p s.heap is xs tup v) (er:eC p E ρ):wpAny (model G.prog G.w) A (assign t F.env v) (uz G F A σ₀ s₀ p (i6 E is xs) s) E' s:=by
 revert hk
 refine hv.casesOn (λ{v}hr hl hk=>?_) λ{T items}hT hl hr hk=>?_
 ·have hk:=(cN hk).1
  match is,hl with
  |[i],_=>match xs,hr with
   |[d],hr=>
    obtain ⟨⟨n,q,rfl,hn⟩,hk⟩:=qi hk
    exact wpAny_assign_Name (az (x.store (E:=E') (v:=v) eo hn (ow i (.head _) n hn) ol) (λ_ s₁ y=>y.casesOn λO U _ _=>⟨O,U,er.set (v:=.sh d) hr.hd i⟩) λ_ _ e=>e)
   |[],hr=>exact jE ((show[cv v]=[] from hr))
   |_::_::_,hr=>exact nomatch hr.len
 ·obtain ⟨y,rfl,hk⟩:=q9 (ny t) hk
  have q:=Dw (env:=F.env) hk
  refine wpAny_assign_Tuple hh hT (q.1.trans hl.symm) q.2 λh₁ hx=>?_
  have kp:∀b o,s.heap.get? b=some o->h₁.get? b=some o:=λb o e=>hx b o (bz (bD e)) e
  have U:eD G.base p.σ s.heap p.σ h₁:=.same kp
  exact az (dB.names eo ol is hk ((aZ).trans hl) ow hr er (x.step (s':={s with heap:=h₁}) ⟨x.Z6.rep.keeps kp,U,rfl,rfl⟩)) (λ_ s₂ z=>z.casesOn λx₂ k₂ e₂=>⟨x₂,(dI.keep U).trans k₂,e₂⟩) λ_ _ e=>e
theorem ID{is:LN}{tup en:Bool}{i:Nat}{d:D}{xs:LD}{v:Value}{h:Heap}(r:dY G.toPW G.base h p.σ)(sub:fv p.μ p.σ)(U:wB is tup en i d=some xs)(hv:rE p.μ h i d en v):pM p h is xs (en||tup) v:=by
 revert U
 refine hv.casesOn (λ{v}hd U=>?_) λ{T t y}hT hd U=>?_
 ·cases tup with
  |false=>obtain ⟨O,rfl⟩:=gu U;exact .one ⟨hd,rfl⟩ O
  |true=>
   obtain ⟨ys,O,h2⟩:=oB U
   obtain ⟨hl,rfl⟩:=gu h2
   cases Wk O
   refine(mP hd).casesOn λ{a vs}e rr=>?_
   have l:IsT h a vs:=r.at_ _ _ (sub _ _ e)
   refine l.casesOn (motive:=λvs _=>dW p.μ ys vs->_) (λ{items}hT _ rr=>?_) rr
   exact .tup hT ((aZ.symm.trans (ag _).symm).trans (rr.len.trans hl)) rr
 ·obtain ⟨O,rfl⟩:=gu U
  exact .tup hT O.symm ⟨rfl,hd,rfl⟩
end
def jU(turn:Nat->D->LB->(Option cJ->XT)->Prop)(K:LV->XT)(i:Nat)(ds:LD)(acc:LV)(M:LB):Prop:=
 List.rec (motive:=λ_=>Nat->LV->XT) (λ_ acc M=>K acc M) (λx _ O i acc M=>turn i x M λo M₁=>o.elim (O (i+1) acc M₁) λv=>acc.length<=mx/\O (i+1) (acc++[v]) M₁) ds i acc M
noncomputable def qf(k:Nat)(caps:LN)(E:Ev):Ev:=List.replicate k none++caps.map λi=>E.getD i none
def EF(k:Nat)(tgt:LN)(tup:Bool)(caps:LN)(how:Nat)(E:Ev)(i:Nat)(x:D):Option Ev:=(wB tgt tup (Nat.beq how 3) i x).map (i6 (qf k caps E) tgt)
section
variable(kc:Nat->Kr)(G:Gd)(k:Nat)
def wj(c:Option CE)(E:Ev)(M:LB)(K:Bool->XT)(X:XT):Prop:=c.elim (K true M) λc=>eJ kc G k c E M K X
def wG(n:Nat)(tgt:LN)(tup:Bool)(caps:LN)(how:Nat)(ifs:Option CE)(elt:CE)(E:Ev)(i:Nat)(x:D)(M:LB)(R:Option cJ->XT):Prop:=
 ∃E',EF n tgt tup caps how E i x=some E'/\wj kc G k ifs E' M (λb M₁=>if b then c1 kc G k elt E' M₁ (λu O=>R (some u) O) (λ_=>False) else R none M₁) λ_=>False
def uk(n:Nat)(tgt:LN)(tup:Bool)(caps:LN)(how:Nat)(iter:CE)(ifs:Option CE)(elt:CE)(E:Ev)(M:LB)(K:LV->XT)(X:XT):Prop:=
 c1 kc G k iter E M (λv M₁=>∃ds,ji how M₁ v=some ds/\jU (wG kc G k n tgt tup caps how ifs elt E) K 0 ds [] M₁) X
end
section
variable(e:Expr)
noncomputable def AE(elt:Expr)(sc:Scope)(p:Pos)(gs:List Comprehension):Option (Expr×Expr×Expr×LX×Scope×Pos):=List.casesOn (motive:=λ_=>Option (Expr×Expr×Expr×LX×Scope×Pos)) gs none λg gs=>cond (gs.isEmpty&&decide (g.is_async=0)) (some (elt,g.target,g.iter,g.ifs,sc,p)) none
def IZ:Option (Expr×Expr×Expr×LX×Scope×Pos):=cs (fg:=λelt gs sc p=>AE elt sc p gs) (e:=e)
theorem R2{elt:Expr}{sc:Scope}{p:Pos}{gs:List Comprehension}:(AE elt sc p gs).elim True λx=>.ListComp elt gs sc p=Expr.ListComp x.1 [⟨x.2.1,x.2.2.1,x.2.2.2.1,0⟩] x.2.2.2.2.1 x.2.2.2.2.2:=by
 cases gs with
 |nil=>exact trivial
 |cons g gs=>
  obtain ⟨t,i,f,a⟩:=g
  cases gs with
  |nil=>cases a with
   |ofNat a=>cases a with
    |zero=>exact rfl
    |succ=>exact trivial
   |negSucc=>exact trivial
  |cons=>exact trivial
theorem WS:(IZ e).elim True λx=>e=.ListComp x.1 [⟨x.2.1,x.2.2.1,x.2.2.2.1,0⟩] x.2.2.2.2.1 x.2.2.2.2.2:=gp (P:=λe (x:Expr×Expr×Expr×LX×Scope×Pos)=>e=.ListComp x.1 [⟨x.2.1,x.2.2.1,x.2.2.2.1,0⟩] x.2.2.2.2.1 x.2.2.2.2.2) (fg:=λelt gs sc p=>AE elt sc p gs) (hg:=λ_ _ _ _=>R2) cQ cU cQ cU cQ cU cU cQ cQ cQ eH eH cQ cU e
end
noncomputable def qj(r:Kr)(S:SC)(c:Option CE)(es:LX):Bool:=c.elim es.isEmpty λc=>List.casesOn es false λe es=>es.isEmpty&&r.t S c e
def vn(r:Kr)(S:SC)(c:CE)(e:Expr):Bool:=match c with
 | .comp n tgt tup caps how iter ifs elt=>(IZ e).any λx=>Df S x.2.2.2.2.1&&kI r S how iter x.2.2.1&&jk (d7 x.2.2.2.2.1.names) tgt (Nat.beq how 3||tup) x.2.1&&qj r (S.inner x.2.2.2.2.1) ifs x.2.2.2.1&&r.e (S.inner x.2.2.2.2.1) elt x.1&&
  decide (n=(d7 x.2.2.2.2.1.names).length)&&decide (caps=(jB x.2.2.2.2.1.names).map λy=>S.names.idxOf y)
 |_=>false
@[elab_as_elim] theorem EU{r:Kr}{S:SC}{n:Nat}{tgt:LN}{tup:Bool}{caps:LN}{how:Nat}{iter:CE}{ifs:Option CE}{elt:CE}(e:Expr){Z:Expr->Prop}(h:vn r S (.comp n tgt tup caps how iter ifs elt) e=true)
 (k:∀O tg it fs sc pos,pj S sc->kI r S how iter it=true->jk (d7 sc.names) tgt (Nat.beq how 3||tup) tg=true->qj r (S.inner sc) ifs fs=true->r.e (S.inner sc) elt O=true->n=(d7 sc.names).length->caps=(jB sc.names).map (λy=>S.names.idxOf y)->Z (.ListComp O [⟨tg,it,fs,0⟩] sc pos)):Z e:=by
 refine wM e (WS e) h λx h=>?_
 have U:=cN h
 have h5:=cN U.1
 have h4:=cN h5.1
 have h3:=cN h4.1
 have h2:=cN h3.1
 have h1:=cN h2.1
 exact k _ _ _ _ _ _ (MH h1.1) h1.2 h2.2 h3.2 h4.2 (aD h5.2) (aD U.2)
abbrev kc:Nat->Kr:=cT vn
noncomputable def IB(ifs:LX)(env:Env):Sem Bool:=
 forIn ifs true λc r=>if r=true then do let ok ←isTrue c env (eval c env);pure (ForInStep.yield ok) else pure (ForInStep.yield r)
section
variable(prog:Program)(w:World)(A:Around)(R:Result->Shared->Prop)(I:Nat->Shared->Prop)(n:Nat)(elt target:Expr)(ifs:LX)(it acc:Value)(env:Env)
def Je(b:Bool)(s:Shared):Prop:=cond b (wpAny (model prog w) A (eval elt env) (λx O=>wpAny (model prog w) A (call (.builtin "list.append") [acc,x]) (λ_ U=>∃m,m<n/\I m U) (λ_ _=>False) O) (λ_ _=>False) s) (∃m,m<n/\I m s)
def I6(v:Value)(_:Unit)(s:Shared):Prop:=wpAny (model prog w) A (assign target env v) (λ_ O=>wpAny (model prog w) A (IB ifs env) (Je prog w A I n elt acc env) (λ_ _=>False) O) (λ_ _=>False) s
def Jo(r:Option Value)(s:Shared):Prop:=r.elim (R (.ok .next) s) λv=>wpAny (model prog w) A (letOwnedTupleGo target it v) (I6 prog w A I n elt target ifs acc env v) (λ_ _=>False) s
end
theorem Q1{prog:Program}{w:World}{elt target iter:Expr}{ifs:LX}{scope:Scope}{pos:Pos}{it acc:Value}{env:Env}{A:Around}{R:Result->Shared->Prop}{s:Shared}(I:Nat->Shared->Prop)
 (turn:∀n s,I n s->wpAny (model prog w) A (pyNext it) (Jo prog w A R I n elt target ifs it acc env) (λ_ _=>False) s)
 (n:Nat) (h:I n s):codeAny (model prog w) A (.compLoop (.ListComp elt [⟨target,iter,ifs,0⟩] scope pos) 0 it acc env) R s:=by
 refine codeAny_loop rfl I (λn s hI=>?_) n h
 show wpAny _ A ((compTurn (.ListComp elt [⟨target,iter,ifs,0⟩] scope pos) 0 it acc env).onRaise (λx=>do noteFrame x env;theTreesLotGoes x)) _ _ s
 refine wpAny_noted ?_
 rw[compTurn_list]
 refine ah (bG (ah (az (turn n s hI) (λr s₁ h₁=>?_) λ_ _ h'=>h'.elim)))
 cases r with
 |none=>exact aw h₁
 |some v=>
  refine ah (az h₁ (λ_ s₁' U=>ah (az U (λ_ s₂ h₂=>ah (az h₂ (λok s₃ O=>?_) λ_ _ h'=>h'.elim)) λ_ _ h'=>h'.elim)) λ_ _ h'=>h'.elim)
  cases ok with
  |false=>exact aw ⟨rfl,O⟩
  |true=>exact ah (ah (az O (λx s₄ h₄=>ah (az h₄ (λ_ s₅ h₅=>aw (aw ⟨rfl,h₅⟩)) λ_ _ h'=>h'.elim)) λ_ _ h'=>h'.elim))
section
variable{G:Gd}{F:Fc}{A:Around}{σ₀ σ σ':H}{s₀ s s':Shared}{ρ:List CV}
theorem eF.no{p:Pt}{e:Value}(x:eF G A (dk p λ_=>False) σ s s' e):False:=x.casesOn λ_ _ _ _ h=>h.casesOn λ_ _ q=>q
theorem iD.chg{B h h':Heap}{sr:Sr}{n i I J D:Nat}(x:iD B σ h sr n i I J)(c:ja D D h h')(U:D≠I)(O:D≠J):iD B σ h' sr n i I J:=x.casesOn λa b o=>⟨a.chg c U.symm U.symm,b.chg c O.symm O.symm,o⟩
theorem St.adopt{D:Nat}{o:Obj}{vs:List CV}(x:St G σ₀ s₀ σ s)(O:dI G.base σ s.heap D o)(oD:dS σ₀ s₀.heap D)(hl:IsL s.heap D vs):St G σ₀ s₀ (dR σ D ⟨.list,vs⟩) s:=by
 refine⟨⟨λb ob hb=>?_,λb hb=>?_,λb ob hb i=>?_⟩,λa o e n=>(x.keep a o e n).casesOn λsl e1 q n1=>⟨sl,e1,q,λoo=>?_⟩,x.fx⟩
 ·by_cases e:b=D
  ·subst e;exact aq ((iB _ _ _).symm.trans hb)▸hl
  ·exact x.rep.at_ b ob ((eU _ _ e).symm.trans hb)
 ·exact(qK hb).elim (x.rep.new b) λq=>q.elim (λe=>e▸O.nb) λq=>cX q.2
 ·by_cases e:b+1=D
  ·subst e;cases (iB _ _ _).symm.trans hb;exact cX i
  ·have hb:=(eU _ _ e).symm.trans hb
   exact(eU _ _ λe':b=D=>O.ZX (e'▸(.dx hb i:own σ b))).trans (x.rep.apart b ob hb i)
 ·exact(qK oo).elim n1 λq=>q.elim (λU=>n (U▸oD o (U▸e))) λq=>cX q.2
theorem St.drop{L:Nat}{o:Obj}{h':Heap}(x:St G σ₀ s₀ σ s)(O:dS σ₀ s₀.heap L)(U:¬own σ L)(hL:s.heap.get? L=some o)(nt:∀xs n,o.cls=.type "tuple"->o.data=.seq xs n->False)(hs:Heap.SameBut L s.heap h'):St G σ₀ s₀ σ {s with heap:=h'}:=
 ⟨x.rep.mono (λb z ob hz=>(hs.2 b λe=>U (e▸ob)).trans hz) (nR.but hs hL nt),x.keep.chg (I:=L) (J:=L) O O λb o h1 _ e=>(hs.2 b h1).trans e,⟨x.fx.os,x.fx.gens⟩⟩
theorem dB.drop{ρ':List CV}{L:Nat}{o:Obj}{h':Heap}{es n}(O:dB G F A σ₀ s₀ σ ρ s)(x:dB G F A σ₀ s₀ σ' ρ' s')(oL:dS σ s.heap L)(nL:¬own σ' L)(hL:s'.heap.get? L=some o)(hd:o.data=.dict es n)(hs:Heap.SameBut L s'.heap h'):dB G F A σ₀ s₀ σ' ρ' {s' with heap:=h'}:=by
 have nt:∀xs n,o.cls=.type "tuple"->o.data=.seq xs n->False:=λ_ _ _ q=>nomatch hd.symm.trans q
 have st:=x.st.drop (dS.back O.st.keep oL) nL hL nt hs
 have U:∀{b o},s.heap.get? b=some o->¬own σ b->b≠L:=λh n e=>n (e▸oL _ (e▸h))
 refine⟨⟨x.Z6.room,x.Z6.hd,x.Z6.l0,λl hl=>(x.Z6.fr l hl).step λenv he b o hb ho es n hd=>⟨o,es,n,(hs.2 b ?_).trans ho,hd,((x.Z6.fr l hl).out env he b hb).casesOn λn _ _=>n⟩,λb o hb=>(hs.2 b ?_).trans (x.Z6.st b o hb),st.rep⟩,st,?_⟩
 ·exact((O.Z6.fr l hl).out env he b hb).casesOn λn h _=>U h n
 ·exact U (O.Z6.st b o hb) λq=>ez (O.Z6.rep.new b q) hb
 ·obtain ⟨m,o1,es1,ep1,h1,_⟩:=O.fr.ns
  have nl:=U h1 O.fr.ZX
  exact x.fr.to (λm ⟨o,es,ep,ho,r⟩=>⟨o,es,ep,(hs.2 _ nl).trans ho,r⟩) x.fr.ZX (λy c o2 v _ h3 h4=>⟨o2,(hs.2 c λe=>rT hd (aq ((e▸hL).symm.trans h3)▸h4)).trans h3,h4⟩) λy c hk hl=>(x.fr.ZP y c hk hl).casesOn λn _ _ _=>n
end
noncomputable def vC(items:Array Value)(n:Nat):Obj:={cls:=.type "list",data:=.seq items n}
inductive uj(G:Gd)(F:Fc)(A:Around)(p:Pt)(s:Shared)(B:Ev)(en:Bool)(I J Z:Nat)(ds:LD)(turn:Nat->D->LB->(Option cJ->XT)->Prop)(fin:LV->XT)(m:Nat)(s':Shared):Prop
 |mk {i M q ρ acc items n sr}:m=ds.length-i->Gr p q->c5 q M->dB G F A p.σ s q.σ ρ s'->eC q B ρ->gN q.μ sr ds->sr.en=en->iD G.base q.σ s'.heap sr ds.length i I J->dI G.base q.σ s'.heap Z (vC items n)->Rel2 (cM q) acc (items.toList.map cv)->acc.length<=2^25->
  jU turn fin i (ds.drop i) acc M->uj G F A p s B en I J Z ds turn fin m s'
inductive pf(G:Gd)(F:Fc)(A:Around)(p:Pt)(s:Shared)(Z:Nat)(fin:LV->XT)(s':Shared):Prop
|mk {M q ρ acc items n}:Gr p q->c5 q M->dB G F A p.σ s q.σ ρ s'->dI G.base q.σ s'.heap Z (vC items n)->Rel2 (cM q) acc (items.toList.map cv)->acc.length<=2^25->fin acc M->pf G F A p s Z fin s'
section
variable{co:Kr->SC->CE->Expr->Bool}{G:Gd}{k:Nat}{E:Ev}{M:LB}{X:XT}{F:Fc}{p:Pt}{ρ:List CV}
theorem SE{n:Nat}{c:Option CE}{es:LX}{K:Bool->XT}(h:wj (cT co) G k c E M K X)(a:At G k E M F p ρ)(hk:qj (cT co n) F.S c es=true):Tr G F ρ p.σ (IB es F.env) (Got RB p K) (dk p X):=by
 cases c with
 |none=>cases es with
  |nil=>exact Tr.pure (.here (x:=true) a.st rfl h)
  |cons=>exact cX hk
 |some c=>cases es with
  |nil=>exact cX hk
  |cons e es=>cases es with
   |nil=>exactλA s am f=>wpAny_tests_one ((show eJ (cT co) G k c E M K X from h) n e a (show(cT co n).t F.S c e=true from hk) A s am f)
   |cons=>exact cX hk
end
section
variable{G:Gd}{F:Fc}{A:Around}{p:Pt}{s:Shared}{E:Ev}{X:XT}{en:Bool}{I J Z L n how:Nat}{ds:LD}{sc:Scope}{tgt caps:LN}{tup:Bool}{ifs:Option CE}{elt:CE}{fin:LV->XT}{elt' tgt' it':Expr}{ifs':LX}{pos:Pos}{m:Nat}
theorem IC{names:LQ}{is:LN}{tup:Bool}{e:Expr}(h:jk names is tup e=true):nQ e/\(tup=true->∀x p,e≠.Name x p):=by
 cases tup with
 |true=>obtain ⟨x,rfl,_⟩:=q9 (ny e) h;exact⟨.tup,λ_ _ _ e=>nomatch e⟩
 |false=>
  have h:=(cN h).2
  have s:=BS e
  cases q:lz e with
  |none=>rw[q] at h;exact cX h
  |some x=>rw[q] at s;obtain ⟨_,rfl⟩:=s;exact⟨.nm,λe=>cX e⟩
theorem O6{names:LQ}{is:LN}:∀{es:LX},jj names is es=true->∀i∈is,∃x,names[i]?=some x:=by
 induction is with
 |nil=>exactλ_ _ h=>dh h
 |cons i is O=>intro es hk;cases es with
  |nil=>exact cX hk
  |cons e es=>exactλj U=>(aM.mp U).elim (λq=>(qi hk).1.elim λx h=>h.elim λ_ h=>⟨x,q▸h.2⟩) (O (qi hk).2 j)
theorem O7{l O:LQ}{is:LN}{es:LX}(h:∀(i:Nat)x,l[i]?=some x->O[i]?=some x)(hk:jj l is es=true):jj O is es=true:=by
 have hk:=cN hk
 refine(Bool.and_eq_true _ _).mpr ⟨hk.1,bh.mpr λy U=>?_⟩
 have q:=bh.mp hk.2 y U
 cases e:lz y.2 with
 |none=>rw[e] at q;exact cX q
 |some x=>rw[e] at q;exact aG (h _ _ (aD q))
theorem EY{l:LQ}{is:LN}{tup:Bool}{e:Expr}(h:jk l is tup e=true):∃es,jj l is es=true/\∀O,jj O is es=true->jk O is tup e=true:=by
 cases tup with
 |true=>obtain ⟨x,rfl,h⟩:=q9 (ny e) h;exact⟨_,h,λ_ h=>h⟩
 |false=>exact⟨_,(cN h).1,λ_ h'=>(Bool.and_eq_true _ _).mpr ⟨h',(cN h).2⟩⟩
theorem O8{names:LQ}{is:LN}{tup:Bool}{e:Expr}(h:jk names is tup e=true):∀i∈is,∃x,names[i]?=some x:=(EY h).elim λ_ q=>O6 q.1
theorem O9{l O:LQ}{is:LN}{tup:Bool}{e:Expr}(k:∀(i:Nat)x,l[i]?=some x->O[i]?=some x)(h:jk l is tup e=true):jk O is tup e=true:=(EY h).elim λ_ q=>q.2 _ (O7 k q.1)
theorem UF{is:LN}{j:Nat}(h:j∉is):∀{xs:LD}{E:Ev},(i6 E is xs)[j]?=E[j]?:=by
 induction is with
 |nil=>exact rfl
 |cons i is O=>intro xs E;cases xs with
  |nil=>exact rfl
  |cons x xs=>exact(O (λq=>h (.tail _ q)) (E:=E.set i (some (.sh x)))).trans (bX λe=>h (List.mem_cons.mpr (.inl e.symm)))
theorem UE{is:LN}:∀{xs:LD}{E:Ev},(i6 E is xs).length=E.length:=by
 induction is with
 |nil=>exact rfl
 |cons i is O=>intro xs E;cases xs with
  |nil=>exact rfl
  |cons x xs=>exact(O (E:=E.set i (some (.sh x)))).trans (bc ..)
theorem eC.unset{q:Pt}{B:Ev}{is:LN}{xs:LD}{ρ:List CV}(r:eC q (i6 B is xs) ρ)(h:∀i∈is,∀v,B[i]?=some (some v)->False):eC q B ρ:=
 ⟨UE.symm.trans r.len,λi v O=>r.at_ i v ((UF λhi=>h i hi v O).trans O)⟩
theorem CN{n i:Nat}{caps:LN}{E:Ev}{v:cJ}(h:i<n)(hv:(qf n caps E)[i]?=some (some v)):False:=by
 have e:=(bg (by rw[bv];exact h)).symm.trans hv
 rw[List.getElem?_replicate,al h] at e
 cases e
theorem QZ{B:Ev}{T:Nat->D->LB->(Option cJ->XT)->Prop}{V:Nat->Shared->Prop}(eS:jx G F)(hq:F.qh=true)(oL:dS p.σ s.heap F.env.locals)(oI:dS p.σ s.heap I)(oJ:dS p.σ s.heap J)(oD:dS p.σ s.heap Z)(hI:Z≠I)(hJ:Z≠J)
 (hT:jk F.S.names tgt (Nat.beq how 3||tup) tgt'=true) (ow:∀i∈tgt,∀x,F.S.names[i]?=some x->mD p.σ s.heap F.env x) (hB:∀i∈tgt,∀v,B[i]?=some (some v)->False) (hF:qj (kc m) F.S ifs ifs'=true) (hE:(kc m).e F.S elt elt'=true)
 (hTn:∀{i d M Kk},T i d M Kk->∃xs,wB tgt tup (Nat.beq how 3) i d=some xs/\wj kc G F.k ifs (i6 B tgt xs) M (λb M₁=>if b then c1 kc G F.k elt (i6 B tgt xs) M₁ (λu M₂=>Kk (some u) M₂) (λ_=>False) else Kk none M₁) λ_=>False)
 (hV:∀m s',uj G F A p s B (Nat.beq how 3) I J Z ds T fin m s'->V m s') (hV':∀m s',V m s'->uj G F A p s B (Nat.beq how 3) I J Z ds T fin m s')
 {RR:Result->Shared->Prop} (hRR:∀s',pf G F A p s Z fin s'->RR (.ok .next) s') {N:Nat} {s₁:Shared} (h:V N s₁):
 codeAny (model G.prog G.w) A (.compLoop (.ListComp elt' [⟨tgt',it',ifs',0⟩] sc pos) 0 (.ref I) (.ref Z) F.env) RR s₁:=by
 have tt:=IC hT
 refine Q1 V (λN s' inv=>(hV' N s' inv).casesOn λ{i M q ρ acc items z sr}hm g st x er src he it pD rel hz hw=>
  it.casesOn λ{o oj}pI pJ ito=>az (EP (E:=λ_ _=>False) (hq▸x.Z6) st.sub tt.1 (λq=>tt.2 (by rw[←he,q];rfl)) src it) (λr s₁ hr=>?_) λ_ _ e=>e) N h
 cases r with
 |none=>
  refine pF.casesOn (show pF s' ds i I J s₁ from hr) λhl c fx=>hRR _ ⟨g,st,x.chg pI pJ c oI oJ fx,pD.chg c hI hJ,rel,hz,?_⟩
  rw[List.drop_eq_nil_iff.mpr hl] at hw;exact hw
 |some u=>
  refine az (show wpAny _ _ _ _ _ _ from hr) (λ_ s₂ nx=>nx.casesOn λ{d}hx c fx it₂ val=>?_) λ_ _ e=>e
  have x₂:=x.chg pI pJ c oI oJ fx
  have pD₂:=pD.chg c hI hJ
  have hlt:=(aO.mp hx).1
  rw[List.drop_eq_getElem_cons hlt,(aO.mp hx).2] at hw
  refine(hTn (show T i d M (λo M₁=>o.elim (jU T fin (i+1) (ds.drop (i+1)) acc M₁) λv=>acc.length<=mx/\jU T fin (i+1) (ds.drop (i+1)) (acc++[v]) M₁) from hw)).elim λxs ht=>?_
  have next:∀{q':Pt}{M':LB}{ρ':List CV}{acc':LV}{items' z' s'},Gr p q'->Gr q q'->c5 q' M'->dB G F A p.σ s q'.σ ρ' s'->eC q' B ρ'->iD G.base q'.σ s'.heap sr ds.length (i+1) I J->dI G.base q'.σ s'.heap Z (vC items' z')->
   Rel2 (cM q') acc' (items'.toList.map cv)->acc'.length<=2^25->jU T fin (i+1) (ds.drop (i+1)) acc' M'->∃m,m<N/\V m s':=
   λg' O st x er it pD rel hz hw=>⟨_,hm▸Nat.sub_lt_sub_left hlt (bP i),hV _ _ ⟨rfl,g',st,x,er,src.up O.mu,he,it,pD,rel,hz,hw⟩⟩
  have tv:pM q s₂.heap tgt xs (Nat.beq how 3||tup) u:=he▸ID x₂.Z6.rep st.sub (he▸ht.1) val
  refine az (x₂.target (x₂.Z6.hd hq) eS.ok oL hT ow tv er) (λ_ s₃ y=>y.casesOn λ{U}x₃ k₃ er₃=>?_) λ_ _ e=>e
  have er0:eC q B U:=er₃.unset hB
  have at₃:At G F.k (i6 B tgt xs) M F q U:=⟨eS,rfl,hq,st,er₃⟩
  refine Tr.wp (SE ht.2 at₃ hF) at₃ x₃.Z6 x₃.fr (λ{b M₁ q₁ v s₄}hb O at₄ e s4 am₄ f₄=>?_) λ_ _ e=>e.no
  have x₄:dB G F A p.σ s q₁.σ U s₄:=⟨am₄,x₃.st.trans s4,f₄⟩
  have k₄:=k₃.trans (dI.keep s4.keep)
  rw[←show b=v from e]
  cases b with
  |false=>exact next (g.trans O) O at₄.st x₄ (er0.gr O) (it₂.pk k₄) (k₄ _ _ pD₂) (valRs.gr O rel) hz hb
  |true=>
   refine Tr.wp (hb m _ at₄ hE) at₄ am₄ f₄ (λ{u M₂ q₂ v s₅}hb g₂ at₅ r s5 am₅ f₅=>?_) λ_ _ e=>e.no
   have x₅:dB G F A p.σ s q₂.σ U s₅:=⟨am₅,x₄.st.trans s5,f₅⟩
   have k₅:=k₄.trans (dI.keep s5.keep)
   have p₅:=k₅ _ _ pD₂
   have rel₅:=valRs.gr (O.trans g₂) rel
   have hlen:=rel₅.len
   rw[ag,aZ] at hlen
   refine wpAny_list_append_plain (hsz:=hlen▸iu hb.1) ⟨z,p₅.at_⟩ λh₆ hl₆ hs₆=>hl₆.elim λz' e₆=>?_
   have c₆:ja Z Z s₅.heap h₆:=.of hs₆.extBut
   exact next (s':={s₅ with heap:=h₆}) (g.trans (O.trans g₂)) (O.trans g₂) at₅.st (x₅.chg p₅ p₅ c₆ oD oD ⟨rfl,rfl⟩) (er0.gr (O.trans g₂)) ((it₂.pk k₅).chg c₆ hI hJ) (p₅.put e₆ (.lst rfl rfl)) (by rw[Array.toList_push,ay];exact Rel2.app (show Rel2 (cM q₂) [u] [cv v] from⟨r,rfl⟩) rel₅)
    (by rw[ak,List.length_singleton];exact ae (aK hb.1) dQ) hb.2
theorem MN(eS:jx G (F.comp sc L))(ok:pj F.S sc)(oL:dS p.σ s.heap L)(oI:dS p.σ s.heap I)(oJ:dS p.σ s.heap J)(oD:dS p.σ s.heap Z)(hI:Z≠I)(hJ:Z≠J)(hn:n=(d7 sc.names).length)
 (hT:jk (d7 sc.names) tgt (Nat.beq how 3||tup) tgt'=true) (hF:qj (kc m) (F.S.inner sc) ifs ifs'=true) (hE:(kc m).e (F.S.inner sc) elt elt'=true)
 {RR:Result->Shared->Prop} (O:∀s',pf G (F.comp sc L) A p s Z fin s'->RR (.ok .next) s') {N:Nat} {s₁:Shared} (h:uj G (F.comp sc L) A p s (qf n caps E) (Nat.beq how 3) I J Z ds (wG kc G F.k n tgt tup caps how ifs elt E) fin N s₁):
 codeAny (model G.prog G.w) A (.compLoop (.ListComp elt' [⟨tgt',it',ifs',0⟩] sc pos) 0 (.ref I) (.ref Z) (F.comp sc L).env) RR s₁:=
 have hM:=O8 hT
 QZ (F:=F.comp sc L) eS rfl oL oI oJ oD hI hJ (O9 (λi x=>lO) hT) (λi hi x hx=>(hM i hi).elim λy U=>.loc (Dj ok (ax (aq ((lO U).symm.trans hx)▸U))))
  (λi hi v hv=>(hM i hi).elim λy U=>CN (hn▸(aO.mp U).1) hv) hF hE (λh=>h.elim λE' h=>(oM h.1).elim λxs e=>⟨xs,e.1,e.2▸h.2⟩) (λ_ _ x=>x) (λ_ _ x=>x) O h
end
section
variable{G:Gd}{F:Fc}{A:Around}{p:Pt}{s:Shared}{E:Ev}{X:XT}{k n how:Nat}{ρ:List CV}{sc:Scope}{tgt caps:LN}{tup:Bool}{iter:CE}{ifs:Option CE}{elt:CE}{fin:LV->XT}{M:LB}{m:Nat}
theorem eC.inner(er:eC p E ρ){l:Nat}{fs:LQ}{names:LQ}:eC p (qf l (fs.map λy=>names.idxOf y) E) (List.replicate l CV.Z8++fs.map λx=>ρ.getD (names.idxOf x) .Z8):=by
 refine⟨by unfold qf;rw[ak,ak,ag,ag,ag,bv,bv],λj v hv=>?_⟩
 by_cases U:j<l
 ·exact(CN U hv).elim
 ·have U:=Nat.le_of_not_lt U
  have e:=(ba (bv▸U)).symm.trans hv
  rw[bv,aA,aA] at e
  obtain ⟨i,e1,O⟩:=oM e
  obtain ⟨y,e3,rfl⟩:=oM e1
  have O:E[names.idxOf y]?.getD none=some v:=List.getD_eq_getElem?_getD.symm.trans O
  cases q:E[names.idxOf y]? with
  |none=>rw[q] at O;exact cR O
  |some u=>
   rw[q] at O
   cases (show u=some v from O)
   refine(er.at_ _ v q).casesOn λ{c}h1 h2=>⟨(ba (bv▸U)).trans ?_,h2⟩
   rw[bv,aA,e3,Option.map_some,cw,h1];rfl
theorem Dl{elt' tgt' it':Expr}{ifs':LX}{pos:Pos}{EE:Value->Shared->Prop}(h:uk kc G k n tgt tup caps how iter ifs elt E M fin X)(a:At G k E M F p ρ)(ok:pj F.S sc)
 (hIt:kI (kc m) F.S how iter it'=true) (hT:jk (d7 sc.names) tgt (Nat.beq how 3||tup) tgt'=true) (hF:qj (kc m) (F.S.inner sc) ifs ifs'=true) (hE:(kc m).e (F.S.inner sc) elt elt'=true) (hn:n=(d7 sc.names).length) (hc:caps=(jB sc.names).map λy=>F.S.names.idxOf y)
 (am:c8 G F.qh (F.k+1) A p.σ s.heap) (f:d5 G.base F.env F.S.names s.heap p.σ ρ) (hEE:∀e s',eF G A (dk p X) p.σ s s' e->EE e s') {RR:Value->Nat->Result->Shared->Prop}
 (hRR:∀(Z L:Nat)s',pf G (F.comp sc L) A p s Z fin s'->dS p.σ s.heap Z->dS p.σ s.heap L->RR (.ref Z) L (.ok .next) s'):
 wpAny (model G.prog G.w) A (eval it' F.env) (λx s₁=>wpAny (model G.prog G.w) A (pyIter x) (λit' s₂=>wpAny (model G.prog G.w) A (newList []) (λacc s₃=>
  wpAny (model G.prog G.w) A (newFunctionEnv sc F.env.globals (nX sc F.env) [] F.env.qual none .none (some F.env)) (λcenv s₄=>
   codeAny (model G.prog G.w) A (.compStart (.ListComp elt' [⟨tgt',x₀,ifs',0⟩] sc pos) 0 it' acc {cenv with scope:=relabel sc F.env}) (RR acc cenv.locals) s₄) EE s₃) EE s₂) EE s₁) EE s:=by
 have hk:=a.k
 subst hk
 refine az (GQ h a hIt am f) (λx s₁ h₁=>az (show wpAny _ _ _ _ _ _ from h₁) (λit s₂ h₂=>h₂.casesOn λ{I J sr ds M₁ as μ σ'}e g st s1 src he it oI oJ kk=>?_) hEE) hEE
 subst e
 have U:=am.on s1
 refine bJ (wpAny_newFunctionEnv ok.Y7 (λ_ h=>dh h) (λh₁ hns fj=>?_) ok.kind)
 have hC:(s₂.heap.push {cls:=.type "list",dict:=none,data:=.seq ([]:LU).toArray}).objs.size=s₂.heap.objs.size+1:=Heap.size_push ..
 generalize hL:(s₂.heap.push {cls:=.type "list",dict:=none,data:=.seq ([]:LU).toArray}).objs.size=L at hns fj hC⊢
 have ne:∀{b},b<s₂.heap.objs.size+1->b≠L:=λh=>hC▸bz h
 have old:∀b o,s₂.heap.get? b=some o->h₁.get? b=some o:=λb o e=>fj.extBut b o (ne (Nat.lt_succ_of_lt (bD e))) (bt _ (bt _ e))
 have hZ:h₁.get? s₂.heap.objs.size=some (vC #[] 0):=fj.extBut _ _ (ne (bP _)) (bt _ (bY _ rfl))
 have fL:s₂.heap.get? L=none:=ky (hC▸aU _)
 have fZ:s₂.heap.get? s₂.heap.objs.size=none:=ky (ao _)
 have s3:∀tk,St G p.σ s σ' {s₂ with heap:=h₁,toks:=tk}:=λtk=>s1.trans ⟨U.rep.keeps old,.same old,⟨rfl,rfl⟩⟩
 have er:eC ⟨as,μ,σ'⟩ (qf n caps E) (List.replicate (d7 sc.names).length CV.Z8++(jB sc.names).map λx=>ρ.getD (F.S.names.idxOf x) .Z8):=by
  rw[hn,hc];exact(a.er.gr g).inner
 have xx:∀tk,dB G (F.comp sc L) A p.σ s σ' (List.replicate (d7 sc.names).length CV.Z8++(jB sc.names).map λx=>ρ.getD (F.S.names.idxOf x) .Z8) {s₂ with heap:=h₁,toks:=tk}:=λtk=>
  ⟨show c8 G true (F.k+1) A σ' h₁ from a.qh▸am.on (s3 tk),s3 tk,ML a.env ok (f.on am (s3 tk).keep) hns (U.rep.ZJ (hC▸aU _)) (U.ZE fL)⟩
 have pk:Pk G.base σ' s₂.heap σ' h₁:=dI.keep (.same old)
 refine it.casesOn λpI pJ ito=>?_
 have nz:∀{b:Nat}{o:Obj},s₂.heap.get? b=some o->s₂.heap.objs.size≠b:=λe q=>ez (q▸fZ) e
 have O:iD G.base σ' h₁ sr ds.length 0 I J:=⟨pk _ _ pI,pk _ _ pJ,ito⟩
 have loop:∀tk,codeAny (model G.prog G.w) A (.compLoop (.ListComp elt' [⟨tgt',x₀,ifs',0⟩] sc pos) 0 (.ref I) (.ref s₂.heap.objs.size) (F.comp sc L).env) (RR (.ref s₂.heap.objs.size) L) {s₂ with heap:=h₁,toks:=tk}:=λtk=>
  MN (n:=n) (caps:=caps) (E:=E) (elt:=elt) (ifs:=ifs) (tgt:=tgt) (tup:=tup) (how:=how) (N:=ds.length) (MJ a.env ok) ok (.back s1.keep (.of fL)) oI oJ (.back s1.keep (.of fZ)) (nz pI.at_) (nz pJ.at_) hn hT hF hE (λs' ce=>hRR _ _ s' ce (.back s1.keep (.of fZ)) (.back s1.keep (.of fL)))
   (.mk (i:=0) rfl g st (xx tk) er src he O ⟨U.rep.ZJ (ao _),U.ZE fZ,hZ,.lst rfl rfl⟩ (show Rel2 _ [] [] from rfl) (aL _) kk)
 exact codeAny_compStart_list (loop _) (OX (G:=G) O (loop _))
theorem Fl(ok:pj F.S sc):∀x∈sc.names,x.2=.local->sc.names.lookup x.1=some .local:=λx U hk=>gU ok.nodup (hk▸U)
inductive BW(G:Gd)(F:Fc)(A:Around)(p:Pt)(s:Shared)(L Z:Nat)(K:KT)(s':Shared):Prop
|mk {σ' m}:s'.heap.Ns L m->¬own σ' L->St G p.σ s σ' s'->Got RV p K (.ref Z) σ'->BW G F A p s L Z K s'
theorem pf.done{Z L:Nat}{K:KT}{s':Shared}(oZ:dS p.σ s.heap Z)(x:pf G (F.comp sc L) A p s Z (λvs O=>gI vs O K) s'):BW G F A p s L Z K s':=by
 refine x.casesOn λ{M q ρ acc items z}g st x U rel hz kf=>x.fr.ns.elim λm hm=>?_
 have hl:IsL s'.heap Z (items.toList.map cv):=.mk ⟨z,U.at_⟩ (((ag _).trans aZ).symm.trans rel.len▸hz)
 have hn:q.σ Z=none:=by
  cases e:q.σ Z with
  |none=>rfl
  |some o=>exact(U.ZX (.at e)).elim
 refine⟨hm,?_,x.st.adopt U oZ hl,(xZ st hn rel kf).pre g⟩
 refineλoo=>(qK oo).elim x.fr.ZX λe=>e.elim (λe=>?_) λe=>cX e.2
 obtain ⟨o,es,ep,ho,hd,_⟩:=hm
 exact(U.is (e▸ho)).nd hd
theorem GP{K:KT}(h:uk kc G k n tgt tup caps how iter ifs elt E M (λvs O=>gI vs O K) X):c1 kc G k (.comp n tgt tup caps how iter ifs elt) E M K X:=by
 intro F p ρ m e a hk A s am f
 refine kE hk λm hk=>?_
 refine EU e (show vn (kc m) F.S (.comp n tgt tup caps how iter ifs elt) e=true from hk) λel tg it fs sc pos ok U h2 h3 h4 h5 h6=>?_
 rw[eval_ListComp]
 refine wpAny_comprehension_free (use:=none) rfl (yu U F.env) (Dh a.env ok) ok.kind (Fl ok) ?_
 refine Dl h a ok U h2 h3 h4 h5 h6 am f (λ_ _ q=>q) λZ L s' ce oZ oL=>?_
 exact(ce.done oZ).casesOn λ{σ' m}hm nL st got=>⟨m,hm,λh' hs=>hm.elim λo hm=>hm.elim λes hm=>hm.elim λep hm=>⟨st.drop oL nL hm.1 (λ_ _ _ q=>nomatch hm.2.1.symm.trans q) hs,got⟩⟩
end
noncomputable def tQ{α:Type}(x:Bool)(l:List α):Bool:=List.casesOn (motive:=λ_=>Bool) l x λ_ _=>false
@[elab_as_elim] theorem vY{α:Type}(l:List α){x:Bool}{Z:List α->Prop}(h:tQ x l=true)(k:x=true->Z []):Z l:=by
 cases l with
 |nil=>exact k h
 |cons=>exact cX h
@[elab_as_elim] theorem HI{α:Type}(o:Option α){f:α->Bool}{Z:Option α->Prop}(h:o.any f=true)(k:∀a,f a=true->Z (some a)):Z o:=by
 cases o with
 |none=>exact cX h
 |some a=>exact k a h
def GL(f:Expr->Stmt->Pos->Bool)(h:ExceptHandler):Bool:=ExceptHandler.casesOn (motive_4:=λ_=>Bool) h λt n b q=>t.any λt=>n.isNone&&md (λs=>f t s q) b
@[elab_as_elim] theorem R1(y:ExceptHandler){f:Expr->Stmt->Pos->Bool}{Z:ExceptHandler->Prop}(h:GL f y=true)(k:∀t s q,f t s q=true->Z (.ExceptHandler (some t) none [s] q)):Z y:=by
 obtain ⟨t,n,b,q⟩:=y
 refine HI t h λt h=>oW n (cN h).1 (mQ b (cN h).2 λs=>k t s q)
def sS(fa:Expr->Expr->Pos->Bool:=λ_ _ _=>false)(fe:Expr->Pos->Bool:=λ_ _=>false)(fi:Expr->List Stmt->List Stmt->Pos->Bool:=λ_ _ _ _=>false)(fw:Expr->List Stmt->Pos->Bool:=λ_ _ _=>false)(ff:Expr->Expr->List Stmt->Pos->Bool:=λ_ _ _ _=>false)(fr:Expr->Pos->Bool:=λ_ _=>false)(fz:Pos->Bool:=λ_=>false)(fp:Pos->Bool:=λ_=>false)(fb:Pos->Bool:=λ_=>false)(fx:Expr->Pos->Bool:=λ_ _=>false)(ft:List Stmt->Expr->Stmt->Pos->Pos->Bool:=λ_ _ _ _ _=>false)(s:Stmt):Bool:=Stmt.casesOn (motive_2:=λ_=>Bool) s (λ_ _ _ _ _ _ _ _ _ _=>false) (λ_ _ _ _ _ _ _ _ _ _=>false) (λ_ _ _ _ _ _ _ _ _ _ _=>false) (λe p=>Option.casesOn (motive:=λ_=>Bool) e (fz p) λe=>fr e p) (λ_ _=>false) (λO v p=>md (λt=>fa t v p) O) (λ_ _ _ _ _ _ _=>false) (λ_ _ _ _=>false) (λ_ _ _ _ _=>false) (λt i b o p=>tQ (ff t i b p) o) (λ_ _ _ _ _=>false) (λt b o p=>tQ (fw t b p) o) (fi) (λ_ _ _=>false) (λ_ _ _=>false) (λ_ _ _=>false) (λe c p=>e.any λe=>c.isNone&&fx e p) (λb U o f p=>md (λh=>tQ (tQ (GL (λt s q=>ft b t s q p) h) f) o) U) (λ_ _ _ _ _=>false) (λ_ _ _=>false) (λ_ _=>false) (λ_ _ _ _=>false) (λ_ _=>false) (λ_ _=>false) (fe) (fp) (fb) (λ_=>false)
theorem eP{α:Type}{Z:α->Prop}(a:α)(h:false=true):Z a:=cX h
theorem eQ{α β:Type}{Z:α->β->Prop}(a:α)(b:β)(h:false=true):Z a b:=cX h
theorem gC{α β γ:Type}{Z:α->β->γ->Prop}(a:α)(b:β)(c:γ)(h:false=true):Z a b c:=cX h
theorem gD{α β γ δ:Type}{Z:α->β->γ->δ->Prop}(a:α)(b:β)(c:γ)(d:δ)(h:false=true):Z a b c d:=cX h
theorem lA{α β γ δ O:Type}{Z:α->β->γ->δ->O->Prop}(a:α)(b:β)(c:γ)(d:δ)(e:O)(h:false=true):Z a b c d e:=cX h
theorem kH{Z:Stmt->Prop}{fa:Expr->Expr->Pos->Bool}{fe:Expr->Pos->Bool}{fi:Expr->List Stmt->List Stmt->Pos->Bool}{fw:Expr->List Stmt->Pos->Bool}{ff:Expr->Expr->List Stmt->Pos->Bool}{fr:Expr->Pos->Bool}{fz:Pos->Bool}{fp:Pos->Bool}{fb:Pos->Bool}{fx:Expr->Pos->Bool}{ft:List Stmt->Expr->Stmt->Pos->Pos->Bool}(s:Stmt)(h:sS fa fe fi fw ff fr fz fp fb fx ft s=true)(ha:∀t v p,fa t v p=true->Z (.Assign [t] v p))(he:∀v p,fe v p=true->Z (.Expr v p))(hi:∀t a b p,fi t a b p=true->Z (.If t a b p))(O:∀t b p,fw t b p=true->Z (.While t b [] p))(hf:∀t i b p,ff t i b p=true->Z (.For t i b [] p))(hr:∀e p,fr e p=true->Z (.Return (some e) p))(hz:∀p,fz p=true->Z (.Return none p))(hp:∀p,fp p=true->Z (.Pass p))(hb:∀p,fb p=true->Z (.Break p))(U:∀e p,fx e p=true->Z (.Raise (some e) none p))(ht:∀b t s q p,ft b t s q p=true->Z (.Try b [.ExceptHandler (some t) none [s] q] [] [] p)):Z s:=Stmt.casesOn (motive_2:=λs=>sS fa fe fi fw ff fr fz fp fb fx ft s=true->Z s) s (λ_ _ _ _ _ _ _ _ _ _ h=>cX h) (λ_ _ _ _ _ _ _ _ _ _ h=>cX h) (λ_ _ _ _ _ _ _ _ _ _ _ h=>cX h) (λe p=>Option.casesOn (motive:=λe=>Option.casesOn (motive:=λ_=>Bool) e (fz p) (λe=>fr e p)=true->Z (.Return e p)) e (hz p) λe=>hr e p) (λ_ _ h=>cX h) (λts v p h=>mQ ts h λt=>ha t v p) (λ_ _ _ _ _ _ _ h=>cX h) (λ_ _ _ _ h=>cX h) (λ_ _ _ _ _ h=>cX h) (λt i b o p h=>vY o h (hf t i b p)) (λ_ _ _ _ _ h=>cX h) (λt b o p h=>vY o h (O t b p)) (hi) (λ_ _ _ h=>cX h) (λ_ _ _ h=>cX h) (λ_ _ _ h=>cX h) (λe c p h=>HI e h λe h=>oW c (cN h).1 (U e p (cN h).2)) (λb hs o f p h=>mQ hs h λy h=>vY o h λh=>vY f h λh=>R1 y h λt s q=>ht b t s q p) (λ_ _ _ _ _ h=>cX h) (λ_ _ _ h=>cX h) (λ_ _ h=>cX h) (λ_ _ _ _ h=>cX h) (λ_ _ h=>cX h) (λ_ _ h=>cX h) (he) (hp) (hb) (λ_ h=>cX h) h
@[elab_as_elim] theorem pS(s:Stmt){Z:Stmt->Prop}{f:Expr->Expr->Pos->Bool}(h:sS (fa:=f) (s:=s)=true)(k:∀t v p,f t v p=true->Z (.Assign [t] v p)):Z s:=kH (Z:=Z) s h k eQ gD gC gD eQ eP eP eP eQ lA
@[elab_as_elim] theorem Nz(s:Stmt){Z:Stmt->Prop}{f:Expr->Pos->Bool}(h:sS (fe:=f) (s:=s)=true)(k:∀v p,f v p=true->Z (.Expr v p)):Z s:=kH (Z:=Z) s h gC k gD gC gD eQ eP eP eP eQ lA
@[elab_as_elim] theorem OY(s:Stmt){Z:Stmt->Prop}{f:Expr->List Stmt->List Stmt->Pos->Bool}(h:sS (fi:=f) (s:=s)=true)(k:∀t a b p,f t a b p=true->Z (.If t a b p)):Z s:=kH (Z:=Z) s h gC eQ k gC gD eQ eP eP eP eQ lA
@[elab_as_elim] theorem WB(s:Stmt){Z:Stmt->Prop}{f:Expr->List Stmt->Pos->Bool}(h:sS (fw:=f) (s:=s)=true)(k:∀t b p,f t b p=true->Z (.While t b [] p)):Z s:=kH (Z:=Z) s h gC eQ gD k gD eQ eP eP eP eQ lA
@[elab_as_elim] theorem NQ(s:Stmt){Z:Stmt->Prop}{f:Expr->Expr->List Stmt->Pos->Bool}(h:sS (ff:=f) (s:=s)=true)(k:∀t i b p,f t i b p=true->Z (.For t i b [] p)):Z s:=kH (Z:=Z) s h gC eQ gD gC k eQ eP eP eP eQ lA
@[elab_as_elim] theorem G7(s:Stmt){Z:Stmt->Prop}{f:Expr->Pos->Bool}(h:sS (fr:=f) (s:=s)=true)(k:∀e p,f e p=true->Z (.Return (some e) p)):Z s:=kH (Z:=Z) s h gC eQ gD gC gD k eP eP eP eQ lA
@[elab_as_elim] theorem Uj(s:Stmt){Z:Stmt->Prop}{f:Pos->Bool}(h:sS (fz:=f) (s:=s)=true)(k:∀p,f p=true->Z (.Return none p)):Z s:=kH (Z:=Z) s h gC eQ gD gC gD eQ k eP eP eQ lA
@[elab_as_elim] theorem SO(s:Stmt){Z:Stmt->Prop}{f:Pos->Bool}(h:sS (fp:=f) (s:=s)=true)(k:∀p,f p=true->Z (.Pass p)):Z s:=kH (Z:=Z) s h gC eQ gD gC gD eQ eP k eP eQ lA
@[elab_as_elim] theorem Kn(s:Stmt){Z:Stmt->Prop}{f:Pos->Bool}(h:sS (fb:=f) (s:=s)=true)(k:∀p,f p=true->Z (.Break p)):Z s:=kH (Z:=Z) s h gC eQ gD gC gD eQ eP eP k eQ lA
@[elab_as_elim] theorem TQ(s:Stmt){Z:Stmt->Prop}{f:Expr->Pos->Bool}(h:sS (fx:=f) (s:=s)=true)(k:∀e p,f e p=true->Z (.Raise (some e) none p)):Z s:=kH (Z:=Z) s h gC eQ gD gC gD eQ eP eP eP k lA
@[elab_as_elim] theorem Wi(s:Stmt){Z:Stmt->Prop}{f:List Stmt->Expr->Stmt->Pos->Pos->Bool}(h:sS (ft:=f) (s:=s)=true)(k:∀b t s q p,f b t s q p=true->Z (.Try b [.ExceptHandler (some t) none [s] q] [] [] p)):Z s:=kH (Z:=Z) s h gC eQ gD gC gD eQ eP eP eP eQ k
def oX(e:Expr):Bool:=(cs (fb:=λ_ _ _=>some ()) (fi:=λ_ _ _ _=>some ()) (fu:=λ_ _ _=>some ()) (ff:=λ_ _ _ _=>some ()) (fd:=λ_ _ _=>some ()) (fp:=λ_ _ _ _=>some ()) (fc:=λ_ _ _ _=>some ()) (fk:=λ_ _ _=>some ()) (fa:=λ_ _ _=>some ()) (fs:=λ_ _ _=>some ()) (fn:=λ_ _=>some ()) (fl:=λ_ _=>some ()) (ft:=λ_ _ _=>some ()) (fz:=λ_ _ _ _=>some ()) (e:=e)).isSome
noncomputable def CE.Zm:CE->Bool
| .comp ..=>true
|_=>false
def EX(S:SC)(i:Nat)(e:Expr):Bool:=(lz e).any λx=>decide (S.names[i]?=some x)
noncomputable def rM:CT->Option (LN×Bool)
| .loc i=>some ([i],false)
| .tup is=>some (is,true)
|_=>none
def O4(x:Kr)(S:SC)(e:CE)(t' v:Expr):CT->Bool
| .loc i=>EX S i t'&&(e.Zm||oX v)&&x.e S e v
| .attr o n=>((ue t').any λy=>decide (y.2.1=nm n)&&x.e S o y.1)&&x.e S e v
| .idx a b=>((q8 t').any λy=>(o9 y.2.1).isNone&&x.e S a y.1&&x.e S b y.2.1)&&x.e S e v
| .tup is=>((nv t').any λy=>jj S.names is y.1&&(decide (4<=is.length)||(nv v).isNone))&&oX v&&x.e S e v
def EZ(S:SC)(i n:Nat)(k:Int)(r:Expr):Bool:=
 (wK r).any λc=>decide (c.2.1=[.Eq])&&md (λy=>((q7 y).any λv=>decide (v=.int k))&&(kL c.1).any λx=>ip S (.bi .len) x.1&&md (λa=>(ue a).any λz=>decide (z.2.1=nm n)&&EX S i z.1) x.2.1) c.2.2.1
@[elab_as_elim] theorem Pa{S:SC}{i n:Nat}{k:Int}(r:Expr){Z:Expr->Prop}(h:EZ S i n k r=true)(q:∀f O U ap cp kk kq p,ip S (.bi .len) f=true->S.names[i]?=some O->Z (.Compare (.Call f [.Attribute (.Name O U) (nm n) ap] [] cp) [.Eq] [.Constant (.int k) kk kq] p)):Z r:=by
 refine mr r (BQ r) h λl o cs p h=>ib o (cN h).1 (mQ cs (cN h).2 λy h=>?_)
 refine uO y (cN h).1 λv kk kq hv=>ib v hv (kZ l (cN h).2 λf as cp h=>mQ as (cN h).2 λa ha=>?_)
 exact gL a (wJ a) ha λz x ap hz=>ib x (cN hz).1 (qH z (cN hz).2 λO U hl=>q f O U ap cp kk kq p (cN h).1 (aD hl))
def ql(r:CS->Stmt->Bool)(cs:List CS)(O:List Stmt):Bool:=List.rec (motive:=λ_=>List Stmt->Bool) (λO=>O.isEmpty) (λc _ U O=>List.casesOn O false λs O=>r c s&&U O) cs O
def HQ(x:Kr)(r:SC->CS->Stmt->Bool)(S:SC)(c:CS)(s:Stmt):Bool:=match c with
| .assign t e=>sS (fa:=λt' v _=>O4 x S e t' v t) (s:=s)
| .expr e=>sS (fe:=λv _=>oX v&&x.e S e v) (s:=s)
| .ite t a b=>sS (fi:=λt' U O _=>x.t S t t'&&ql (r S) a U&&ql (r S) b O) (s:=s)
| .ZH t b=>sS (fw:=λt' O _=>x.t S t t'&&ql (r S) b O) (s:=s)
| .for t how e b=>sS (ff:=λt' i O _=>((rM t).any λy=>jk S.names y.1 (Nat.beq how 3||y.2) t')&&kI x S how e i&&ql (r S) b O) (s:=s)
| .ret e=>sS (fr:=λv _=>x.e S e v) (s:=s)||sS (fz:=λp=>x.e S e (.Constant .none 0 p)) (s:=s)
| .pass=>sS (fp:=λ_=>true) (s:=s)
| .brk=>sS (fb:=λ_=>true) (s:=s)
| .Zr a b=>sS (fx:=λv _=>(kL v).any λy=>ip S .pe y.1&&x.es S [a,b] y.2.1) (s:=s)
| .Zj b i n m=>sS (ft:=λO t y _ _=>ip S .pe t&&sS (fr:=λe _=>EZ S i n m e) (s:=y)&&ql (r S) b O) (s:=s)
| .bad=>true
def kS(n:Nat):SC->CS->Stmt->Bool:=Nat.rec (motive:=λ_=>SC->CS->Stmt->Bool) (λ_ _ _=>false) (λn r S c s=>HQ (kc n) r S c s) n
abbrev lX(n:Nat)(S:SC)(cs:List CS)(O:List Stmt):Bool:=ql (kS n S) cs O
structure jb(G:Gd)(F:Fc)(A:Around)(σ₀:H)(s₀:Shared)(outer:List Env):Prop where
E:jx G F
frames:A.frames=some (F.env::outer)
frame:F.env.frame=some F.env.locals
loc:dS σ₀ s₀.heap F.env.locals
Zx:∀x∈F.S.names,mD σ₀ s₀.heap F.env x
out:∀e∈outer,∀L:Nat,e.frame=some L->wR σ₀ s₀.heap L
def Jh(B:Heap)(l:List Env)(O C:Nat)(U:Value)(L:Nat)(h:Heap):Prop:=Heap.FlyingW B l O (.ref C) U h∨Heap.HeldW B l O (.ref C) U L h
structure Jl(G:Gd)(h:Heap)(ea:Nat)(oe:Obj)(vs:Array Value)(a0:Value):Prop where
at_:h.get? ea=some oe
cls:oe.cls=.ref G.C
dat:oe.data=.fields vs
v1:vs[1]?=some .none
v0:vs[0]?=some a0
def mE(fl:Flow)(B:Heap)(σ:H)(h:Heap)(σ':H)(h':Heap):Prop:=Flow.casesOn fl (Pk B σ h σ' h') (Pk B σ h σ' h') (Pk B σ h σ' h') λ_=>True
theorem mE.pre{fl:Flow}{B:Heap}{σ σ₁ σ':H}{h h₁ h':Heap}(k:Pk B σ h σ₁ h₁)(x:mE fl B σ₁ h₁ σ' h'):mE fl B σ h σ' h':=by
 cases fl with
 |ret=>trivial
 |_=>exact k.trans x
section
variable(G:Gd)(F:Fc)(A:Around)(σ₀:H)(s₀:Shared)
inductive fT(X:List CV->H->Prop)(s':Shared):Value->Prop
|Zp {σ' ρ' B ea a0 l}:A.frames=some l->Jh B l ea G.C a0 F.env.locals s'.heap->jd G l σ₀ s₀.heap σ' B s'.heap->d5 G.base F.env F.S.names s'.heap σ' ρ'->Fx s₀ s'->X ρ' σ'->fT X s' (.ref ea)
|made {σ' ρ' sm ea oe vs a0}:dB G F A σ₀ s₀ σ' ρ' sm->(∀b o,sm.heap.get? b=some o->s'.heap.get? b=some o)->Fx sm s'->sm.heap.get? ea=none->Jl G s'.heap ea oe vs a0->X ρ' σ'->fT X s' (.ref ea)
inductive fD(σ:H)(s:Shared)(P:Flow->List CV->H->Prop)(fl:Flow)(s':Shared):Prop
|mk {σ' ρ'}:dB G F A σ₀ s₀ σ' ρ' s'->mE fl G.base σ s.heap σ' s'.heap->P fl ρ' σ'->fD σ s P fl s'
def dw(ρ:List CV)(σ:H)(t:Sem Flow)(P:Flow->List CV->H->Prop)(X:List CV->H->Prop):Prop:=
 ∀s,dB G F A σ₀ s₀ σ ρ s->wpAny (model G.prog G.w) A t (fD G F A σ₀ s₀ σ s P) (λe s'=>fT G F A σ₀ s₀ X s' e) s
end
structure dX where
next:Ev->XT
brk:Ev->XT
ret:KT
exc:Ev->XT
inductive hW(p₀:Pt)(P:dX):Flow->List CV->H->Prop
|next {E M q ρ}:Gr p₀ q->c5 q M->eC q E ρ->P.next E M->hW p₀ P .next ρ q.σ
|brk {E M q ρ}:Gr p₀ q->c5 q M->eC q E ρ->P.brk E M->hW p₀ P .brk ρ q.σ
|ret {x v M q ρ}:Gr p₀ q->c5 q M->cM q x (cv v)->P.ret x M->hW p₀ P (.ret v) ρ q.σ
inductive hU(p₀:Pt)(X:Ev->XT):List CV->H->Prop
|mk {E M q ρ}:Gr p₀ q->c5 q M->eC q E ρ->X E M->hU p₀ X ρ q.σ
structure fE(G:Gd)(k n:Nat)(E:Ev)(M:LB)(F:Fc)(A:Around)(σ₀:H)(s₀:Shared)(outer:List Env)(p₀ p:Pt)(ρ:List CV):Prop extends At G k E M F p ρ where
en:jb G F A σ₀ s₀ outer
hn:p₀.as.length=n
g:Gr p₀ p
section
variable(G:Gd)(k n:Nat)
def Run(cs:List CS)(E:Ev)(M:LB)(P:dX):Prop:=∀⦃F A σ₀ s₀ outer p₀ p ρ⦄m O,fE G k n E M F A σ₀ s₀ outer p₀ p ρ->lX m F.S cs O=true->dw G F A σ₀ s₀ ρ p.σ (execs O F.env) (hW p₀ P) (hU p₀ P.exc)
def Ju(c:CS)(E:Ev)(M:LB)(P:dX):Prop:=∀⦃F A σ₀ s₀ outer p₀ p ρ⦄m st,fE G k n E M F A σ₀ s₀ outer p₀ p ρ->HQ (kc m) (kS m) F.S c st=true->dw G F A σ₀ s₀ ρ p.σ (exec st F.env) (hW p₀ P) (hU p₀ P.exc)
noncomputable def dX.then(P:dX)(r:List CS):dX:={P with next:=λE M=>Run G k n r E M P}
end
section
variable{G:Gd}{F:Fc}{A:Around}{σ₀ σ σ':H}{s₀ s s':Shared}{outer:List Env}{p₀ p q:Pt}{ρ:List CV}{k n:Nat}{E E':Ev}{M M':LB}{P:dX}{c:CS}{r:List CS}{e:Value}
theorem fE.to(a:fE G k n E M F A σ₀ s₀ outer p₀ p ρ)(g:Gr p q)(st:c5 q M'):fE G k n E M' F A σ₀ s₀ outer p₀ q ρ:=⟨a.toAt.to g st,a.en,a.hn,a.g.trans g⟩
theorem fT.imp{X X':List CV->H->Prop}(x:fT G F A σ₀ s₀ X s' e)(q:∀ρ' σ',X ρ' σ'->X' ρ' σ'):fT G F A σ₀ s₀ X' s' e:=
 x.casesOn (λU O h3 h4 h5 h6=>.Zp U O h3 h4 h5 (q _ _ h6)) λU O h3 h4 h5 h6=>.made U O h3 h4 h5 (q _ _ h6)
theorem fD.pre{P:Flow->List CV->H->Prop}{fl:Flow}{s₁:Shared}{σ₁:H}(k:Pk G.base σ s.heap σ₁ s₁.heap)(x:fD G F A σ₀ s₀ σ₁ s₁ P fl s'):fD G F A σ₀ s₀ σ s P fl s':=x.casesOn λa b c=>⟨a,.pre k b,c⟩
inductive Ci(h':Heap)(σ':H)(c:Nat)(o:Obj):Prop
|mk (sl):h'.get? c=some {o with slots:=sl}->¬own σ' c->Ci h' σ' c o
theorem eF.toS{X:H->Prop}(en:jb G F A σ₀ s₀ outer)(st:dB G F A σ₀ s₀ σ ρ s)(x:eF G A X σ s s' e):fT G F A σ₀ s₀ (λρ' σ'=>ρ'=ρ/\X σ') s' e:=by
 refine x.casesOn λ{σ' B ea a0 l}hl hf S fx hX=>?_
 have el:F.env::outer=l:=aq (en.frames.symm.trans hl)
 subst el
 refine .Zp hl (.inl hf) (S.before st.st.keep) ?_ (st.st.fx.trans fx) ⟨rfl,hX⟩
 obtain ⟨m,o,es,ep,ho,hd,_⟩:=st.fr.ns
 have cl:∀(c:Nat)o' v,s.heap.get? c=some o'->o'.data=.cell v->Ci B σ' c o':=λc o' v O U=>
  (S.kept c o' O (λq=>st.Z6.rep.Y6 O (U▸rfl) q) λenv' he' hq=>((st.Z6.fr _ en.frames).out env' he' c hq).casesOn λ_ ho2 hd2=>rT hd2 (aq (O.symm.trans ho2)▸U)).casesOn λsl e _ n=>⟨sl,e,n⟩
 refine(S.fr F.env (.head _) F.env.locals o en.frame ho st.fr.ZX).casesOn λsl q1 q2=>?_
 refine st.fr.to (λm' ⟨o',es',ep',O,r⟩=>⟨_,es',ep',q1,aq (O.symm.trans ho)▸r⟩) q2 (λx c o' v _ O U=>(cl c o' v O U).casesOn λsl q3 _=>⟨_,hf.1 _ _ q3,U⟩) λx c hk hc=>?_
 exact(st.fr.ZP x c hk hc).casesOn λ_ _ O U=>(cl c _ _ O U).casesOn λ_ _ q=>q
theorem dw.ZD{α β:Type}{m:Sem α}{g:α->Sem Flow}{R:Pt->β->α->Prop}{K:β->XT}{Q:Flow->List CV->H->Prop}{X:Ev->XT}(a:fE G k n E M F A σ₀ s₀ outer p₀ p ρ)(h:Tr G F ρ p.σ m (Got R p K) (dk p (X E)))
 (f:∀{x M₁ q v},K x M₁->fE G k n E M₁ F A σ₀ s₀ outer p₀ q ρ->Gr p q->R q x v->dw G F A σ₀ s₀ ρ q.σ (g v) Q (hU p₀ X)):dw G F A σ₀ s₀ ρ p.σ (m>>=g) Q (hU p₀ X):=λs st=>
 ah (az (h A s st.Z6 st.fr) (λv s₁ z=>z.casesOn λ{σ₁}s1 z=>z.casesOn λ{x M₁ as μ}gr U r O=>az (f (q:=⟨as,μ,σ₁⟩) O (a.to gr U) gr r s₁ (st.step s1)) (λfl s' y=>y.pre (dI.keep s1.keep)) λ_ _ e=>e)
  λe s' x=>(x.toS a.en st).imp λρ' σ' h=>h.elim λ(e1:ρ'=ρ)(q:dk p (X E) σ')=>e1▸q.casesOn λ{M as μ}gr U O=>.mk (q:=⟨as,μ,σ'⟩) (a.g.trans gr) U (a.er.gr gr) O)
theorem dw.standAt{pos:Pos}{g:Unit->Sem Flow}{Q:Flow->List CV->H->Prop}{X:List CV->H->Prop}(h:dw G F A σ₀ s₀ ρ σ (g ()) Q X):dw G F A σ₀ s₀ ρ σ (standAt pos>>=g) Q X:=λs st=>ah (bG (h s st))
theorem mE.refl{fl:Flow}{B:Heap}{h:Heap}:mE fl B σ h σ h:=by cases fl<;>first|trivial|exactλ_ _ p=>p
theorem dw.pure{fl:Flow}{Q:Flow->List CV->H->Prop}{X:List CV->H->Prop}(h:Q fl ρ σ):dw G F A σ₀ s₀ ρ σ (pure fl) Q X:=λs st=>aw ⟨st,.refl,h⟩
theorem dw.next{X:List CV->H->Prop}(a:fE G k n E M F A σ₀ s₀ outer p₀ p ρ)(h:P.next E M):dw G F A σ₀ s₀ ρ p.σ (Pure.pure .next) (hW p₀ P) X:=dw.pure (.next a.g a.st a.er h)
theorem dw.ret{X:List CV->H->Prop}{x:cJ}{v:Value}(a:fE G k n E M F A σ₀ s₀ outer p₀ p ρ)(r:cM p x (cv v))(h:P.ret x M):dw G F A σ₀ s₀ ρ p.σ (Pure.pure (.ret v)) (hW p₀ P) X:=dw.pure (.ret a.g a.st r h)
theorem dw.store{X:List CV->H->Prop}{i:Nat}{y:Str}{x:cJ}{v:Value}(a:fE G k n E M F A σ₀ s₀ outer p₀ p ρ)(U:F.S.names[i]?=some y)(r:cM p x (cv v))(h:P.next (E.set i (some x)) M):
 dw G F A σ₀ s₀ ρ p.σ (bindName F.env y v>>=λ_=>Pure.pure .next) (hW p₀ P) X:=λs st=>
 ah (wpAny_bindName (az (st.store (v:=v) a.en.E.ok U (a.en.Zx y (ax U)) a.en.loc) (λ_ s' z=>z.casesOn λO pk _ _=>aw ⟨O,pk,.next a.g a.st (a.er.set r i) h⟩) λ_ _ e=>e))
theorem TC(h:P.next E M):Run G k n [] E M P:=by
 intro F A σ₀ s₀ outer p₀ p ρ m O a hk s st
 cases O with
 |nil=>exact wpAny_execs_nil ⟨st,λ_ _ p=>p,.next a.g a.st a.er h⟩
 |cons=>exact cX hk
theorem i3(h:Ju G k n c E M (P.then G k n r)):Run G k n (c::r) E M P:=by
 intro F A σ₀ s₀ outer p₀ p ρ m ss a hk s st
 cases ss with
 |nil=>exact cX hk
 |cons t ss=>
  have hk:=cN hk
  cases m with
  |zero=>exact cX hk.1
  |succ m=>
   refine wpAny_execs_cons (az (h m t a hk.1 s st) (λf s' x=>x.casesOn λ{σ' ρ'}O pk q=>?_) λ_ _ x=>x)
   revert O pk
   refine q.casesOn (λ{E M q ρ}g U er h O pk=>?_) (λg U er h O pk=>?_) λg U r h O pk=>?_
   ·exact az (h (m+1) ss ⟨⟨a.1.env,a.1.k,a.1.qh,U,er⟩,a.en,a.hn,g⟩ hk.2 s' O) (λfl s₂ x=>x.pre pk) λ_ _ x=>x
   ·exact fD.mk O pk (.brk g U er h)
   ·exact fD.mk O trivial (.ret g U r h)
theorem TH{e:CE}(h:c1 kc G k e E M P.ret (P.exc E)):Run G k n (.ret e::r) E M P:=i3 λF A σ₀ s₀ outer p₀ p ρ m st a hk=>by
 refine((Bool.or_eq_true _ _).mp hk).elim (λhk=>?_) λhk=>?_
 ·refine G7 st hk λv pos hk=>?_
  rw[exec_Return_some]
  exact dw.standAt (dw.ZD a (X:=P.exc) (h m v a.1 hk) λq O g r=>dw.ret (P:=P.then G k n _) O r q)
 ·refine Uj st hk λpos hk=>?_
  rw[exec_Return_none]
  exact dw.standAt (show dw _ _ _ _ _ _ _ ((Pure.pure Value.none:Sem Value)>>=λv=>Pure.pure (Flow.ret v)) _ _ from dw.ZD a (X:=P.exc) (h m (.Constant .none 0 pos) a.1 hk) λq O g r=>dw.ret (P:=P.then G k n _) O r q)
end
section
variable{env:Env}
inductive w5(env:Env)(v:Expr):Prop
|mk:(∀t line,swapsWith v t line env=pure false)->(∀es k tp,nv v=none->swappedStores [.Tuple es k tp] v env=pure none)->w5 env v
theorem GC{v:Expr}(hv:oX v=true):w5 env v:=wz hv (gp (P:=λe (_:Unit)=>w5 env e) (fb:=λ_ _ _=>some ()) (hb:=λ_ _ _=>.mk (λ_ _=>rfl) λ_ _ _ _=>rfl) (fi:=λ_ _ _ _=>some ()) (hi:=λ_ _ _ _=>.mk (λ_ _=>rfl) λ_ _ _ _=>rfl) (fu:=λ_ _ _=>some ()) (hu:=λ_ _ _=>.mk (λ_ _=>rfl) λ_ _ _ _=>rfl) (ff:=λ_ _ _ _=>some ()) (hf:=λ_ _ _ _=>.mk (λ_ _=>rfl) λ_ _ _ _=>rfl) (fd:=λ_ _ _=>some ()) (hd:=λ_ _ _=>.mk (λ_ _=>rfl) λ_ _ _ _=>rfl) (fp:=λ_ _ _ _=>some ()) (hp:=λ_ _ _ _=>.mk (λ_ _=>rfl) λ_ _ _ _=>rfl) (fc:=λ_ _ _ _=>some ()) (hc:=λ_ _ _ _=>.mk (λ_ _=>rfl) λ_ _ _ _=>rfl) (fk:=λ_ _ _=>some ()) (hk:=λ_ _ _=>.mk (λ_ _=>rfl) λ_ _ _ _=>rfl) (fa:=λ_ _ _=>some ()) (ha:=λ_ _ _=>.mk (λ_ _=>rfl) λ_ _ _ _=>rfl) (fs:=λ_ _ _=>some ()) (hs:=λ_ _ _=>.mk (λ_ _=>rfl) λ_ _ _ _=>rfl) (fn:=λ_ _=>some ()) (hn:=λ_ _=>.mk (λ_ _=>rfl) λ_ _ _ _=>rfl) (fl:=λ_ _=>some ()) (hl:=λ_ _=>.mk (λ_ _=>rfl) λ_ _ _ _=>rfl) (ft:=λ_ _ _=>some ()) (ht:=λ_ _ _=>.mk (λ_ _=>rfl) λ_ _ _ h=>iP h) (fz:=λ_ _ _ _=>some ()) (hz:=λ_ _ _ _=>.mk (λ_ _=>rfl) λ_ _ _ _=>rfl) cU v)
theorem vZ{v:Expr}(hv:oX v=true){t:Option Expr}{line:Nat}:swapsWith v t line env=pure false:=(GC hv).casesOn λh _=>h t line
theorem Vy{v o:Expr}{x:Str}{p:Pos}{line:Nat}:swapsWith v (some (.Attribute o x p)) line env=pure false:=by
 unfold swapsWith
 split<;>rfl
theorem VA{v o i:Expr}{p:Pos}{line:Nat}:swapsWith v (some (.Subscript o i p)) line env=pure false:=by
 unfold swapsWith
 split<;>rfl
theorem Vz{v:Expr}{x:Str}{xp:Pos}{line:Nat}:∃b,swapsWith v (some (.Name x xp)) line env=pure b:=by
 unfold swapsWith
 split<;>exact⟨_,rfl⟩
theorem DG(t value:Expr)(pos:Pos)(U:swapsWith value (some t) pos.line env=pure false)(h2:swappedStores [t] value env=pure none)(h3:(assignEach [t] env).map (·.2)=[assign t env]):
 exec (.Assign [t] value pos) env=(do standAt pos;let v ←eval value env;assign t env v;pure .next):=by
 rw[exec_Assign_arm]
 have O:swapsWithSole [t] value pos.line env=pure false:=U
 rw[O,h2,h3]
 rfl
theorem Nv(x:Str)(xp:Pos)(value:Expr)(pos:Pos)(U:swapsWith value (some (.Name x xp)) pos.line env=pure true):
 exec (.Assign [.Name x xp] value pos) env=(do standAt pos;evalThenUse value env λv=>assignAll v [assign (.Name x xp) env];pure .next):=by
 rw[exec_Assign_arm]
 have O:swapsWithSole [.Name x xp] value pos.line env=pure true:=U
 rw[O]
 rfl
theorem Vx{es vs:LX}{k O:Nat}{U vp:Pos}(h:4<=es.length):swappedStores [.Tuple es k U] (.Tuple vs O vp) env=pure none:=
 al (by rw[(Bool.or_eq_false_iff).mpr ⟨beq_false_of_ne λe=>absurd (e▸h) dQ,beq_false_of_ne λe=>absurd (e▸h) dQ⟩];rfl)
theorem IQ{S:LQ}{is:LN}{es:LX}{k:Nat}{p:Pos}{v:Expr}(hv:oX v=true)(h:(jj S is es&&(decide (4<=is.length)||(nv v).isNone))=true):swappedStores [.Tuple es k p] v env=pure none:=by
 have h:=cN h
 cases q:nv v with
 |none=>exact(GC hv).casesOn λ_ h=>h es k p q
 |some z=>
  have U:=ny v
  have O:=h.2
  rw[q] at U O
  rw[show v=_ from U]
  exact Vx (aD (cN h.1).1▸aD ((Bool.or_false _).symm.trans O))
end
inductive uC(M:LB)(K:XT)(m:Nat)(v:cJ):cJ->Prop
|mk {j C fs}:M[j]?=some (.inst C fs)->mt C m=some none->fs.length<=900->K (M.set j (.inst C (dq fs m v)))->uC M K m v (.own j)
inductive CB(M:LB)(l:Nat)(K:LD->Prop)(v:cJ):Prop
|mk {ds}:iI M v=some (.tup ds)->ds.length=l->K ds->CB M l K v
def RU(_:Pt)(_ _:Unit):Prop:=True
section
variable{G:Gd}{F:Fc}{A:Around}{σ₀ σ σ':H}{s₀ s s':Shared}{outer:List Env}{p₀ p q:Pt}{ρ:List CV}{k n:Nat}{E E':Ev}{M M':LB}{P:dX}{c:CS}{r:List CS}{e:CE}{X:XT}
theorem dk.u{K:XT}{v:Unit}(x:dk p K σ'):Got RU p (λ(_:Unit)=>K) v σ':=x.casesOn λg st k=>.mk (x:=()) g st trivial k
theorem Tr.rel{vs keep:LU}{K:XT}(a:At G k E M F p ρ)(h:K M):Tr G F ρ p.σ (PySem.release vs keep) (Got RU p λ(_:Unit)=>K) (dk p X):=λA s am f=>wpAny_release ⟨.refl am.rep,.here (x:=()) a.st trivial h⟩
theorem jb.inter(en:jb G F A σ₀ s₀ outer):interactive F.env=false:=by unfold interactive;rw[en.E.ok.kind];rfl
theorem Tw(h:c1 kc G k e E M (λ_ M'=>Run G k n r E M' P) (P.exc E)):Run G k n (.expr e::r) E M P:=i3 λF A σ₀ s₀ outer p₀ p ρ m st a hk=>by
 refine Nz st hk λv pos hk=>?_
 have hk:=cN hk
 rw[exec_Expr F.env v pos a.en.inter (vZ hk.1)]
 exact dw.standAt (dw.ZD a (X:=P.exc) (h m v a.1 hk.2) λq O g r s st=>wpAny_dropValue ⟨st,λ_ _ p=>p,.next (P:=P.then G k n _) O.g O.st O.er q⟩)
theorem TF(h:Run G k n r E M P):Run G k n (.pass::r) E M P:=i3 λF A σ₀ s₀ outer p₀ p ρ m st a hk=>by
 refine SO st hk λpos hk=>?_
 rw[exec_Pass]
 exact dw.standAt (dw.next (P:=P.then G k n r) a h)
theorem Tv(h:P.brk E M):Run G k n (.brk::r) E M P:=i3 λF A σ₀ s₀ outer p₀ p ρ m st a hk=>by
 refine Kn st hk λpos hk=>?_
 rw[arm_exec_Break]
 exact dw.standAt (dw.pure (.brk (P:=P.then G k n r) a.g a.st a.er h))
theorem TB{t:CE}{a b:List CS}(h:eJ kc G k t E M (λc M'=>if c then Run G k n a E M' (P.then G k n r) else Run G k n b E M' (P.then G k n r)) (P.exc E)):Run G k n (.ite t a b::r) E M P:=i3 λF A σ₀ s₀ outer p₀ p ρ m st a hk=>by
 refine OY st hk λt a' b' pos hk=>?_
 have hk:=cN hk
 have U:=cN hk.1
 rw[exec_If]
 refine dw.standAt (dw.ZD a (X:=P.exc) (h m t a.1 U.1) λ{c M₁ q v}h O g e=>?_)
 rw[←show c=v from e]
 cases c with
 |true=>exact h m a' O U.2
 |false=>exact h m b' O hk.2
theorem dw.sets{v t:Expr}{pos:Pos}{K:KT}(a:fE G k n E M F A σ₀ s₀ outer p₀ p ρ)(U:swapsWith v (some t) pos.line F.env=Pure.pure false)(h2:swappedStores [t] v F.env=Pure.pure none)(h3:(assignEach [t] F.env).map (·.2)=[assign t F.env])
 (h:Tr G F ρ p.σ (eval v F.env) (Got RV p K) (dk p (P.exc E)))
 (f:∀{x M₁ q u},K x M₁->fE G k n E M₁ F A σ₀ s₀ outer p₀ q ρ->cM q x (cv u)->dw G F A σ₀ s₀ ρ q.σ (assign t F.env u>>=λ_=>Pure.pure .next) (hW p₀ (P.then G k n r)) (hU p₀ P.exc)):
 dw G F A σ₀ s₀ ρ p.σ (exec (.Assign [t] v pos) F.env) (hW p₀ (P.then G k n r)) (hU p₀ P.exc):=by
 rw[DG t v pos U h2 h3]
 exact dw.standAt (dw.ZD a (X:=P.exc) h λq O g r=>f q O r)
theorem TJ{i:Nat}(hc:e.Zm=false)(h:c1 kc G k e E M (λv M'=>Run G k n r (E.set i (some v)) M' P) (P.exc E)):Run G k n (.assign (.loc i) e::r) E M P:=i3 λF A σ₀ s₀ outer p₀ p ρ m st a hk=>by
 refine pS st hk λt v pos hk=>?_
 have hk:=cN hk
 have U:=cN hk.1
 refine qH t U.1 λy yp hy=>?_
 have hs:oX v=true:=by have q:=U.2;rw[hc] at q;exact q
 refine dw.sets a (vZ hs) rfl rfl (h m v a.1 hk.2) λ{x M₁ q u}q O r=>?_
 rw[PySem.assign_Name,bind_assoc]
 exact dw.standAt (dw.store (P:=P.then G k n _) O (aD hy) r q)
theorem G3{o:CE}{m:Nat}(h:c1 kc G k e E M (λv M₁=>c1 kc G k o E M₁ (λx M₂=>uC M₂ (λM₃=>Run G k n r E M₃ P) m v x) (P.exc E)) (P.exc E)):
 Run G k n (.assign (.attr o m) e::r) E M P:=i3 λF A σ₀ s₀ outer p₀ p ρ l st a hk=>by
 refine pS st hk λt v pos hk=>?_
 have hk:=cN hk
 refine gL t (wJ t) hk.1 λo' x' p' hy=>?_
 have hy:=cN hy
 refine dw.sets a Vy rfl rfl (h l v a.1 hk.2) λ{x M₁ q u}q O r=>?_
 refine ib x' hy.1 ?_
 rw[assign_Attribute]
 refine dw.ZD O (R:=RU) (K:=λ_ M=>Run G k n _ E M P) (X:=P.exc) ?_ λq a₂ g _=>dw.next (P:=P.then G k n _) a₂ q
 refine Tr.ZQ (q l _ O.1 hy.2) O.1 λ{x M₁ q v}hq g U ru=>Tr.standAt ?_
 revert ru
 exact hq.casesOn λh1 h2 h3 h4 ru=>Tr.ZQ (Tr.mono (UH U.st h1 h2 h3 ru (cM.gr g r) h4) λ_ _=>dk.u) U λq g at₂ _=>Tr.rel at₂ q
theorem TA{a b:CE}(h:c1 kc G k e E M (λv M₁=>c1 kc G k a E M₁ (λx M₂=>c1 kc G k b E M₂ (λy M₃=>iS M₃ (λM₄=>Run G k n r E M₄ P) v x y) (P.exc E)) (P.exc E)) (P.exc E)):Run G k n (.assign (.idx a b) e::r) E M P:=i3 λF A σ₀ s₀ outer p₀ p ρ l st at_ hk=>by
 refine pS st hk λt v pos hk=>?_
 have hk:=cN hk
 refine gL t (ug t) hk.1 λo' i' p' hy=>?_
 have hy:=cN hy
 have h2:=cN hy.1
 refine dw.sets at_ VA rfl rfl (h l v at_.1 hk.2) λ{x M₁ q u}q O r=>?_
 rw[assign_Subscript]
 refine dw.ZD O (R:=RU) (K:=λ_ M=>Run G k n _ E M P) (X:=P.exc) ?_ λq a₂ g _=>dw.next (P:=P.then G k n _) a₂ q
 refine Tr.ZQ (q l _ O.1 h2.2) O.1 λq g U ra=>Tr.ZQ (q l _ U hy.2) U λq g₂ at₂ rb=>Tr.standAt ?_
 exact Tr.ZQ (Tr.mono (Ve at₂.st q (cM.gr g₂ ra) rb (cM.gr g₂ (cM.gr g r))) λ_ _=>dk.u) at₂ λq g at₃ _=>Tr.rel at₃ q
theorem TN{is:LN}(h:c1 kc G k e E M (λv M'=>CB M' is.length (λds=>Run G k n r (i6 E is ds) M' P) v) (P.exc E)):Run G k n (.assign (.tup is) e::r) E M P:=i3 λF A σ₀ s₀ outer p₀ p ρ l st a hk=>by
 refine pS st hk λt v pos hk=>?_
 have hk:=cN hk
 have U:=cN hk.1
 refine gL t (ny t) U.1 λts tk tp hy=>?_
 have sw:swappedStores [.Tuple ts tk tp] v F.env=pure none:=IQ U.2 hy
 have hy:=cN hy
 refine dw.sets a (vZ U.2) sw rfl (h l v a.1 hk.2) λ{x M₁ q u}q O r s st=>q.casesOn λ{ds}h1 U q=>?_
 refine(rR O.st h1 r).casesOn λ{b vs}e rr=>?_
 have i:IsT s.heap b vs:=st.Z6.rep.at_ _ _ e
 refine i.casesOn (motive:=λvs _=>dW _ ds vs->_) (λ{items}hT _ rr=>?_) rr
 have hl:items.size=is.length:=(aZ.symm.trans (ag _).symm).trans (rr.len.trans U)
 exact ah (az (st.target (tup:=true) (st.Z6.hd a.qh) a.en.E.ok a.en.loc hy.1 (λi _ x hx=>a.en.Zx x (ax hx)) (.tup hT hl rr) O.er) (λ_ s' z=>z.casesOn λst' pk er=>aw ⟨st',pk,.next (P:=P.then G k n _) O.g O.st er q⟩) λ_ _ e=>e)
end
theorem NS{B h:Heap}{l:List Env}(x:h.FunFrames B l):∀env∈l,∀L o,env.frame=some L->h.get? L=some o->∀vs,o.data≠.fields vs:=by
 induction l with
 |nil=>exactλ_ h=>dh h
 |cons e r ih=>
  obtain ⟨_,⟨L',o',hf,_,O,hd⟩,hr⟩:=x
  exactλenv he L o U ho=>(aM.mp he).elim (λq=>aq (O.symm.trans ((aq (hf.symm.trans (q▸U)))▸ho))▸hd) λhe=>ih hr env he L o U ho
theorem NT{B h:Heap}{l:List Env}(x:h.FunFrames B l):∀env∈l,∀L,env.frame=some L->B.get? L=none:=by
 induction l with
 |nil=>exactλ_ h=>dh h
 |cons e r U=>
  obtain ⟨_,⟨L',o',hf,hn,_,_⟩,hr⟩:=x
  exactλenv he L O=>(aM.mp he).elim (λq=>aq (hf.symm.trans (q▸O))▸hn) λhe=>U hr env he L O
section
variable{G:Gd}{F:Fc}{A:Around}{σ₀ σ σ':H}{s₀ s s':Shared}{outer:List Env}{ρ ρ':List CV}{h h':Heap}{B:Heap}{l:List Env}
theorem d5.slots{env:Env}{names:LQ}{h'':Heap}(f:d5 B env names h σ ρ)(u:h.UpToSlots h''):d5 B env names h'' σ ρ:=by
 refine f.to (λm ⟨o,es,ep,U,hd,r⟩=>?_) f.ZX (λx c o v _ U hd=>?_) λx c hk hl=>(f.ZP x c hk hl).casesOn λn _ _ _=>n
 ·obtain ⟨sl,q⟩:=u _ _ U λvs q=>nomatch hd.symm.trans q
  exact⟨_,es,ep,q,hd,r⟩
 ·obtain ⟨sl,q⟩:=u _ _ U λvs q=>nomatch hd.symm.trans q
  exact⟨_,q,hd⟩
theorem nM.ZM{h'':Heap}(x:nM l σ h σ' h')(hd:∀env∈l,∀L o,env.frame=some L->h'.get? L=some o->∀vs,o.data≠.fields vs)(u:h'.UpToSlots h''):nM l σ h σ' h'':=λenv he L o U ho n=>
 (x env he L o U ho n).casesOn λsl q n1=>(u _ _ q (hd env he L _ U q)).elim λO q2=>⟨O,q2,n1⟩
theorem UA{M:Model}{E:Value->Shared->Prop}{e L:Addr}{cls a0:Value}{Q:Unit->Shared->Prop}(R:Heap.HeldW B l e cls a0 L s.heap)
 (hq:∀h',Heap.HeldW B l e cls a0 L h'->s.heap.UpToSlots h'->Q () {s with heap:=h'}):wpAny M A (setFlight (.ref e) (some L)) Q E s:=by
 obtain ⟨k1,k2,k3,oe,vs,T,oT,ts,a1,a2,a3,a4,a5,a6,a7,a8,a9⟩:=R
 have U:∀b,b≠T->(s.heap.update T (Obj.mapFields (·.setIfInBounds 3 (rawInt L)))).get? b=s.heap.get? b:=λb hb=>Heap.get?_update_other _ _ (Ne.symm hb)
 have nT:∀b o,s.heap.get? b=some o->(∀vs,o.data≠.fields vs)->b≠T:=λb o hb O q=>O _ (aq (a7.symm.trans (q▸hb))▸a8)
 have z3:3<ts.size:=(Array.getElem?_eq_some_iff.mp a9).1
 unfold setFlight
 refine ah (wpAny_field a1 a3 a4 ?_)
 rw[al (show(Value.ref T !=Value.none)=true from rfl)]
 refine wpAny_setField a7 a8 z3 (hq _ ⟨λb o hb=>(U b λq=>ez (q▸a5) hb).trans (k1 b o hb),k2,k3.of_keeps λb o hb O=>⟨o,(U b (nT b o hb O)).trans hb,rfl⟩,?_⟩ λb o hb O=>⟨o.slots,(U b (nT b o hb O)).trans hb⟩)
 exact⟨oe,vs,T,_,_,(U e (Ne.symm a6)).trans a1,a2,a3,a4,a5,a6,cy _ a7 (Obj.isFreed_of_fields (Obj.data_mapFields a8 _)),Obj.data_mapFields a8 _,by simp[z3]⟩
structure Jb(G:Gd)(F:Fc)(σ₀:H)(s₀:Shared)(outer:List Env)(σ:H)(h h' B:Heap):Prop where
S:jd G (F.env::outer) σ₀ s₀.heap σ B h'
k:B.StaysIn h'
ff:h'.FunFrames B (F.env::outer)
no:∀b,h.get? b=none->B.get? b=none
theorem Fq(en:jb G F A σ₀ s₀ outer)(st:dB G F A σ₀ s₀ σ ρ s)(k:∀b o,s.heap.get? b=some o->h'.get? b=some o):Jb G F σ₀ s₀ outer σ s.heap h' (hideAll s.heap ((F.env::outer).filterMap (·.frame))):=by
 have fr:=st.Z6.fr _ en.frames
 have hin:∀e∈F.env::outer,∀a,e.frame=some a->a∈(F.env::outer).filterMap (·.frame):=λe he a ha=>List.mem_filterMap.mpr ⟨e,he,ha⟩
 have O:∀a,(∀e∈F.env::outer,e.frame≠some a)->a∉(F.env::outer).filterMap (·.frame):=λa ha q=>(List.mem_filterMap.mp q).elim λe h=>ha e h.1 h.2
 refine⟨⟨st.Z6.rep.mono (λa x oa hx=>hideAll_get _ hx (O a λe he q=>(fr.out e he a q).casesOn λn _ _=>n oa)) λt y xs n ht hc hd=>hideAll_get _ ht (O t λe he q=>(fr.out e he t q).casesOn λ_ U hd'=>?_),
  λb o hb=>hideAll_get _ (st.Z6.st b o hb) λq=>ez (fr.ff.mem q).1 hb,λa o U n hf=>(st.st.keep a o U n).casesOn λsl q1 q2 n1=>⟨sl,hideAll_get _ q1 (O a hf),q2,n1⟩,λe he L o hL U n=>(st.st.keep L o U n).casesOn λsl q1 _ n1=>⟨sl,k _ _ q1,n1⟩⟩,
  λb o hb=>k b o (of_hideAll _ hb),(funFrames_hide fr.ff hin).of_keeps λb o U _=>⟨o,k b o U,rfl⟩,λb hb=>?_⟩
 rotate_left
 ·cases aq (ht.symm.trans U)
  exact nomatch hd.symm.trans hd'
 ·cases q:(hideAll s.heap ((F.env::outer).filterMap (·.frame))).get? b with
  |none=>rfl
  |some o=>exact(ez hb (of_hideAll _ q)).elim
theorem jd.ZM{h'':Heap}(S:jd G l σ h σ' B h')(ff:h'.FunFrames B l)(u:h'.UpToSlots h''):jd G l σ h σ' B h'':=⟨S.rep,S.st,S.kept,S.fr.ZM (NS ff) u⟩
inductive Cc(G:Gd)(F:Fc)(σ₀:H)(s₀:Shared)(outer:List Env)(X:List CV->H->Prop)(s':Shared)(ea:Nat):Prop
|mk {B a0 σ' ρ'}:Heap.HeldW B (F.env::outer) ea (.ref G.C) a0 F.env.locals s'.heap->jd G (F.env::outer) σ₀ s₀.heap σ' B s'.heap->d5 G.base F.env F.S.names s'.heap σ' ρ'->Fx s₀ s'->X ρ' σ'->Cc G F σ₀ s₀ outer X s' ea
theorem DD(en:jb G F A σ₀ s₀ outer){X:List CV->H->Prop}{e:Value}{E:Value->Shared->Prop}{Q:Unit->Shared->Prop}(x:fT G F A σ₀ s₀ X s' e)(U:∀ea s'',e=.ref ea->Cc G F σ₀ s₀ outer X s'' ea->Q () s''):
 wpAny (model G.prog G.w) A (noteFrame e F.env) Q E s':=by
 revert U
 refine x.casesOn (λ{σ' ρ' B ea a0 l}hl O S fr fx hX U=>?_) λ{σ' ρ' sm ea oe vs a0}st k fx hn ex hX U=>?_
 ·cases aq (en.frames.symm.trans hl)
  refine O.elim (λO=>wpAny_looks_onW hl en.frame O λh' hh u=>U _ _ rfl ⟨hh,S.ZM O.2.2.1 u,fr.slots u,⟨fx.os,fx.gens⟩,hX⟩) λO=>wpAny_noteFrame_againW en.frame O.2.2.2 (U _ _ rfl ⟨O,S,fr,fx,hX⟩)
 ·have b:=Fq en st k
  unfold noteFrame
  simp only[en.frame]
  refine ah (wpAny_field ex.at_ ex.dat ex.v1 ?_)
  rw[av dQ]
  refine wpAny_entryW en.frames b.ff en.frame ex.at_ b.k (b.no _ hn) ex.dat (Array.getElem?_eq_some_iff.mp ex.v1).1 ex.v0 λh' ⟨x1,x2,x3,x4⟩=>U _ _ rfl ?_
  rw[ex.cls] at x3
  exact⟨⟨x1,b.no _ hn,x2,x3⟩,b.S.ZM b.ff x4,(st.fr.slots (.of_keeps k)).slots x4,⟨(st.st.fx.trans fx).os,(st.st.fx.trans fx).gens⟩,hX⟩
theorem DF(en:jb G F A σ₀ s₀ outer){X:List CV->H->Prop}:PassesOwn (model G.prog G.w) A F.env λe s'=>fT G F A σ₀ s₀ X s' e:=by
 intro e s' x
 unfold notedBy
 refine DD en x λea s'' e1 y=>?_
 subst e1
 refine y.casesOn λU S fr fx hX=>?_
 obtain ⟨_,_,_,oe,vs,T,_,_,a1,_,a3,a4,_⟩:=id U
 unfold cameBackBy
 refine ah (wpAny_field a1 a3 a4 ?_)
 rw[av (show¬((Value.ref T==Value.none)=true) fromλh=>cX h),en.frame]
 have fin:wpAny (model G.prog G.w) A (setFlight (.ref ea) (some F.env.locals)) (λ_ s''=>fT G F A σ₀ s₀ X s'' (.ref ea)) (λe s'=>fT G F A σ₀ s₀ X s' e) s'':=
  UA U λh' O u=>.Zp en.frames (.inr O) (S.ZM U.2.2.1 u) (fr.slots u) ⟨fx.os,fx.gens⟩ hX
 first
  |exact fin
  |exact ah (aw fin)
theorem jd.less(en:jb G F A σ₀ s₀ outer)(S:jd G (F.env::outer) σ₀ s₀.heap σ' B h'):jd G outer σ₀ s₀.heap σ' B h':=
 ⟨S.rep,S.st,λa o U n hf=>S.kept a o U n λe he q=>(aM.mp he).elim (λee=>have O:F.env.locals=a:=aq (en.frame.symm.trans (ee▸q));n (O▸en.loc o (O.symm▸U))) λhe=>hf e he q,λe he=>S.fr e (.tail _ he)⟩
theorem DE(en:jb G F A σ₀ s₀ outer){X:H->Prop}{e:Value}{A':Around}(hA:A'.frames=some outer)(x:fT G F A σ₀ s₀ (λ_ σ'=>X σ') s' e){Q:Unit->Shared->Prop}{E:Value->Shared->Prop}
 (h:∀h',eF G A' X σ₀ s₀ {s' with heap:=h'} e->Q () {s' with heap:=h'}):wpAny (model G.prog G.w) A (leaving F.env e) Q E s':=by
 revert h
 refine x.casesOn (λ{σ' ρ' B ea a0 l}hl O S fr fx hX h=>?_) λ{σ' ρ' sm ea oe vs a0}st k fx hn ex hX h=>?_
 ·cases aq (en.frames.symm.trans hl)
  refine O.elim (λO=>wpAny_leaves_onW hl en.frame O λh' U u=>h h' ⟨hA,U,(S.ZM O.2.2.1 u).less en,⟨fx.os,fx.gens⟩,hX⟩) λO=>?_
  unfold leaving
  refine ah (wpAny_noteFrame_againW en.frame O.2.2.2 (wpAny_landsW O λh' U u=>?_))
  obtain ⟨k1,k2,⟨_,_,k3⟩,k4⟩:=U
  exact h h' ⟨hA,⟨k1,k2,k3,k4⟩,(S.ZM O.2.2.1 u).less en,⟨fx.os,fx.gens⟩,hX⟩
 ·have b:=Fq en st k
  refine wpAny_leaving_firstW en.frames b.ff en.frame ex.at_ b.k (b.no _ hn) ex.dat ex.v1 ex.v0 λh' ⟨k1,k2,k3,u⟩=>?_
  obtain ⟨_,_,k2'⟩:=k2
  rw[ex.cls] at k3
  exact h h' ⟨hA,⟨k1,b.no _ hn,k2',k3⟩,(b.S.ZM b.ff u).less en,⟨(st.st.fx.trans fx).os,(st.st.fx.trans fx).gens⟩,hX⟩
end
section
variable(prog:Program)(w:World)(A:Around)(R:Result->Shared->Prop)(I:Nat->Shared->Prop)(n:Nat)(target:Expr)(it:Value)(body:List Stmt)(env:Env)
def Jx(f:Flow)(s:Shared):Prop:=Flow.casesOn f (∃m,m<n/\I m s) (R (.ok .next) s) (∃m,m<n/\I m s) λv=>R (.ok (.ret v)) s
def Jv(_:Unit)(s:Shared):Prop:=wpAny (model prog w) A (execs body env) (Jx R I n) (notedBy (model prog w) A env λe s'=>R (.error e) s') s
def I7(v:Value)(_:Unit)(s:Shared):Prop:=wpAny (model prog w) A (assign target env v) (Jv prog w A R I n body env) (λ_ _=>False) s
def Jp(r:Option Value)(s:Shared):Prop:=r.elim (R (.ok .next) s) λv=>wpAny (model prog w) A (letOwnedTupleGo target it v) (I7 prog w A R I n target body env v) (λ_ _=>False) s
end
section
variable{prog:Program}{w:World}{A:Around}{R:Result->Shared->Prop}{target:Expr}{it:Value}{body:List Stmt}{env:Env}{s:Shared}
theorem Q0(I:Nat->Shared->Prop)(turn:∀n s,I n s->wpAny (model prog w) A (pyNext it) (Jp prog w A R I n target it body env) (λ_ _=>False) s)
 (n:Nat) (h:I n s):codeAny (model prog w) A (.forLoop target it body [] env) R s:=by
 refine codeAny_loop' rfl I (λn s hI=>?_) n h
 show wpAny _ _ ((forTurn target it body [] env).onRaise (λx=>do noteFrame x env;theTreesLotGoes x)) _ _ s
 refine wpAny_noted ?_
 simp only[forTurn]
 refine ah (bG (ah (wpAny_onRaise (az (turn n s hI) (λr s₁ h₁=>?_) λ_ _ h'=>h'.elim))))
 cases r with
 |none=>exact aw (.inr ⟨rfl,codeAny_block (wpAny_execs_nil h₁)⟩)
 |some v=>
  refine ah (az h₁ (λ_ s₁' U=>ah (az U (λ_ s₂ h₂=>ah (az h₂ (λf s₃ O=>?_) λ_ _ h'=>h')) λ_ _ h'=>h'.elim)) λ_ _ h'=>h'.elim)
  cases f with
  |next=>exact aw (.inl ⟨rfl,O⟩)
  |cont=>exact aw (.inl ⟨rfl,O⟩)
  |brk=>exact aw O
  |ret v=>exact aw O
def Cj(M:Model)(A:Around)(env:Env)(Q:Flow->Shared->Prop)(E:Value->Shared->Prop)(r:Result)(s':Shared):Prop:=match r with
| .ok f=>Q f s'
| .error e=>cameBackBy M A env E e s'
end
section
variable{B h h' h'':Heap}{σ σ':H}{I J:Nat}
theorem Pk.chg(k:Pk B σ h σ' h')(oI:dS σ h I)(oJ:dS σ h J)(c:ja I J h' h''):Pk B σ h σ' h'':=λL o x=>(k L o x).chg c (λe=>x.ZX (e▸oI o (e▸x.at_))) λe=>x.ZX (e▸oJ o (e▸x.at_))
end
theorem Gr.base{p₀ q:Pt}(g:Gr p₀ q):Gr ⟨p₀.as,q.μ,p₀.σ⟩ q:=⟨.refl _,g.keep,g.ZL,λ_ h=>.inl h,g.ZC⟩
theorem Gr.rebase{p₀ q q':Pt}(O:Gr p₀ q)(g:Gr ⟨p₀.as,q.μ,p₀.σ⟩ q'):Gr p₀ q':=⟨O.mu.trans g.mu,g.keep,g.ZL,λa h=>(g.new a h).elim (O.new a) .inr,g.ZC⟩
structure Cb(G:Gd)(k n:Nat)(is:LN)(tup:Bool)(how:Nat)(b r:List CS)(P:dX)(ds:LD)(I:Nat->Ev->XT):Prop where
step:∀i x E' M',ds[i]?=some x->I i E' M'->∃xs,wB is tup (Nat.beq how 3) i x=some xs/\Run G k n b (i6 E' is xs) M' ⟨I (i+1),λE₃ M₃=>Run G k n r E₃ M₃ P,P.ret,P.exc⟩
fin:∀E' M',I ds.length E' M'->Run G k n r E' M' P
inductive wV(G:Gd)(k n:Nat)(is:LN)(tup:Bool)(how:Nat)(b r:List CS)(E:Ev)(P:dX)(ds:LD)(M:LB):Prop
|mk (I:Nat->Ev->XT):Cb G k n is tup how b r P ds I->I 0 E M->wV G k n is tup how b r E P ds M
inductive CD(G:Gd)(k n:Nat)(F:Fc)(A:Around)(σ₀:H)(s₀:Shared)(outer:List Env)(p₀:Pt)(σ:H)(s:Shared)(I:Nat->Ev->XT)(m:Nat)(s':Shared):Prop
|mk {E M q ρ}:fE G k n E M F A σ₀ s₀ outer p₀ q ρ->dB G F A σ₀ s₀ q.σ ρ s'->Pk G.base σ s.heap q.σ s'.heap->I m E M->CD G k n F A σ₀ s₀ outer p₀ σ s I m s'
inductive wU(G:Gd)(k n:Nat)(F:Fc)(A:Around)(σ₀:H)(s₀:Shared)(outer:List Env)(p₀:Pt)(σ:H)(s:Shared)(en:Bool)(I J:Nat)(ds:LD)(Iv:Nat->Ev->XT)(m:Nat)(s':Shared):Prop
|mk {i E M q ρ sr}:m=ds.length-i->i<=ds.length->fE G k n E M F A σ₀ s₀ outer p₀ q ρ->dB G F A σ₀ s₀ q.σ ρ s'->gN q.μ sr ds->sr.en=en->iD G.base q.σ s'.heap sr ds.length i I J->Pk G.base σ s.heap q.σ s'.heap->Iv i E M->wU G k n F A σ₀ s₀ outer p₀ σ s en I J ds Iv m s'
section
variable{G:Gd}{F:Fc}{A:Around}{σ₀ σ σ':H}{s₀ s s':Shared}{outer:List Env}{p₀ p q:Pt}{ρ:List CV}{k n:Nat}{E E':Ev}{M M':LB}{P:dX}{c:CS}{r:List CS}{e:CE}{X:XT}
theorem fE.conv(a:fE G k n E M F A σ₀ s₀ outer p₀ p ρ)(stt:dB G F A σ₀ s₀ p.σ ρ s)(e:Value)(s':Shared)(x:eF G A (dk p (P.exc E)) p.σ s s' e):fT G F A σ₀ s₀ (hU p₀ P.exc) s' e:=
 (x.toS a.en stt).imp λρ' σ' h=>h.elim λ(O:ρ'=ρ)(q:dk _ _ σ')=>O▸q.casesOn λ{M as μ}gr U kk=>.mk (q:=⟨as,μ,σ'⟩) (a.g.trans gr) U (a.er.gr gr) kk
theorem TP{t:CE}{b:List CS}(I:Nat->Ev->XT){m:Nat}(h0:I m E M)
 (h:∀m E' M',I m E' M'->eJ kc G k t E' M' (λc M₁=>if c then Run G k n b E' M₁ ⟨λE₂ M₂=>∃m',m'<m/\I m' E₂ M₂,λE₃ M₃=>Run G k n r E₃ M₃ P,P.ret,P.exc⟩ else Run G k n r E' M₁ P) (P.exc E')):
 Run G k n (.ZH t b::r) E M P:=i3 λF A σ₀ s₀ outer p₀ p ρ l st a hk s stt=>by
 refine WB st hk λt' b' pos hk=>?_
 have hk:=cN hk
 have pass:=DF a.en (X:=hU p₀ P.exc)
 refine wpAny_While (codeAny_whileLoop (CD G k n F A σ₀ s₀ outer p₀ p.σ s I) (λm s₁ inv=>inv.casesOn λ{E M q ρ}a₁ O pk hI=>?_) m ⟨a,stt,λ_ _ p=>p,h0⟩)
 refine az (h m E M hI l t' a₁.1 hk.1 A s₁ O.Z6 O.fr) (λc s₂ z=>?_) λe s' x=>pass e s' (a₁.conv O e s' x)
 refine z.casesOn λ{σ₂}s1 z=>z.casesOn λ{x M₂ as μ}g U e hr=>?_
 cases (show x=c from e)
 have a₂:=a₁.to (q:=⟨as,μ,σ₂⟩) g U
 have st₂:=O.step s1
 have pk₂:=pk.trans (dI.keep s1.keep)
 cases c with
 |false=>exact wpAny_execs_nil ⟨st₂,pk₂,.next (P:=P.then G k n r) a₂.g a₂.st a₂.er hr⟩
 |true=>
  refine az (hr l b' a₂ hk.2 s₂ st₂) (λfl s' x=>x.casesOn λ{σ' ρ'}st' pk' q=>?_) λe s' x=>pass e s' x
  have pk₃:=mE.pre pk₂ pk'
  revert st' pk₃
  clear pk'
  refine q.casesOn (λ{E M q ρ}g U er h st' pk=>?_) (λg U er h st' pk=>?_) λg U r h st' pk=>?_
  ·exact h.imp λm' h=>⟨h.1,⟨⟨a.env,a.k,a.qh,U,er⟩,a.en,a.hn,g⟩,st',pk,h.2⟩
  ·exact fD.mk st' pk (.next (P:=P.then G k n _) g U er h)
  ·exact fD.mk st' pk (.ret (P:=P.then G k n _) g U r h)
theorem MV{t:CT}{is:LN}{tup:Bool}{f:LN×Bool->Bool}(h:rM t=some (is,tup))(hk:((rM t).any f)=true):f (is,tup)=true:=by rw[h] at hk;exact hk
theorem NR{t':Expr}{b':List Stmt}{is:LN}{tup:Bool}{how m I J:Nat}{b:List CS}{ds:LD}{Iv:Nat->Ev->XT}{R:Result->Shared->Prop}{V:Nat->Shared->Prop}(aE:jx G F)(en:jb G F A σ₀ s₀ outer)(hq:F.qh=true)(fc:Cb G k n is tup how b r P ds Iv)(hT:jk F.S.names is (Nat.beq how 3||tup) t'=true)(hb:lX m F.S b b'=true)
 (oI:dS σ s.heap I) (oJ:dS σ s.heap J) (oI₀:dS σ₀ s₀.heap I) (oJ₀:dS σ₀ s₀.heap J) (hV:∀m s',wU G k n F A σ₀ s₀ outer p₀ σ s (Nat.beq how 3) I J ds Iv m s'->V m s') (hV':∀m s',V m s'->wU G k n F A σ₀ s₀ outer p₀ σ s (Nat.beq how 3) I J ds Iv m s')
 (hR:∀fl s',fD G F A σ₀ s₀ σ s (hW p₀ (P.then G k n r)) fl s'->R (.ok fl) s') (hE:∀e s',fT G F A σ₀ s₀ (hU p₀ P.exc) s' e->notedBy (model G.prog G.w) A F.env (λe s'=>R (.error e) s') e s') {N:Nat} {s₁:Shared} (h:V N s₁):
 codeAny (model G.prog G.w) A (.forLoop t' (.ref I) b' [] F.env) R s₁:=by
 have tt:=IC hT
 refine Q0 V (λm₁ s₃ inv=>(hV' m₁ s₃ inv).casesOn λ{i E M q ρ sr}hm hle O U src en' it pk hI=>it.casesOn λ{o oj}pI pJ ito=>az (EP (E:=λ_ _=>False) (hq▸U.Z6) O.st.sub tt.1 (λq=>tt.2 (by rw[←en',q];rfl)) src it) (λr s₁ hr=>?_) λ_ _ e=>e) N h
 cases r with
 |none=>exact pF.casesOn (show pF s₃ ds i I J s₁ from hr) λhl c fx=>hR _ _ (fD.mk (U.chg pI pJ c oI₀ oJ₀ fx) (pk.chg oI oJ c) (.next (P:=P.then G k n _) O.g O.st O.er (fc.fin _ _ (Nat.le_antisymm hle hl▸hI))))
 |some u=>
  refine az (show wpAny _ _ _ _ _ _ from hr) (λ_ s₂ nx=>nx.casesOn λ{d}hx c fx it₂ val=>?_) λ_ _ e=>e
  have st₂:=U.chg pI pJ c oI₀ oJ₀ fx
  have pk₃:=pk.chg oI oJ c
  refine(fc.step i d E M hx hI).elim λxs ht=>?_
  have tv:pM q s₂.heap is xs (Nat.beq how 3||tup) u:=en'▸ID st₂.Z6.rep O.st.sub (en'▸ht.1) val
  refine az (st₂.target (st₂.Z6.hd hq) en.E.ok en.loc hT (λi _ x hx=>en.Zx x (ax hx)) tv O.er) (λ_ s₃ y=>y.casesOn λ{ρ₃}st₃ k₃ er₃=>?_) λ_ _ e=>e
  refine az (ht.2 (p₀:=⟨p₀.as,q.μ,p₀.σ⟩) m b' ⟨⟨O.env,O.k,O.qh,O.st,er₃⟩,O.en,O.hn,O.g.base⟩ hb s₃ st₃) (λfl s' x=>x.casesOn λ{σ' ρ'}st' pk' q=>?_) λe s' x=>hE e s' (x.imp λρ' σ' y=>y.casesOn λg sto er h=>.mk (O.g.rebase g) sto er h)
  revert st' pk'
  refine q.casesOn (λ{E M q ρ}g sto er h st' pk'=>?_) (λg sto er h st' pk'=>?_) λg sto r h st' pk'=>?_
  ·have hlt:=(aO.mp hx).1
   exact⟨_,hm▸Nat.sub_lt_sub_left hlt (bP i),hV _ _ ⟨rfl,hlt,⟨⟨O.env,O.k,O.qh,sto,er⟩,O.en,O.hn,O.g.rebase g⟩,st',src.up g.mu,en',it₂.pk (k₃.trans pk'),pk₃.trans (k₃.trans pk'),h⟩⟩
  ·exact hR _ _ (fD.mk st' (pk₃.trans (k₃.trans pk')) (.next (P:=P.then G k n _) (O.g.rebase g) sto er h))
  ·exact hR _ _ (fD.mk st' trivial (.ret (P:=P.then G k n _) (O.g.rebase g) sto r h))
theorem Tx{t:CT}{is:LN}{tup:Bool}{how:Nat}{b:List CS}(ht:rM t=some (is,tup))(h:c1 kc G k e E M (λv M₁=>∃ds,ji how M₁ v=some ds/\wV G k n is tup how b r E P ds M₁) (P.exc E)):
 Run G k n (.for t how e b::r) E M P:=i3 λF A σ₀ s₀ outer p₀ p ρ l st a hk s stt=>by
 refine NQ st hk λt' i' b' pos hk=>?_
 have hk:=cN hk
 have U:=cN hk.1
 refine wpAny_For (show wpAny _ _ _ (λx s₁=>wpAny _ _ _ (λit O=>codeAny _ _ _ (Cj _ _ _ _ _) O) _ s₁) _ _ from az (GQ h a.1 U.2 stt.Z6 stt.fr) (λx s₁ h₁=>az (show wpAny _ _ _ _ _ _ from h₁) (λit O h₂=>h₂.casesOn λ{I J sr ds M₁ as μ σ'}e g sto s1 src en it oI oJ hq=>hq.casesOn λIv fc hI=>?_) (a.conv stt)) (a.conv stt)) (yu U.2 F.env)
 rw[e]
 exact NR (R:=Cj _ _ _ (fD G F A σ₀ s₀ p.σ s (hW p₀ (P.then G k n r))) (λe s'=>fT G F A σ₀ s₀ (hU p₀ P.exc) s' e)) a.env a.en a.qh fc (MV ht U.1) hk.2 oI oJ (.back stt.st.keep oI) (.back stt.st.keep oJ) (λ_ _ x=>x) (λ_ _ x=>x) (λ_ _ x=>x) (λe s' x=>DF a.en e s' x) (N:=ds.length) (.mk (i:=0) (q:=⟨as,μ,σ'⟩) rfl (aL _) (a.to g sto) (stt.step s1) src en it (dI.keep s1.keep) hI)
end
section
variable{G:Gd}{F:Fc}{A:Around}{σ₀ σ σ':H}{s₀ s s':Shared}{outer:List Env}{p₀ p q:Pt}{ρ:List CV}{k n:Nat}{E E':Ev}{M M':LB}{P:dX}{c:CS}{r:List CS}{e:CE}{X:XT}
theorem dB.ne{L Z:Nat}(x:dB G F A σ₀ s₀ σ ρ s)(f:uo F.env Z)(O:dS σ s.heap L):L≠Z:=by
 refine f.casesOn (λe=>?_) λ{y c}hk hc e=>?_
 ·obtain ⟨m,o,es,ep,U,_⟩:=x.fr.ns
  exact x.fr.ZX (e▸O o (e▸U))
 ·exact(x.fr.ZP y c hk hc).casesOn λn _ U _=>n (e▸O _ (e▸U))
theorem fE.exc(a:fE G k n E M F A σ₀ s₀ outer p₀ p ρ)(st:dB G F A σ₀ s₀ p.σ ρ s){e:Value}(x:eF G A (dk p (P.exc E)) p.σ s s' e):fT G F A σ₀ s₀ (hU p₀ P.exc) s' e:=
 (x.toS a.en st).imp λρ' σ' h=>h.elim λ(O:ρ'=ρ)(q:dk _ _ σ')=>O▸q.casesOn λ{M as μ}gr U kk=>.mk (q:=⟨as,μ,σ'⟩) (a.g.trans gr) U (a.er.gr gr) kk
theorem TK{i l how:Nat}{tgt caps:LN}{tup:Bool}{iter elt:CE}{ifs:Option CE}(h:uk kc G k l tgt tup caps how iter ifs elt E M (λvs U=>gI vs U λv M'=>Run G k n r (E.set i (some v)) M' P) (P.exc E)):
 Run G k n (.assign (.loc i) (.comp l tgt tup caps how iter ifs elt)::r) E M P:=i3 λF A σ₀ s₀ outer p₀ p ρ m st a hk=>by
 refine pS st hk λt v pos hk=>?_
 have hk:=cN hk
 have h2:=cN hk.1
 refine qH t h2.1 λy yp hy=>?_
 have hy:=aD hy
 obtain ⟨b,hb⟩:=Vz (env:=F.env) (v:=v) (x:=y) (xp:=yp) (line:=pos.line)
 cases b with
 |false=>
  refine dw.sets a hb rfl rfl (GP h m v a.1 hk.2) λ{x M₁ q u}q a₁ r=>?_
  rw[PySem.assign_Name,bind_assoc]
  exact dw.standAt (dw.store (P:=P.then G k n _) a₁ hy r q)
 |true=>
  refine kE hk.2 λm hk=>?_
  revert hb
  refine EU v (show vn (kc m) F.S (.comp l tgt tup caps how iter ifs elt) v=true from hk) λel tg it fs sc vp ok h1 h2 h3 h4 h5 h6=>?_
  intro hb
  rw[Nv _ _ _ _ hb]
  refine dw.standAt λs st=>ah ?_
  show wpAny _ A (do let _ ←comprehension (.ListComp el [⟨tg,it,fs,0⟩] sc vp) sc F.env _ (newList []) false (eval it F.env) (some λv=>assignAll v [assign (.Name y yp) F.env])) _ _ s
  refine ah (az (wpAny_comprehension_free (use:=some λv=>assignAll v [assign (.Name y yp) F.env]) (Q:=λ_ s'=>fD G F A σ₀ s₀ p.σ s (hW p₀ (P.then G k n r)) .next s') (E:=λe s'=>fT G F A σ₀ s₀ (hU p₀ P.exc) s' e) rfl (yu h1 F.env) (Dh a.env ok) ok.kind (Fl ok) ?_) (λ_ s' q=>aw (aw q)) λ_ _ e=>e)
  refine Dl h a.1 ok h1 h2 h3 h4 h5 h6 st.Z6 st.fr (λ_ _ x=>a.exc st x) λZ L s' ce oZ oL=>?_
  refine(ce.done oZ).casesOn λ{σ' mm}hm nL s1 got=>?_
  show wpAny _ A (assignAll (.ref Z) [assign (.Name y yp) F.env]) _ _ s'
  refine wpAny_assign_Name (az ((st.step s1).store (v:=.ref Z) a.en.E.ok hy (a.en.Zx y (ax hy)) a.en.loc) (λ_ s₂ z=>z.casesOn λ{L0}O pk fp hs=>?_) λ_ _ e=>e)
  have ne:=st.ne fp oL
  refine hm.elim λo hm=>hm.elim λes hm=>hm.elim λep hm=>⟨mm,⟨o,es,ep,(hs.2 L ne).trans hm.1,hm.2⟩,λh' hs'=>?_⟩
  refine⟨st.drop O oL nL ((hs.2 L ne).trans hm.1) hm.2.1 hs',((dI.keep s1.keep).trans pk).chg oL oL (.of hs'.extBut),?_⟩
  exact got.casesOn λ{x M' as μ}g sto r kk=>.next (q:=⟨as,μ,σ'⟩) (P:=P.then G k n _) (a.g.trans g) sto ((a.er.gr g).set r i) kk
end
noncomputable def Fc.Zb(F:Fc):Fc:=⟨F.env,F.S,F.k,false⟩
section
variable{G:Gd}{F:Fc}{A:Around}{σ₀ σ σ':H}{s₀ s s':Shared}{outer:List Env}{p₀ p q:Pt}{ρ:List CV}{k n:Nat}{E E':Ev}{M M':LB}{P:dX}{c:CS}{r:List CS}{e:CE}{X:XT}
inductive mz(G:Gd)(F:Fc)(outer:List Env)(σ₀:H)(s₀:Shared)(ea:Nat)(σ':H)(ρ':List CV)(s':Shared):Prop
|mk {B a0}:Heap.FlyingW B (F.env::outer) ea (.ref G.C) a0 s'.heap->jd G (F.env::outer) σ₀ s₀.heap σ' B s'.heap->d5 G.base F.env F.S.names s'.heap σ' ρ'->Fx s₀ s'->mz G F outer σ₀ s₀ ea σ' ρ' s'
theorem mz.again{M:Model}{E:Value->Shared->Prop}{O:Nat}{Q:Unit->Shared->Prop}(x:mz G F outer σ₀ s₀ O σ' ρ s)(hq:∀h',mz G F outer σ₀ s₀ O σ' ρ {s with heap:=h'}->Q () {s with heap:=h'}):wpAny M A (setFlight (.ref O) none) Q E s:=
 x.casesOn λhf S fr fx=>lands_againW hf λh' U u=>hq h' ⟨U,S.ZM hf.2.2.1 u,fr.slots u,⟨fx.os,fx.gens⟩⟩
theorem Nu(en:jb G F A σ₀ s₀ outer){X:List CV->H->Prop}{e:Value}{E E':Value->Shared->Prop}{Q:Unit->Shared->Prop}(x:fT G F A σ₀ s₀ X s' e)
 (hq:∀O σ' ρ' s',e=.ref O->mz G F outer σ₀ s₀ O σ' ρ' s'->X ρ' σ'->Q () s'):wpAny (model G.prog G.w) A (noteFrame e F.env) (λ_ s₂=>wpAny (model G.prog G.w) A (setFlight e none) Q E s₂) E' s':=
 DD en x λO s'' U y=>U▸y.casesOn λhh S fr fx hX=>wpAny_landsW hh λh' hf u=>hq O _ _ _ U ⟨hf,S.ZM hh.2.2.1 u,fr.slots u,⟨fx.os,fx.gens⟩⟩ hX
theorem mz.stt(en:jb G F A σ₀ s₀ outer)(rm:lL (F.k+1) A){ea:Nat}{hv:Option Value}(x:mz G F outer σ₀ s₀ ea σ' ρ s):dB G F.Zb (A.mark hv) σ₀ s₀ σ' ρ s:=by
 refine x.casesOn λ{B a0}hf S fr fx=>?_
 have r:=S.rep.keeps hf.1
 have ff:=funFrames_base S.st hf.2.2.1
 refine⟨⟨⟨rm.depth,rm.units⟩,(λq=>cX q),⟨_,en.frames⟩,λl hl=>?_,λb o hb=>hf.1 b o (S.st b o hb),r⟩,⟨r,λa o U n=>?_,fx⟩,fr⟩
 ·cases aq (en.frames.symm.trans hl)
  refine⟨ff,λe he L hL=>(aM.mp he).elim (λq=>?_) λhe'=>?_⟩
  ·obtain ⟨m,o,es,ep,U,hd,_⟩:=fr.ns
   exact aq (en.frame.symm.trans (q▸hL))▸⟨fr.ZX,U,hd⟩
  ·exact(en.out e he' L hL).casesOn λn U hd=>(S.fr e he L _ hL U n).casesOn λsl q n1=>⟨n1,q,hd⟩
 ·by_cases hin:∃e∈F.env::outer,e.frame=some a
  ·obtain ⟨e,he,O⟩:=hin
   refine(S.fr e he a o O U n).casesOn λsl q n1=>⟨sl,q,λc=>?_,n1⟩
   refine(aM.mp he).elim (λq=>?_) λhe'=>?_
   ·have ea:F.env.locals=a:=aq (en.frame.symm.trans (q▸O))
    exact(n (ea▸en.loc o (ea.symm▸U))).elim
   ·refine(en.out e he' a O).casesOn λ_ ho2 hd2=>c.elim (λc=>?_) λc=>?_
    ·rw[NT ff e he a O] at c;exact cX c
    ·exact(c _ _ (aq (ho2.symm.trans U)▸hd2)).elim
  ·exact(S.kept a o U n λe he O=>hin ⟨e,he,O⟩).casesOn λsl q q2 n1=>⟨sl,hf.1 _ _ q,q2,n1⟩
theorem Wd{f:Expr}{pos:Pos}{e:Expr}{K:KT}{Y:H->Prop}(en:jx G F)(hg:ip F.S (.bi .len) f=true)(hs:ma e=true)
 (h:Tr G F ρ p.σ (eval e F.env) (Got RV p λx M=>∃xs,view M x=some (.list xs)/\xs.length<=mx/\K (.sh (.int (xs.length:Nat))) M) Y):Tr G F ρ p.σ (eval (.Call f [e] [] pos) F.env) (Got RV p K) Y:=by
 refine oC f hg λy yp hy=>?_
 show Tr G F ρ p.σ (eval (.Name y yp) F.env>>=λf=>callWith pos f [] (backTo pos (starEach [e] F.env)) []) _ _
 refine Tr.bind (qW en hy (Q:=λv s=>v=rJ .len/\s=p.σ) λv i=>⟨xX i,rfl⟩) λv σ₁ h'=>h'.1▸h'.2▸?_
 intro A s am fr
 have O:(backTo pos (starEach [e] F.env)).any (·.1)=false:=mi λy hy=>aF.mp hy▸hs
 refine callWith_builtin O ?_
 rw[ni hs]
 refine evalArgs_plain ?_
 show wpAny _ _ (eval e F.env>>=λv=>(pure [v]:Sem LU)>>=λhere=>holding here (spliced (backTo pos (starEach [] F.env)))>>=λr=>pure (here++r)) _ _ _
 refine ah (az (h A s am fr) (λu s₂ z=>z.casesOn λ{σ₂}s1 z=>z.casesOn λ{x M as μ}g st r U=>?_) λ_ _ x=>x)
 refine ah (aw (ah (aY (spliced_none (aw ?_)))))
 exact U.elim λxs U=>Ff (p:=⟨as,μ,σ₂⟩) st (am.on s1) (.inl U.1) U.2.1 r λt s' e1 e2 e3=>⟨s1.trans ⟨e1▸(am.on s1).rep,e1▸.refl _ _ _,e2,e3⟩,.mk (x:=.sh (.int xs.length)) g st rfl U.2.2⟩
inductive uF(i m:Nat)(c:Int)(K:KT)(E:Ev)(M:LB):Prop
|mk {v u xs}:E[i]?=some (some v)->kb M v m=some u->view M u=some (.list xs)->xs.length<=mx->K (.sh (.bool (decide ((xs.length:Int)=c)))) M->uF i m c K E M
theorem Wc{i m:Nat}{c:Int}{K:KT}{U:Str}{f:Expr}{lp ap cp kq pos:Pos}{kk:Nat}(en:jx G F)(hl:F.S.names[i]?=some U)(hf:ip F.S (.bi .len) f=true)(er:eC q E ρ)(sto:c5 q M)(hx:uF i m c K E M):
 Tr G F ρ q.σ (eval (.Compare (.Call f [.Attribute (.Name U lp) (nm m) ap] [] cp) [.Eq] [.Constant (.int c) kk kq] pos) F.env) (Got RV q K) (λ_=>False):=by
 refine hx.casesOn λ{v u O}x1 x2 x3 x4 x5=>?_
 rw[eval_Compare1,markedBehindIn_of_false rfl]
 refine Tr.bind (Wd (K:=λx M'=>x=.sh (.int (O.length:Nat))/\M'=M) en hf rfl ?_) λv σ₁ h=>?_
 ·show Tr G F ρ q.σ (eval (.Name U lp) F.env>>=λo=>standAt ap.atName>>=λ_=>holding [o] (getAttr o (nm m) true)>>=λr=>letTemporaryGo (.Name U lp) o r>>=λ_=>pure r) _ _
  exact Tr.bind (IK (Q:=λv' σ=>σ=q.σ/\cM q v (cv v')) en.ok hl (er.at_ i v x1) λz r=>⟨rfl,r⟩) λo σ₁ h=>h.1▸Tr.standAt (Tr.bind (Tr.holding (CM sto x2 h.2 ⟨O,x3,x4,rfl,rfl⟩)) λz σ₁ h=>Tr.letGo (Tr.pure h))
 ·refine h.casesOn λ{x M₁ as μ}g st r e=>?_
  have r:cM ⟨as,μ,σ₁⟩ (.sh (.int (O.length:Nat))) (cv v):=e.1▸r
  refine Tr.bind (R:=λv σ=>σ=σ₁/\cM ⟨as,μ,σ₁⟩ (.sh (.int c)) (cv v)) (Tr.holding (Tr.same λ_ _ _ _=>wpAny_mkInt ⟨rfl,rfl,rfl,rfl,rfl⟩)) λv σ₂ h=>h.1▸?_
  exact Tr.standAt (Tr.operate ((rL (p:=⟨as,μ,σ₁⟩) (K:=λb=>b=decide ((O.length:Int)=c)) (x:=.sh (.int (O.length:Nat))) (y:=.sh (.int c)) st (.v rfl rfl) r h.2).mono λv σ' t=>t.casesOn λ{b}h=>.mk (x:=.sh (.bool b)) g st rfl (h▸e.2▸x5)))
theorem TM{b:List CS}{i m:Nat}{c:Int}(hpe:exmOne G.K (.ref G.C) (.ref G.C)=some true)(h:Run G k n b E M ⟨λE' M'=>Run G k n r E' M' P,P.brk,P.ret,uF i m c P.ret⟩):Run G k n (.Zj b i m c::r) E M P:=i3 λF A σ₀ s₀ outer p₀ p ρ l st a hk s stt=>by
 refine Wi st hk λb' t y hp pos hk=>?_
 have hk:=cN hk
 have h2:=cN hk.1
 refine oC t h2.1 λx xp hx=>?_
 refine G7 y h2.2 λe rp hr=>?_
 refine Pa e hr λf ln lp ap cp kk kq p2 hf hl=>?_
 have g0:=a.en.E.gl _ _ hx
 have rm:=stt.Z6.room
 refine wpAny_Try_except (az (h l b' a hk.2 s stt) (λfl s' x=>x.casesOn λ{σ' ρ'}U pk q=>?_) λe s' xx=>Nu a.en xx λea σ' ρ' s' he L hX=>he▸hX.casesOn (motive:=λρ' σ' _=>mz G F outer σ₀ s₀ ea σ' ρ' s'->wpAny _ _ _ _ _ _) (λ{E M q ρ}g sto er hX L=>?_) L)
 ·revert U pk
  refine q.casesOn (λg sto er h U pk=>?_) (λg sto er h U pk=>?_) λg sto r h U pk=>?_
  ·exact wpAny_execs_nil ⟨U,pk,.next (P:=P.then G k n r) g sto er h⟩
  ·exact fD.mk U pk (.brk (P:=P.then G k n _) g sto er h)
  ·exact fD.mk U pk (.ret (P:=P.then G k n _) g sto r h)
 ·have am:=(L.stt a.en rm (hv:=none)).Z6
  refine wpAny_handleBy_cons (codeAny_handlers_test ?_) (λq=>nomatch q)
  refine g0.2.2.casesOn (λ{v}e1 e2=>?_) λ_ _ q=>cR q
  refine Name_function_global a.en.E.ok.kind g0.1 (loadGlobal_global (a.en.E.ok.globals▸G.g.keeps am.st) (e1.trans (aj some e2)) ?_) g0.2.1
  refine exm_one (cls:=.ref G.C) (h:=s'.heap) am.K ?_ hpe _ _ _ _ (λ_ _ q=>q) ?_
  ·refine L.casesOn λhf _ _ _=>hf.there.elim λoe h=>?_
   have:=(Looks.ld (M:=model G.prog G.w) h.1 (part:=none)).andThen (f:=λo=>pure o.cls) .now
   rw[h.2] at this
   exact this
  ·refine codeAny_handlers_suite (L.again λh₅ L₅=>wpAny_noRaise (wpAny_execs_cons ?_))
   have st₅:=L₅.stt a.en rm (hv:=some (.ref ea))
   rw[exec_Return_some]
   refine ah (bG (ah (az (Wc (F:=F.Zb) (q:=q) ⟨a.env.ok,a.env.gl,a.env.tab,a.env.cells⟩ hl hf er sto hX _ _ st₅.Z6 st₅.fr) (λr s₆ z=>z.casesOn λ{σ₆}s1 h=>h.casesOn λ{x M₁ as μ}g' U r' k'=>?_) λ_ _ e=>e.casesOn λ_ _ _ _ f=>f)))
   have O:=st₅.step s1
   exact aw (fD.mk (fl:=.ret r) (P:=hW p₀ (P.then G k n _)) ⟨⟨rm,stt.Z6.hd,O.Z6.l0,O.Z6.fr,O.Z6.st,O.Z6.rep⟩,O.st,O.fr⟩ trivial (.ret (q:=⟨as,μ,σ₆⟩) (g.trans g') U r' k'))
end
noncomputable def Mm(ns:List (Str×NameKind)):LQ:=(ns.filter λx=>x.2=.cell).map (·.1)
def gw(gtab:Str->Option GV)(sc:Scope)(pen:Option Nat):SC:={names:=d7 sc.names,gl:=xW gtab sc.names,gtab:=gtab,pen:=pen,cells:=Mm sc.names}
structure Ct(sc:Scope):Prop where
kind:sc.kind=.function
co:sc.isCoroutine=false
gen:sc.isGenerator=false
nodup:(sc.names.map (·.1)).Nodup
plain:∀x∈d7 sc.names,(x==("__classdict__":Str))=false/\(x==("__debug__":Str))=false
def nH(G:Gd)(gtab:Str->Option GV):Prop:=∀x g,gtab x=some g->(x==("__debug__":Str))=false/\pA G x g
section
theorem G9{x n:Str}{v:Value}{r:List (Str×Value)}{o:Option Value}:(((n,v)::r).reverse.lookup x).or o=(r.reverse.lookup x).or (if x=n then some v else o):=by
 rw[List.reverse_cons,List.lookup_append,Option.or_assoc]
 by_cases e:x=n
 ·rw[e,oH,al rfl];rfl
 ·rw[oK e,av e];rfl
theorem CU{k:Str->Option NameKind}(binds:List (Str×Value)):∀(m:Str->Option Value)(x:Str),k x=some .local->bindL k binds m x=(binds.reverse.lookup x).or (m x):=by
 induction binds with
 |nil=>exactλ_ _ _=>rfl
 |cons b r O=>
  intro m x hk
  show bindL k r _ x=_
  rw[O _ x hk,show b::r=(b.1,b.2)::r from rfl,G9]
  by_cases hn:k b.1=some .local
  ·rw[al hn]
  ·rw[av hn,av λe:x=b.1=>hn (e▸hk)]
theorem Ka{k:Str->Option NameKind}(binds:List (Str×Value)):∀(m:Str->Option Value)(x:Str),k x≠some .local->bindC k binds m x=(binds.reverse.lookup x).or (m x):=by
 induction binds with
 |nil=>exactλ_ _ _=>rfl
 |cons b r O=>
  intro m x hk
  show bindC k r _ x=_
  rw[O _ x hk,show b::r=(b.1,b.2)::r from rfl,G9]
  by_cases hn:k b.1=some .local
  ·rw[al hn,av λe:x=b.1=>hk (e▸hn)]
  ·rw[av hn]
theorem xn(x:Str)(ns:List (Str×NameKind)):∀(n:Nat)(acc:List (Str×Addr)),(x,NameKind.cell)∈ns∨(acc.lookup x).isSome=true->((cellsFrom n ns acc).lookup x).isSome=true:=by
 induction ns with
 |nil=>exactλn acc h=>h.elim (λh=>dh h) λh=>h
 |cons y r O=>
  intro n acc h
  show(List.lookup x (if y.2==NameKind.cell then cellsFrom (n+1) r ((y.1,n)::acc) else cellsFrom n r acc)).isSome=true
  by_cases hk:(y.2==NameKind.cell)=true
  ·rw[al hk]
   refine O _ _ ?_
   by_cases e:x=y.1
   ·exact .inr (e▸oH▸rfl)
   ·rw[oK e]
    exact h.imp_left λh=>(aM.mp h).elim (λq=>(e (aj Prod.fst q)).elim) λq=>q
  ·rw[av hk]
   exact O _ _ (h.imp_left λh=>(aM.mp h).elim (λq=>(hk (by rw[←q];rfl)).elim) λq=>q)
end
inductive Binds(K:Frag)(fd:FuncData)(vals:LU)(ρ:List CV):Prop
|mk {binds}:(∀S,peek K S (bindArgs fd ⟨vals,[]⟩)=some binds)->(∀b∈binds,b.1∈d7 fd.scope.names)->(d7 fd.scope.names).map (λx=>me (binds.reverse.lookup x))=ρ->Binds K fd vals ρ
structure nC(G:Gd)(f:Nat)(oc:Value)(od:Option Addr)(osl:Array (Option Value))(fd:FuncData)(body:List Stmt):Prop where
at_:G.K.lookup f=some ⟨oc,od,.func fd,osl⟩
body:fd.body=.stmts body
glob:fd.globals=mainGlobals
bi:fd.builtins=builtinsNs
code:codeIn G.K fd.code fd.qualname=true
sc:Ct fd.scope
section
variable{G:Gd}{A:Around}{σ:H}{s s₁:Shared}{gtab:Str->Option GV}{f:Nat}{oc:Value}{od:Option Addr}{osl:Array (Option Value)}{fd:FuncData}{body:List Stmt}{d:Nat}{l:List Env}{env:Env}{pen:Option Nat}{binds:List (Str×Value)}
structure mB(s s₁:Shared)(fd:FuncData)(env:Env)(m:Str->Option Value):Prop where
ic:InCall s env.locals m s₁
sc:env.scope=fd.scope
loc:env.locals=s.heap.objs.size
Zv:env.frame=some env.locals
glob:env.globals=mainGlobals
bi:env.builtins=builtinsNs
structure lJ(s s₁:Shared)(fd:FuncData)(env:Env)(binds:List (Str×Value)):Prop extends mB s s₁ fd env (bindL env.kindOf binds λ_=>none) where
x:InCallC s env.locals (bindL env.kindOf binds λ_=>none) env.cells (bindC env.kindOf binds λ_=>none) s₁
cells:env.cells=cellsFrom (s.heap.objs.size+1) fd.scope.names []
theorem mB.kind{m:Str->Option Value}(n:mB s s₁ fd env m)(y:Str):env.kindOf y=fd.scope.names.lookup y:=by unfold Env.kindOf;rw[n.sc]
theorem mB.fL{m:Str->Option Value}(n:mB s s₁ fd env m):s.heap.get? env.locals=none:=ky (n.loc▸ao _)
theorem lJ.fC(n:lJ s s₁ fd env binds){y:Str}{c:Addr}(h:env.cells.lookup y=some c):s.heap.objs.size<=c:=aH (n.loc▸n.x.above y c (mem_lookup h))
theorem lJ.Zg(n:lJ s s₁ fd env binds)(ok:nC G f oc od osl fd body)(gt:nH G gtab):jx G ⟨env,gw gtab fd.scope pen,d,true⟩:=by
 refine⟨⟨n.sc▸ok.sc.kind,n.glob,n.bi⟩,λy g O=>?_,gt,λy O=>?_⟩
 ·have h:=xY O
  exact⟨(n.kind y).trans (gU ok.sc.nodup h.1),gt _ _ h.2⟩
 ·obtain ⟨k,U,h2⟩:=(qu (p:=λk=>k=.cell)).mp O
  have U:(y,NameKind.cell)∈fd.scope.names:=h2▸U
  exact⟨.inl ((n.kind y).trans (gU ok.sc.nodup U)),Option.isSome_iff_exists.mp (n.cells▸xn y _ _ _ (.inl U))⟩
theorem lJ.cell(n:lJ s s₁ fd env binds){y:Str}(h:(y,NameKind.cell)∈fd.scope.names):∃c,env.cells.lookup y=some c:=Option.isSome_iff_exists.mp (n.cells▸xn y _ _ _ (.inl h))
theorem mB.Z6{m:Str->Option Value}(n:mB s s₁ fd env m)(ok:nC G f oc od osl fd body)(am:c8 G true (d+2) A σ s.heap)(hl:A.frames=some l):c8 G true (d+1) (A.deeper env) σ s₁.heap:=by
 have kp:eD G.base σ s.heap σ s₁.heap:=.same n.ic.keep
 have O:=am.step kp (am.rep.keeps n.ic.keep)
 have nL:¬own σ env.locals:=am.rep.ZJ (n.loc▸ao _)
 obtain ⟨o,es,ep,ho,hd,_⟩:=n.ic.ns
 refine⟨⟨?_,?_⟩,λ_=>am.hd rfl,⟨_,Around.frames_deeper hl⟩,λl' hl'=>?_,O.st,O.rep⟩
 ·have:=am.room.depth
  show A.depth+1+4*(d+1)<recursionLimit
  lia
 ·have:=am.room.units
  show A.units+3+20*(d+1)+100<cLine
  lia
 ·cases aq ((Around.frames_deeper hl).symm.trans hl')
  have U:=O.fr l hl
  refine⟨⟨by rw[n.sc,ok.sc.kind];decide,⟨env.locals,o,n.Zv,am.ZE n.fL,ho,λvs q=>Gs hd q⟩,U.ff⟩,λe he L hL=>(aM.mp he).elim (λq=>?_) λhe=>U.out e he L hL⟩
  exact aq (n.Zv.symm.trans (q▸hL))▸⟨nL,ho,hd⟩
theorem lJ.frame{ρ:List CV}(n:lJ s s₁ fd env binds)(ok:nC G f oc od osl fd body)(am:c8 G true (d+2) A σ s.heap)(U:(d7 fd.scope.names).map (λx=>me (binds.reverse.lookup x))=ρ):d5 G.base env (d7 fd.scope.names) s₁.heap σ ρ:=by
 have nd:=ok.sc.nodup
 refine⟨U▸(ag _).symm,λi y r hy hr=>?_,⟨_,n.x.toInCall.ns⟩,am.rep.ZJ (n.loc▸ao _),am.ZE n.fL,λy c hk O=>?_,λy z c h1 h2=>name_of_addr n.x.apart (mem_lookup h1) (mem_lookup h2),nd.sublist (List.Sublist.map _ b0),ok.sc.plain⟩
 ·rw[←U,aA,hy] at hr
  refine aq hr▸(qt.mp (ax hy)).elim (λq=>?_) λq=>?_
  ·have hk:env.kindOf y=some .local:=(n.kind y).trans (gU nd q)
   exact .loc hk n.x.toInCall.ns (aj me ((CU _ _ _ hk).trans (Option.or_none)))
  ·have hk:env.kindOf y=some .cell:=(n.kind y).trans (gU nd q)
   obtain ⟨c,O⟩:=n.cell q
   obtain ⟨o,ho,hd⟩:=n.x.cell y c O
   exact .cell (.inl hk) O ho hd (aj me ((Ka _ _ _ (hk▸λe=>nomatch e)).trans (Option.or_none)))
 ·obtain ⟨o,ho,hd⟩:=n.x.cell y c O
  exact⟨am.rep.ZJ (n.fC O),am.ZE (ky (n.fC O)),ho,hd⟩
theorem ND{p:Pt}{E:Ev}{M:LB}{cs:List CS}{args ρ:List CV}{m:Nat}{K:KT}{X:XT}(gt:nH G gtab)(ok:nC G f oc od osl fd body)(clo:fd.closure=[])(hk:lX m (gw gtab fd.scope pen) cs body=true)
 (hb:∀vals:LU,vals.map cv=args->Binds G.K fd vals ρ) (U:c5 p M) (er:eC p E ρ) (hw:Run G d M.length cs E M ⟨λ_ M'=>K (.sh .none) M',λ_ _=>False,K,λ_ M'=>X M'⟩):
 jZ G (d+2) (.ref f) args p.σ (Got RC p K) (dk p X):=by
 intro A s vals am hvals
 refine(hb vals hvals).casesOn λ{binds}hpeek hbl hρ=>?_
 have hK:=am.K
 refine codeAny_call_function (o:=⟨oc,od,.func fd,osl⟩) am.room.Zh (hK _ _ ok.at_) rfl ok.sc.co ok.sc.gen ok.body (codeRec_of hK ok.code) ?_
 refine kp_binds hK hpeek _ _ _ _ ?_
 rw[clo]
 refine wpAny_newFunctionEnv_cells ok.sc.kind (λb hb=>(qt.mp (hbl b hb)).imp (gU ok.sc.nodup) λq=>⟨gU ok.sc.nodup q,xn _ _ _ _ (.inl q)⟩) λenv he s₁ x=>?_
 have n:lJ s s₁ fd env binds:=⟨⟨x.toInCall,(he▸rfl),(he▸rfl),(he▸rfl),(he▸ok.glob),(he▸ok.bi)⟩,x,(he▸rfl)⟩
 clear he
 obtain ⟨l,hl⟩:=am.l0
 obtain ⟨h₁,tk,e₁⟩:=x.toInCall.same
 have fx:Fx s s₁:=(e₁▸⟨rfl,rfl⟩)
 have st:dB G ⟨env,gw gtab fd.scope pen,d,true⟩ (A.deeper env) p.σ s p.σ ρ s₁:=⟨n.Z6 ok am hl,⟨am.rep.keeps x.toInCall.keep,.same x.toInCall.keep,fx⟩,n.frame ok am hρ⟩
 have en:jb G ⟨env,gw gtab fd.scope pen,d,true⟩ (A.deeper env) p.σ s l:=by
  refine⟨n.Zg ok gt,Around.frames_deeper hl,n.Zv,.of n.fL,λy hy=>(qt.mp hy).elim (λq=>.loc ((n.kind y).trans (gU ok.sc.nodup q))) λq=>?_,(am.fr l hl).out⟩
  exact(n.cell q).elim λc hc=>.cell ((n.kind y).trans (gU ok.sc.nodup q)) hc (.of (ky (n.fC hc)))
 refine⟨am.nolimit.keeps x.toInCall.keep,codeAny_func (az (hw m body ⟨⟨n.Zg ok gt,rfl,rfl,U,er⟩,en,U.len,.refl p⟩ hk s₁ st) (λfl s' x=>?_) λe s' xx=>?_)⟩
 ·refine x.casesOn λ{σ' ρ'}O pk q=>?_
  revert O
  clear pk
  refine q.casesOn (λ{E M q ρ}g U er h O=>.ret O.st (.mk (x:=.sh .none) (as:=q.as) (μ:=q.μ) g U rfl h)) (λ_ _ _ h _=>h.elim) λ{x v M q ρ}g U r h O=>.ret O.st (.mk (as:=q.as) (μ:=q.μ) g U r h)
 ·exact DE en hl (xx.imp (X':=λ_ σ'=>dk p X σ') λρ' σ' y=>y.casesOn λ{E M q ρ}g U er h=>.mk (as:=q.as) (μ:=q.μ) g U h) λh'' hx=>.exc hx
noncomputable def tv(c:CV):Option cJ:=CV.casesOn c none (some (.sh .none)) (λb=>some (.sh (.bool b))) (λi=>some (.sh (.int i))) (λs=>some (.sh (.str s))) (λ_=>none) λ_=>none
def gg(G:Gd)(f:Nat)(cs:List CS)(na:Nat)(tail:List CV):Prop:=
 ∀{vs:LV}{d:Nat}{M:LB}{K:KT}{X:XT},vs.length=na->Run G d M.length cs (vs.map some++tail.map tv) M ⟨λ_ M'=>K (.sh .none) M',λ_ _=>False,K,λ_ M'=>X M'⟩->Fn G (d+2) f vs M K X
theorem Wm{p:Pt}{c:CV}{v:cJ}(h:tv c=some v):cM p v c:=by
 cases c with
 |Z8=>exact cR h
 |ref=>exact cR h
 |other=>exact cR h
 |_=>exact aq h▸rfl
theorem Nl{p:Pt}{tail:List CV}:eC p (tail.map tv) tail:=by
 refine⟨ag _,λi v hi=>?_⟩
 rw[aA] at hi
 obtain ⟨c,U,O⟩:=oM hi
 exact⟨U,Wm O⟩
theorem Dy{p:Pt}{tail:List CV}{vs:LV}:∀{cs:List CV},Rel2 (cM p) vs cs->eC p (vs.map some++tail.map tv) (cs++tail):=by
 induction vs with
 |nil=>exactλr=>(show _=[] from r)▸Nl
 |cons v vs O=>
  intro cs r
  refine eV.casesOn (motive:=λcs _=>eC p ((v::vs).map some++tail.map tv) (cs++tail)) r λ{c cs}hc hr=>?_
  have i:=O hr
  refine⟨aj Nat.succ i.len,λj u U=>?_⟩
  cases j with
  |zero=>exact⟨rfl,aq (aq U)▸hc⟩
  |succ j=>exact(i.at_ j u U).casesOn λa b=>⟨a,b⟩
theorem NM{cs:List CS}{na m:Nat}{tail:List CV}(gt:nH G gtab)(ok:nC G f oc od osl fd body)(clo:fd.closure=[])(hk:lX m (gw gtab fd.scope pen) cs body=true)(hb:∀vals:LU,vals.length=na->Binds G.K fd vals (vals.map cv++tail)):gg G f cs na tail:=by
 intro vs d M K X hl hw p cs U O
 refine ND (ρ:=cs++tail) gt ok clo hk (λvals e=>e▸hb vals ?_) U (Dy O) hw
 exact(ag _).symm.trans ((aj List.length e).trans (O.len.trans hl))
end
end
section
variable{prog:Program}{w:World}{A:Around}{E:Value->Shared->Prop}{h:Heap}{g:Array GenState}{d:Drawn}{t:Nat}{os:OsState}
variable{nm q:Str}{C N:Addr}{bs bm:LU}{hdct:Bool}{sn:LQ}{sub:LU}{ab:Bool}{col:Option Bool}{dd:Option Addr}{k0 k1 k2 k3 k5:Option Value}
theorem Th(hB:(Value.ref C::bm).contains (.type "Exception")=true){rest:LU}{Q:Unit->Shared->Prop}(O:h.get? C=some (excClassObj nm q C N bs bm hdct sn sub ab col dd k0 k1 k2 k3 k5 "Exception.__new__"))
 (hq:Q () ⟨h,g,d,t,os⟩):wpAny (model prog w) A (checkBuiltinCall "Exception.__new__" ⟨.ref C::rest,[]⟩) Q E ⟨h,g,d,t,os⟩:=by
 have F:=PySem.F.excBase_Exception
 have U:=F.noStar
 simp only[checkBuiltinCall,F.newKind,F.newSplit,F.newRow]
 repeat (first|refine cm O ?_|(refine wpAny_isSubtype_exc O ?_;rw[hB])|refine wpAny_staticBase_exc O ?_|refine wpAny_madeBy_exc O ?_|simp only[bne_self_eq_false,Bool.false_eq_true,if_false]|wp_step)
 exact hq
theorem To(hB:(Value.ref C::bm).contains (.type "Exception")=true)(hA:(Value.ref C::bm).contains (.type "AttributeError")=false)(hN:(Value.ref C::bm).contains (.type "NameError")=false)
 {rest:LU} {R:Result->Shared->Prop} (O:h.get? C=some (excClassObj nm q C N bs bm hdct sn sub ab col dd k0 k1 k2 k3 k5 "Exception.__new__"))
 (hq:R (.ok (.ret (.ref (h.objs.size+1)))) ⟨(h.push {cls:=.type "tuple",data:=.seq rest.toArray}).push {cls:=.ref C,data:=.fields #[.ref h.objs.size,.none,.none,.none,.bool false,.none]},g,d,t,os⟩) (U:rest.length<=sizeLine):
 codeAny (model prog w) A (.builtin "Exception.__new__" ⟨.ref C::rest,[]⟩) R ⟨h,g,d,t,os⟩:=by
 have F:=PySem.F.excBase_Exception
 have hends:=F.ends
 refine codeAny_builtinAt F.entry ?_
 unfold Builtin.«BaseException.__new__»
 refine PySem.wpAt_bind ?_
 show PySem.wpAt _ _ _ (stack>>=_) _ _ _
 refine PySem.wpAt_bind (PySem.wpAt_stack λp below=>PySem.wpAt_of_wpAny ?_)
 wp_walk
 refine PySem.wpAt_of_wpAny ?_
 rw[F.owner]
 repeat (first|with_reducible refine wpAny_madeHere_exc F.canon O ?_|with_reducible refine cm O ?_|(with_reducible refine wpAny_isSubtype_exc O ?_;first|rw[hB]|rw[hA]|rw[hN])|wp_step)
 show R _ _
 rw[Heap.size_push]
 exact hq
theorem Tu{K:Frag}{fI:Addr}{oI:Obj}(X:K.In h)(hi:findIn K (.ref C) "__init__"=some (some (.ref fI)))(hfI:h.get? fI=some oI)(hfc:oI.cls=.type "function")
 (hB:(Value.ref C::bm).contains (.type "Exception")=true) (hA:(Value.ref C::bm).contains (.type "AttributeError")=false) (hN:(Value.ref C::bm).contains (.type "NameError")=false)
 {rest:LU} {Q:Fin->Shared->Prop} (hC:h.get? C=some (excClassObj nm q C N bs bm hdct sn sub ab col dd k0 k1 k2 k3 k5 "Exception.__new__"))
 (hq:∀h' e,Heap.MadeExcOf h h' e (.ref C) rest->wpAny (model prog w) A (call (.ref fI) (.ref e::rest)) (λr s'=>r=.none/\Q (.done (.ret (.ref e))) s') E ⟨h',g,d,t,os⟩) (hrest:rest.length<=sizeLine):
 wpAny (model prog w) A (Builtin.«type.__call__» ⟨.ref C::rest,[]⟩) Q E ⟨h,g,d,t,os⟩:=by
 have F:=PySem.F.excBase_Exception
 repeat (first|with_reducible refine cm hC ?_|with_reducible refine wpAny_madeBy_exc hC ?_|wp_step)
 refine codeAny_call_builtin_code (Code.quiet_builtin _ F.quiet) (Th hB hC ?_)
 refine To hB hA hN hC ?_ hrest
 show wpAny _ _ _ _ _ _
 have k1:∀b o,h.get? b=some o->((h.push {cls:=.type "tuple",data:=.seq rest.toArray}).push {cls:=.ref C,data:=.fields #[.ref h.objs.size,.none,.none,.none,.bool false,.none]}).get? b=some o:=λb o hb=>bt _ (bt _ hb)
 have hC₁:=k1 _ _ hC
 have O:=k1 _ _ hfI
 have U:((h.push {cls:=.type "tuple",data:=.seq rest.toArray}).push
  {cls:=.ref C,data:=.fields #[.ref h.objs.size,.none,.none,.none,.bool false,.none]}).get? (h.objs.size+1)=some
  {cls:=.ref C,data:=.fields #[.ref h.objs.size,.none,.none,.none,.bool false,.none]}:=by heap_get
 have hcC:(Value.ref C::bm).contains (.ref C)=true:=by simp
 unfold isInstance
 repeat (first|with_reducible refine cm U ?_|(with_reducible refine wpAny_isSubtype_exc hC₁ ?_;rw[hcC])|wp_step)
 show wpAny _ _ (typeLookup (.ref C) _) _ _ _
 refine looks_findIn (M:=model prog w) X hi _ _ _ _ k1 ?_
 refine aY (ah ?_)
 unfold bindSpecial
 refine ah (wpAny_typeOf (T:="function") ⟨_,O,hfc⟩ ?_)
 rw[al dQ]
 refine aw (ah (az (hq _ (h.objs.size+1) ⟨k1,Heap.get?_none_of_le (aU _),h.objs.size,U,Heap.get?_none_of_le (ao _),?_⟩) (λr s' hr=>?_) λ_ _ x=>x))
 ·exact bt _ (Heap.get?_push_at rfl rfl)
 ·obtain ⟨rfl,hQ⟩:=hr
  wp_walk
  exact hQ
end
structure rA(K:Frag)(C:Addr)(cd:ClassData):Prop where
cls:clsIn K C=some cd
ne:cd.mro.isEmpty=false
obj:cd.mro.contains (.type "object")=true
pass:∀self:Value,refuseLoop self "__setattr__" cd.mro=pure ()
open Builtin.ObjectAttr in
theorem GN{prog:Program}{w:World}{A:Around}{K:Frag}{R:Result->Shared->Prop}{x C:Addr}{cd:ClassData}{ox:Obj}{od:Option Obj}{name:Str}{tk:Tok}{v:Value}{s:Shared}(X:K.In s.heap)(I:InstAt s.heap x ox C od)(ov:rA K C cd)(ht:takerIn K C name=some none)
 (h:∀b,wpAny (model prog w) A.in1 (storeInOwnDict (.ref x) (.ref C) (.str name tk) name v b) (λfin s'=>match fin with| .done f=>R (.ok f) s'| .again c'=>c'.quiet=true/\codeAny (model prog w) A c' R s') (λe s'=>R (.error e) s') s):
 codeAny (model prog w) A (.call (.builtin "object.__setattr__") ⟨[.ref x,.str name tk,v],[]⟩) R s:=by
 have F:=PySem.F.store_object
 have O:Looks (model prog w) s.heap (isInstance (.ref x) (.type "object")) true:=I.type.andThen (looks_mroIn X (by unfold mroIn;rw[ov.cls,Option.bind_some,av (by rw[ov.ne];decide),ov.obj]))
 refine codeAny_call_builtin F.slot.plain F.entry (@check_slot (model prog w) _ _ s "object.__setattr__" "object" "__setattr__" (.ref x) [.str name tk,v] [] _ F.kind F.split O (F.args (.ref x) (.str name tk) v) ?_)
 obtain ⟨attr,U,taker⟩:=Option.bind_eq_some_iff.mp ht
 have said:Looks (model prog w) s.heap (storeTaker? attr) none:=by
  cases attr with
  |none=>exact .now
  |some a=>
   obtain ⟨b,hb,e⟩:=Option.map_eq_some_iff.mp taker
   refine(looks_takesIn X hb).andThen ?_
   cases b with
   |true=>exact iP e
   |false=>exact .now
 rw[osa_eq,refuse_eq]
 refine ah (ah (I.type.here (ah (((looks_clsIn X ov.cls).andThen .now:Looks (model prog w) s.heap (mroOf (.ref C)) cd.mro).here ?_))))
 rw[ov.pass]
 exact aw (ah (I.type.here (ah ((looks_findIn X U).here (ah (said.here (h _)))))))
section
variable{prog:Program}{w:World}{A:Around}{E:Value->Shared->Prop}{h:Heap}{g:Array GenState}{d:Drawn}{t:Nat}{os:OsState}
variable{nm q:Str}{C N:Addr}{bs bm:LU}{hdct:Bool}{sn:LQ}{sub:LU}{ab:Bool}{col:Option Bool}{dd:Option Addr}{k0 k1 k2 k3 k5:Option Value}
theorem Tg{K:Frag}{fI:Addr}{oI:Obj}(X:K.In h)(hi:findIn K (.ref C) "__init__"=some (some (.ref fI)))(hfI:h.get? fI=some oI)(hfc:oI.cls=.type "function")
 (hB:(Value.ref C::bm).contains (.type "Exception")=true) (hA:(Value.ref C::bm).contains (.type "AttributeError")=false) (hN:(Value.ref C::bm).contains (.type "NameError")=false)
 {rest:LU} {Q:Value->Shared->Prop} (O:h.get? C=some (excClassObj nm q C N bs bm hdct sn sub ab col dd k0 k1 k2 k3 k5 "Exception.__new__"))
 (hq:∀h' e,Heap.MadeExcOf h h' e (.ref C) rest->wpAny (model prog w) (A.under (.builtin "type.__call__" ⟨.ref C::rest,[]⟩)) (call (.ref fI) (.ref e::rest)) (λr s'=>r=.none/\Q (.ref e) s') E ⟨h',g,d,t,os⟩) (U:rest.length<=sizeLine):
 wpAny (model prog w) A (call (.ref C) rest) Q E ⟨h,g,d,t,os⟩:=by
 have f1:=tc_lookup
 have f2:=tc_bind (.ref C)
 have hT:(⟨h,g,d,t,os⟩:Shared).TypeIs (.ref C) "type":=⟨_,O,rfl⟩
 refine wpAny_call (codeAny_of_tree ?_)
 show wpAny _ _ (callAny (.ref C) _) _ _ _
 repeat (any_goals (first|assumption|with_reducible refine cm O ?_|wp_step))
 refine⟨rfl,?_⟩
 refine codeAny_call_builtin_at (Code.quiet_builtin _ (by decide+kernel)) entry_typeCall (wpAny_check_type_call_sub O (Tu X hi hfI hfc hB hA hN O (λh' e hm=>?_) U))
 exact hq h' e hm
theorem G1{M:Model}{A:Around}{E:Value->Shared->Prop}{dx:Addr}{name:Str}{tk:Tok}{v:Value}{s:Shared}{es:List DictEntry}{n:Nat}{Q:Fin->Shared->Prop}(hd:s.heap.get? dx=some (PySem.W.dictOf es n))(hk:∀e∈es,e.refKey=false)(hz:es.length<=900)
 (h:∀h',Heap.SameBut dx s.heap h'->(∃U,h'.get? dx=some (PySem.W.dictOf (putL name (PyData.keyHash M.w.params name) (.str name s.toks) v es) U))->Q (.done (.ret .none)) {s with heap:=h',toks:=s.toks+1}):
 wpAny M A (Builtin.ObjectAttr.storeInDict dx (.str name tk) name v) Q E s:=by
 unfold Builtin.ObjectAttr.storeInDict
 refine ah (aw (ah ?_))
 unfold nsSet
 refine ah (ah (wpAny_askSetting (aw (ah (wpAny_mkText (ah (wpAny_loadPart hd ?_)))))))
 have c:(!es.toArray.any (·.key.isStr name)&&es.toArray.any (·.refKey))=false:=by
  have:es.toArray.any (·.refKey)=false:=by
   rw[←Array.any_toList,List.any_eq_false];intro e he;rw[hk e he];exact Bool.false_ne_true
  rw[this,Bool.and_false]
 dsimp only[PySem.W.dictOf]
 rw[aRefKeyMayBeTheName_at,c]
 refine wpAny_updatePart hd ?_
 have O:(s.heap.update dx (Obj.putName name (PyData.keyHash M.w.params name) (.str name s.toks) v)).get? dx=some (PySem.W.dictOf (putL name (PyData.keyHash M.w.params name) (.str name s.toks) v es) (putN name es n)):=by
  have:=cy (Obj.putName name (PyData.keyHash M.w.params name) (.str name s.toks) v) hd (by rw[putName_dict];rfl)
  rw[this,putName_dict]
 refine ah (wpAny_lookBehind O (pastItsLine_dict (by rw[List.size_toArray,sizeLine_eq];have:=wi name (PyData.keyHash M.w.params name) (.str name s.toks) v es;lia)) ?_)
 exact aw (h _ (Heap.SameBut.update ..) ⟨_,O⟩)
theorem Tq{K:Frag}{R:Result->Shared->Prop}{x:Addr}{vs:Array Value}{name:Str}{tk:Tok}{v:Value}{s:Shared}(X:K.In s.heap)(U:s.heap.get? x=some {cls:=.ref C,data:=.fields vs})
 (hp:∃cd,rA K C cd) (ht:takerIn K C name=some none) (hh:hasDictIn K C=true)
 (hq:∀h' dx e n,(∀b o,b≠x->s.heap.get? b=some o->h'.get? b=some o)->h'.get? x=some {cls:=.ref C,dict:=some dx,data:=.fields vs}->h'.get? dx=some (PySem.W.dictOf [e] n)->s.heap.get? dx=none->e.refKey=false->R (.ok (.ret .none)) {s with heap:=h',toks:=s.toks+1}):
 codeAny (model prog w) A (.call (.builtin "object.__setattr__") ⟨[.ref x,.str name tk,v],[]⟩) R s:=by
 obtain ⟨cd0,ov⟩:=hp
 refine GN (od:=none) X ⟨U,rfl,rfl,trivial⟩ ov ht λb=>?_
 obtain ⟨cd,hc,hcd⟩:=any_some hh
 refine ah (aw (ah (ah (wpAny_loadPart U (ah ((looks_clsIn X hc).here ?_))))))
 rw[hcd]
 have hlt:x<s.heap.objs.size:=bD U
 have h1:(s.heap.push {cls:=.type "dict",data:=.dict #[]}).get? x=some {cls:=.ref C,data:=.fields vs}:=bt _ U
 refine ah (wpAny_alloc (ah (wpAny_update h1 ?_)))
 refine aw ?_
 have O:x≠s.heap.objs.size:=bz hlt
 have hd:((s.heap.push {cls:=.type "dict",data:=.dict #[]}).update x λo=>{o with dict:=some s.heap.objs.size}).get? s.heap.objs.size=some (PySem.W.dictOf [] 0):=by
  rw[Heap.get?_update_other _ _ O];exact bY _ rfl
 have hx2:((s.heap.push {cls:=.type "dict",data:=.dict #[]}).update x λo=>{o with dict:=some s.heap.objs.size}).get? x=some {cls:=.ref C,dict:=some s.heap.objs.size,data:=.fields vs}:=cy _ h1 rfl
 refine G1 hd (λe he=>(dh he)) (aL _) λh' hs ⟨n',hd'⟩=>?_
 refine hq h' s.heap.objs.size _ n' (λb o hb ho=>?_) ?_ hd' (Heap.get?_none_of_le (ao _)) rfl
 ·rw[hs.2 b (bz (bD ho))]
  show((s.heap.push _).update x _).get? b=_
  rw[Heap.get?_update_other _ _ (Ne.symm hb)];exact bt _ ho
 ·rw[hs.2 x O];exact hx2
theorem Ts{K:Frag}{R:Result->Shared->Prop}{x dx:Addr}{vs:Array Value}{name:Str}{tk:Tok}{v:Value}{s:Shared}{e:DictEntry}{n:Nat}(X:K.In s.heap)(hx:s.heap.get? x=some {cls:=.ref C,dict:=some dx,data:=.fields vs})(hd:s.heap.get? dx=some (PySem.W.dictOf [e] n))(he:e.refKey=false)
 (hp:∃cd,rA K C cd) (ht:takerIn K C name=some none) (hh:hasDictIn K C=true)
 (hq:∀h',Heap.SameBut dx s.heap h'->R (.ok (.ret .none)) {s with heap:=h',toks:=s.toks+1}):
 codeAny (model prog w) A (.call (.builtin "object.__setattr__") ⟨[.ref x,.str name tk,v],[]⟩) R s:=by
 obtain ⟨cd0,ov⟩:=hp
 refine GN (od:=some (PySem.W.dictOf [e] n)) X ⟨hx,rfl,rfl,hd⟩ ov ht λb=>?_
 obtain ⟨cd,hc,U⟩:=any_some hh
 refine ah (aw (ah (ah (wpAny_loadPart hx (ah ((looks_clsIn X hc).here ?_))))))
 rw[U]
 refine aw ?_
 exact G1 hd (λe' O=>by cases aF.mp O;exact he) (by decide:1<=900) λh' hs _=>hq h' hs
end
section
variable{prog:Program}{w:World}{A:Around}{E:Value->Shared->Prop}{h:Heap}{g:Array GenState}{d:Drawn}{t:Nat}{os:OsState}
variable{nm q:Str}{C N:Addr}{bs bm:LU}{hdct:Bool}{sn:LQ}{sub:LU}{ab:Bool}{col:Option Bool}{dd:Option Addr}{k0 k1 k2 k3 k5:Option Value}
theorem Ti(K:Frag):findCls K (.type "Exception") (.type "type") "__init__"=some (.val (.builtin "Exception.__init__")):=by kernel_rfl
theorem Tj{K:Frag}{pl:Sem Bool}{Q:Value×LU->Shared->Prop}{s:Shared}(X:K.In s.heap)(h:Q (.builtin "Exception.__init__",[]) {s with toks:=s.toks+1}):
 wpAny (model prog w) A (getMethod (.type "Exception") "__init__" pl) Q E s:=by
 have O:opaqueClassAbove (.type "Exception")=pure none:=by unfold opaqueClassAbove;dsimp only;rw[show Manifest.isStub "Exception"=false by decide+kernel];rfl
 have ht:typeOf (.type "Exception")=pure (.type "type"):=by first|rfl|kernel_rfl
 have U:Looks (model prog w) s.heap (typeOf (.type "Exception")) (.type "type"):=Looks.of_pure ht
 have hg:findIn K (.type "type") "__getattribute__"=some (some (.builtin "type.__getattribute__")):=type_tga
 unfold getMethod specialOf
 refine ah (ah (U.here ((looks_findIn X hg).here ?_)))
 dsimp only
 rw[al canon_tga]
 refine ah (az (Q:=λv=>Q (v,[])) (E:=E) ?_ (λ_ _ z=>aw z) λ_ _ z=>z)
 have LO:Looks (model prog w) s.heap (opaqueClassAbove (.type "Exception")) none:=Looks.of_pure O
 refine cls_open X LO U hg (looks_hook X (r:=none) (by rfl)) (by show subIn K _ _=_;rfl) (Ti K) ?_
 exact aw (handed_on (by rfl) h)
theorem Te{e t0:Addr}{what:Value}{s:Shared}{Q:Value->Shared->Prop}(hB:(Value.ref C::bm).contains (.type "Exception")=true)
 (hC:s.heap.get? C=some (excClassObj nm q C N bs bm hdct sn sub ab col dd k0 k1 k2 k3 k5 "Exception.__new__"))
 (he:s.heap.get? e=some {cls:=.ref C,data:=.fields #[.ref t0,.none,.none,.none,.bool false,.none]})
 (hq:∀h' t1,(∀b o,b≠e->s.heap.get? b=some o->h'.get? b=some o)->h'.get? e=some {cls:=.ref C,data:=.fields #[.ref t1,.none,.none,.none,.bool false,.none]}->Q .none {s with heap:=h'}):
 wpAny (model prog w) A (call (.builtin "Exception.__init__") [.ref e,what]) Q E s:=by
 have F:=PySem.F.excBase_Exception
 obtain ⟨h,g,d,t,os⟩:=s
 have chk:∀{Q:Unit->Shared->Prop}{E:Value->Shared->Prop}{A:Around},Q () ⟨h,g,d,t,os⟩->wpAny (model prog w) A (checkBuiltinCall "Exception.__init__" ⟨[.ref e,what],[]⟩) Q E ⟨h,g,d,t,os⟩:=λhq=>by
  have U:=F.noStar
  simp only[checkBuiltinCall,F.initKind,F.initSplit,F.initRow]
  repeat (first|(with_reducible refine cm he ?_)|with_reducible refine cm hC ?_|(with_reducible refine wpAny_isSubtype_exc hC ?_;rw[hB])|wp_step)
  exact hq
 refine wpAny_call (codeAny_call_builtin F.init.plain F.initEntry (chk ?_))
 unfold Builtin.«BaseException.__init__»
 dsimp only
 rw[av (by simp)]
 unfold newTuple Builtin.BaseException.bexcPut
 have O:(h.push {cls:=.type "tuple",data:=.seq #[what]}).get? e=some {cls:=.ref C,data:=.fields #[.ref t0,.none,.none,.none,.bool false,.none]}:=bt _ he
 refine ah (bJ (ah (ah (wpAny_field O rfl rfl (ah (wpAny_setField O rfl (by show 0<6;decide) ?_))))) (by size_fits))
 refine wpAny_letGo (aw (hq _ h.objs.size (λb o hb ho=>?_) ?_))
 ·rw[Heap.get?_update_other _ _ (Ne.symm hb)];exact bt _ ho
 ·rw[cy _ O rfl];rfl
end
section
variable{prog:Program}{w:World}{A:Around}{E:Value->Shared->Prop}{env:Env}
variable{nm q:Str}{C N:Addr}{bs bm:LU}{hdct:Bool}{sn:LQ}{sub:LU}{ab:Bool}{col:Option Bool}{dd:Option Addr}{k0 k1 k2 k3 k5:Option Value}
theorem wk{x:Str}{p:Pos}{m:Str->Option Value}{v:Value}{s:Shared}{Q:Value->Shared->Prop}(hk:env.scope.kind=.function)(hl:env.kindOf x=some .local)(hd:(x==("__debug__":Str))=false)(hn:s.heap.Ns env.locals m)(hv:m x=some v)(h:Q v s):
 wpAny (model prog w) A (eval (.Name x p) env) Q E s:=wpAny_Name (wpAny_loadName_local hk hl hn hv h) hd
theorem Tt{K:Frag}{mg mb m:Str->Option Value}{e t0:Addr}{what:Value}{s:Shared}{p1 p2 p3 p4 p5 p6:Pos}{Q:Flow->Shared->Prop}(X:K.In s.heap)
 (hk:env.scope.kind=.function) (hl1:env.kindOf "self"=some .local) (hl2:env.kindOf "what"=some .local) (hl4:env.kindOf "Exception"=some .globalImplicit) (hi:interactive env=false)
 (hg:s.heap.Ns env.globals mg) (hb:s.heap.Ns env.builtins mb) (g1:mg "Exception"=none) (g2:mb "Exception"=some (.type "Exception"))
 (hn:s.heap.Ns env.locals m) (m1:m "self"=some (.ref e)) (m2:m "what"=some what) (hln:(p2.endLine==p5.line)=true)
 (hB:(Value.ref C::bm).contains (.type "Exception")=true) (hC:s.heap.get? C=some (excClassObj nm q C N bs bm hdct sn sub ab col dd k0 k1 k2 k3 k5 "Exception.__new__"))
 (he:s.heap.get? e=some {cls:=.ref C,data:=.fields #[.ref t0,.none,.none,.none,.bool false,.none]})
 (hq:∀h' t1 tk,(∀b o,b≠e->s.heap.get? b=some o->h'.get? b=some o)->h'.get? e=some {cls:=.ref C,data:=.fields #[.ref t1,.none,.none,.none,.bool false,.none]}->Q .next {s with heap:=h',toks:=tk}):
 wpAny (model prog w) A (exec (.Expr (.Call (.Attribute (.Name "Exception" p1) "__init__" p2) [.Name "self" p3,.Name "what" p4] [] p5) p6) env) Q E s:=by
 rw[exec_Expr env _ p6 hi rfl]
 refine ah (bG (ah ?_))
 have e0:eval (.Call (.Attribute (.Name "Exception" p1) "__init__" p2) [.Name "self" p3,.Name "what" p4] [] p5) env=(attributeBase (.Name "Exception" p1) "__init__" env (eval (.Name "Exception" p1) env)>>=λov=>standAt p2.atName>>=λ_=>
  (holding [ov] (calleeOf (methodCallForm 2 (backTo p5 (starEach [.Name "self" p3,.Name "what" p4] env)) (backToKw p5 (keywordEach [] env))) (.Name "Exception" p1) env ov "__init__"))>>=λx=>
   methodCallPos (methodCallForm 2 (backTo p5 (starEach [.Name "self" p3,.Name "what" p4] env)) (backToKw p5 (keywordEach [] env))) (.Name "Exception" p1) env p2 p5>>=λcp=>callWith cp x.1 x.2 (backTo p5 (starEach [.Name "self" p3,.Name "what" p4] env)) []):=rfl
 have hpos:methodCallPos true (.Name "Exception" p1) env p2 p5=pure p5:=by unfold methodCallPos;simp[hln]
 have O:methodCallForm 2 (backTo p5 (starEach [.Name "self" p3,.Name "what" p4] env)) (backToKw p5 (keywordEach [] env))=true:=rfl
 have U:attributeBase (.Name "Exception" p1) "__init__" env (eval (.Name "Exception" p1) env)=eval (.Name "Exception" p1) env:=rfl
 rw[e0,U,O,hpos]
 refine ah (Name_function_global hk hl4 (loadGlobal_builtin hg g1 hb g2 (ah (bG (ah (aY ?_))))) dQ)
 refine Tj X (ah (aw ?_))
 refine callWith_builtin (by rfl) ?_
 refine evalArgs_plain (spliced_cons (wk hk hl1 dQ hn m1 (spliced_cons (wk hk hl2 dQ hn m2 (spliced_nil ?_)))))
 refine Te hB hC he λh' t1 a b=>?_
 exact wpAny_dropValue (hq h' t1 _ a b)
theorem G0{x y:Str}{e:Addr}{ob:Option Obj}{ox:Obj}{v:Value}{s:Shared}{K:Frag}{m:Str->Option Value}{p1 p2 p3 p4:Pos}{Q:Flow->Shared->Prop}(X:K.In s.heap)
 (hk:env.scope.kind=.function) (O:env.kindOf "self"=some .local) (U:env.kindOf y=some .local) (hy:(y==("__debug__":Str))=false)
 (hn:s.heap.Ns env.locals m) (m1:m "self"=some (.ref e)) (m2:m y=some v) (I:InstAt s.heap e ox C ob) (hs:findIn K (.ref C) "__setattr__"=some (some (.builtin "object.__setattr__")))
 (h:codeAny (model prog w) A (.call (.builtin "object.__setattr__") ⟨[.ref e,.str x s.toks,v],[]⟩) (λr s'=>match r with| .ok (.ret _)=>Q .next s'| .ok _=>False| .error e=>E e s') {s with toks:=s.toks+1}):
 wpAny (model prog w) A (exec (.Assign [.Attribute (.Name "self" p1) x p2] (.Name y p3) p4) env) Q E s:=by
 rw[DG _ (.Name y p3) p4 (by rfl) (by rfl) rfl]
 refine ah (bG (ah (wk hk U hy hn m2 (ah ?_))))
 rw[assign_Attribute]
 refine ah (aY (wk hk O dQ hn m1 (ah (bG (ah (aY ?_))))))
 refine set_plain X I hs (codeAny_mono h λr s' z=>?_)
 cases r with
 |error e=>exact z
 |ok f=>
  cases f with
  |ret v=>exact(show wpAny (model prog w) A (release _ []) (λ_ s'=>wpAny (model prog w) A (pure Flow.next) Q E s') E s' from wpAny_release (aw z))
  |_=>exact z
end
inductive Co(K:Frag)(C:Nat):Prop
 |mk {x1 x2 N bs bm x3 x4 x5 x6 x7 x8 x9 x10 x11 x12 x13}:K.lookup C=some (excClassObj x1 x2 C N bs bm x3 x4 x5 x6 x7 x8 x9 x10 x11 x12 x13 "Exception.__new__")->(Value.ref C::bm).contains (.type "Exception")=true->
  (Value.ref C::bm).contains (.type "AttributeError")=false->(Value.ref C::bm).contains (.type "NameError")=false->(Value.ref C::bm).contains (.type "BaseException")=true->Co K C
structure uy(K:Frag)(C:Nat):Prop where
cls:Co K C
set:findIn K (.ref C) "__setattr__"=some (some (.builtin "object.__setattr__"))
over:∃cd,rA K C cd
t1:takerIn K C "what"=some none
t2:takerIn K C "at"=some none
dict:hasDictIn K C=true
inductive B9(C:Nat)(h h':Heap)(e:Nat):Prop
|mk {oe:Obj} {t:Nat}:(∀b o,h.get? b=some o->h'.get? b=some o)->h.get? e=none->h'.get? e=some oe->oe.cls=.ref C->oe.data=.fields #[.ref t,.none,.none,.none,.bool false,.none]->B9 C h h' e
theorem GD{h h':Heap}{L e:Nat}{m:Str->Option Value}(hn:h.Ns L m)(O:L≠e)(k:∀b o,b≠e->h.get? b=some o->h'.get? b=some o):h'.Ns L m:=
 let⟨o,es,ep,U,r⟩:=hn
 ⟨o,es,ep,k _ _ O U,r⟩
theorem EC{K:Frag}{h h':Heap}{e:Nat}(X:K.In h)(U:K.lookup e=none)(k:∀b o,b≠e->h.get? b=some o->h'.get? b=some o):K.In h':=λa o O=>k a o (λq=>by subst q;rw[U] at O;exact cR O) (X a o O)
section
variable{prog:Program}{w:World}{A:Around}{E:Value->Shared->Prop}{env:Env}
variable{nm q:Str}{C N:Addr}{bs bm:LU}{hdct:Bool}{sn:LQ}{sub:LU}{ab:Bool}{col:Option Bool}{dd:Option Addr}{k0 k1 k2 k3 k5:Option Value}
theorem Tf{K:Frag}{mg mb m:Str->Option Value}{e t0:Addr}{what at_:Value}{s:Shared}{p1 p2 p3 p4 p5 p6 p7 p8 p9 mZ m4 m5 m6 m7:Pos}{Q:Flow->Shared->Prop}(pe:uy K C)(X:K.In s.heap)(hKe:K.lookup e=none)(hKc:C≠e)
 (hk:env.scope.kind=.function) (hl1:env.kindOf "self"=some .local) (hl2:env.kindOf "what"=some .local) (hl3:env.kindOf "at"=some .local) (hl4:env.kindOf "Exception"=some .globalImplicit)
 (hg:s.heap.Ns env.globals mg) (hb:s.heap.Ns env.builtins mb) (g1:mg "Exception"=none) (g2:mb "Exception"=some (.type "Exception"))
 (hn:s.heap.Ns env.locals m) (hL:env.locals≠e) (m1:m "self"=some (.ref e)) (m2:m "what"=some what) (m3:m "at"=some at_) (hln:(p2.endLine==p5.line)=true)
 (he:s.heap.get? e=some {cls:=.ref C,data:=.fields #[.ref t0,.none,.none,.none,.bool false,.none]})
 (hq:∀h' oe t tk,(∀b o,b≠e->s.heap.get? b=some o->h'.get? b=some o)->h'.get? e=some oe->oe.cls=.ref C->oe.data=.fields #[.ref t,.none,.none,.none,.bool false,.none]->Q .next {s with heap:=h',toks:=tk}):
 wpAny (model prog w) A (execs [.Expr (.Call (.Attribute (.Name "Exception" p1) "__init__" p2) [.Name "self" p3,.Name "what" p4] [] p5) p6,.Assign [.Attribute (.Name "self" p7) "what" p8] (.Name "what" p9) mZ,.Assign [.Attribute (.Name "self" m4) "at" m5] (.Name "at" m6) m7] env) Q E s:=by
 refine pe.cls.casesOn λhC hB hA hN _=>?_
 have hi:interactive env=false:=by unfold interactive;rw[hk];rfl
 refine wpAny_execs_cons (Tt X hk hl1 hl2 hl4 hi hg hb g1 g2 hn m1 m2 hln hB (X _ _ hC) he λh1 t1 U a1 e1=>?_)
 have X1:K.In h1:=EC X hKe a1
 have hn1:h1.Ns env.locals m:=GD hn hL a1
 refine wpAny_execs_cons (G0 (s:={s with heap:=h1,toks:=U}) (ob:=none) X1 hk hl1 hl2 dQ hn1 m1 m2 ⟨e1,rfl,rfl,trivial⟩ pe.set ?_)
 refine Tq (s:={s with heap:=h1,toks:=U+1}) X1 e1 pe.over pe.t1 pe.dict λh2 dx en n2 a2 e2 d2 O he2=>?_
 have a12:∀b o,b≠e->s.heap.get? b=some o->h2.get? b=some o:=λb o hb ho=>a2 b o hb (a1 b o hb ho)
 have X2:K.In h2:=EC X hKe a12
 have hn2:h2.Ns env.locals m:=GD hn hL a12
 refine wpAny_execs_cons (G0 (s:={s with heap:=h2,toks:=U+1+1}) (ob:=some (PySem.W.dictOf [en] n2)) X2 hk hl1 hl3 dQ hn2 m1 m3 ⟨e2,rfl,rfl,d2⟩ pe.set ?_)
 refine Ts (s:={s with heap:=h2,toks:=U+1+1+1}) X2 e2 d2 he2 pe.over pe.t2 pe.dict λh3 hs3=>?_
 have hne:e≠dx:=λq=>by
  subst q
  have O:h1.get? e=none:=O
  rw[O] at e1;exact cR e1
 refine wpAny_execs_nil (hq h3 _ t1 _ (λb o hb ho=>?_) ((hs3.2 e hne).trans e2) rfl rfl)
 have yg:b≠dx:=λq=>by
  subst q
  have:=a1 b o hb ho
  have O:h1.get? b=none:=O
  rw[O] at this;exact cR this
 exact(hs3.2 b yg).trans (a12 b o hb ho)
end
structure Jr(K:Frag)(fd:FuncData)(p1 p2 p3 p4 p5 p6 p7 p8 p9 mZ m4 m5 m6 m7:Pos):Prop where
body:fd.body=.stmts [.Expr (.Call (.Attribute (.Name "Exception" p1) "__init__" p2) [.Name "self" p3,.Name "what" p4] [] p5) p6,.Assign [.Attribute (.Name "self" p7) "what" p8] (.Name "what" p9) mZ,.Assign [.Attribute (.Name "self" m4) "at" m5] (.Name "at" m6) m7]
glob:fd.globals=mainGlobals
bi:fd.builtins=builtinsNs
Zq:fd.closure=[]
code:codeIn K fd.code fd.qualname=true
kind:fd.scope.kind=.function
co:fd.scope.isCoroutine=false
gen:fd.scope.isGenerator=false
n1:fd.scope.names.lookup ("self":Str)=some .local
n2:fd.scope.names.lookup ("what":Str)=some .local
n3:fd.scope.names.lookup ("at":Str)=some .local
n4:fd.scope.names.lookup ("Exception":Str)=some .globalImplicit
bind:∀a b c S,peek K S (bindArgs fd ⟨[a,b,c],[]⟩)=some [(("self":Str),a),(("what":Str),b),(("at":Str),c)]
line:(p2.endLine==p5.line)=true
inductive w6(K:Frag)(C:Nat):Prop
|mk {fI od fd osl p1 p2 p3 p4 p5 p6 p7 p8 p9 mZ m4 m5 m6 m7}:findIn K (.ref C) "__init__"=some (some (.ref fI))->K.lookup fI=some ⟨.type "function",od,.func fd,osl⟩->Jr K fd p1 p2 p3 p4 p5 p6 p7 p8 p9 mZ m4 m5 m6 m7->w6 K C
structure Gx(G:Gd):Prop where
YU:exmOne G.K (.ref G.C) (.ref G.C)=some true
ok:uy G.K G.C
init:w6 G.K G.C
kp:keepIn G.K (.ref G.C)=true
g1:G.mg "Exception"=none
g2:G.mb "Exception"=some (.type "Exception")
section
variable{G:Gd}{A:Around}{σ:H}{d:Nat}
theorem Tn{v1 v2:Value}{s:Shared}{E:Value->Shared->Prop}{Q:Value->Shared->Prop}(gx:Gx G)
 (a:c8 G true (d+1) A σ s.heap) (hq:∀h' e tk,B9 G.C s.heap h' e->Q (.ref e) {s with heap:=h',toks:=tk}):wpAny (model G.prog G.w) A (call (.ref G.C) [v1,v2]) Q E s:=by
 have pe:=gx.ok
 refine pe.cls.casesOn λhC hB hA hN _=>?_
 refine gx.init.casesOn λ{fI od fd osl p1 p2 p3 p4 p5 p6 p7 p8 p9 mZ m4 m5 m6 m7}i1 i2 i=>?_
 obtain ⟨h,g,dr,t,os⟩:=s
 have X:G.K.In h:=a.K
 have hCh:=X _ _ hC
 refine Tg X i1 (X _ _ i2) rfl hB hA hN hCh (λh' e hm=>?_) (by size_fits)
 obtain ⟨kp,U,t0,he,_,_⟩:=hm
 have X':G.K.In h':=X.keeps kp
 have hKe:G.K.lookup e=none:=by
  cases q:G.K.lookup e with
  |none=>rfl
  |some o=>exact(ez U (X _ _ q)).elim
 have hKc:G.C≠e:=λq=>ez hKe (q▸hC)
 refine wpAny_call (codeAny_call_function (o:=⟨.type "function",od,.func fd,osl⟩) (by have:=a.room.depth;show A.depth+1<recursionLimit;lia) (X' _ _ i2) rfl i.co i.gen i.body (codeRec_of X' i.code) ?_)
 refine kp_binds X' (λS=>i.bind (.ref e) v1 v2 S) _ _ _ _ ?_
 rw[i.Zq]
 refine wpAny_newFunctionEnv_cells i.kind (λb hb=>.inl ?_) λenv hE s₁ x=>?_
 ·rcases aM.mp hb with rfl|hb
  ·exact i.n1
  ·rcases aM.mp hb with rfl|hb
   ·exact i.n2
   ·cases aF.mp hb;exact i.n3
 have ic:=x.toInCall
 have hloc:env.locals=h'.objs.size:=by rw[hE];rfl
 have hsc:env.scope=fd.scope:=by rw[hE];rfl
 have O:∀y,env.kindOf y=fd.scope.names.lookup y:=λy=>by unfold Env.kindOf;rw[hsc]
 have hglob:env.globals=mainGlobals:=by rw[hE];exact i.glob
 have hbi:env.builtins=builtinsNs:=by rw[hE];exact i.bi
 clear hE
 have kk:∀b o,h.get? b=some o->s₁.heap.get? b=some o:=λb o q=>ic.keep b o (kp b o q)
 have st:∀{b:Addr}{m:Str->Option Value},G.base.Ns b m->s₁.heap.Ns b m:=λhn=>(hn.keeps a.st).keeps kk
 have hbl:∀y:Str,env.kindOf y=some .local->bindL env.kindOf [(("self":Str),.ref e),(("what":Str),v1),(("at":Str),v2)] (λ_=>none) y=(List.reverse [(("self":Str),Value.ref e),(("what":Str),v1),(("at":Str),v2)]).lookup y:=λy hy=>by
  rw[CU _ _ _ hy];cases List.lookup y _<;>rfl
 have l1:env.kindOf "self"=some .local:=by rw[O];exact i.n1
 have l2:env.kindOf "what"=some .local:=by rw[O];exact i.n2
 have l3:env.kindOf "at"=some .local:=by rw[O];exact i.n3
 refine⟨(a.nolimit.keeps kp).keeps ic.keep,codeAny_func (Tf (t0:=t0) (e:=e) (what:=v1) (at_:=v2) pe (X'.keeps ic.keep) hKe hKc (by rw[hsc];exact i.kind) l1 l2 l3 (by rw[O];exact i.n4) (by rw[hglob];exact st G.g) (by rw[hbi];exact st G.b) gx.g1 gx.g2 ic.ns (by rw[hloc];exact Nat.ne_of_gt (bD he))
  (by rw[hbl _ l1];rfl) (by rw[hbl _ l2];rfl) (by rw[hbl _ l3];rfl) i.line (ic.keep _ _ he) λh2 oe t2 tk2 b1 b2 b3 b4=>?_)⟩
 obtain ⟨h₁,tk₁,rfl⟩:=ic.same
 exact⟨rfl,hq h2 e tk2 (.mk (λb o hb=>b1 b o (λq=>ez U (q▸hb)) (kk b o hb)) U b2 b3 b4)⟩
theorem Tp{C:Nat}{K:Frag}{M:Model}{E:Value->Shared->Prop}{env:Env}{s:Shared}{x:Sem Value}{Q:Flow->Shared->Prop}(pe:uy K C)(hh:A.handled=none)
 (h:wpAny M A x (λv s₁=>∃e U t,v=.ref e/\K.In s₁.heap/\s₁.heap.get? e=some U/\U.cls=.ref C/\U.data=.fields #[.ref t,.none,.none,.none,.bool false,.none]/\E (.ref e) s₁) E s):
 wpAny M A (raiseStmt env (some x) none) Q E s:=by
 refine pe.cls.casesOn λO hB hA hN hcB=>?_
 unfold raiseStmt
 refine ah (az h (λv s₁ h₁=>?_) λ_ _ x=>x)
 obtain ⟨e,U,t,rfl,X,he,hc,hd,hE⟩:=h₁
 obtain ⟨oc,od,oda,osl⟩:=U
 dsimp only at hc hd
 subst hc hd
 have O:=X _ _ O
 obtain ⟨hp,g,dr,tk,os⟩:=s₁
 repeat (first|with_reducible refine cm he ?_|with_reducible refine cm O ?_|(with_reducible refine wpAny_isSubtype_exc O ?_;rw[hcB])|wp_step)
 exact wpAny_raiseNew_none hh hE
end
section
variable{G:Gd}{k n:Nat}{E:Ev}{M:LB}{P:dX}{r:List CS}
@[elab_as_elim] theorem O5{S:SC}{c:CE}{cs:List CE}(es:LX){Z:LX->Prop}(h:(kc n).es S (c::cs) es=true)(k:∀e l,ma e=true->(kc n).es S (c::cs) (e::l)=true->Z (e::l)):Z es:=by
 cases es with
 |nil=>cases n with
  |zero=>exact cX h
  |succ=>exact cX h
 |cons e l=>exact k e l (rU h e (.head _)) h
theorem TG{a b:CE}(gx:Gx G)(h:c1 kc G k a E M (λ_ M₁=>c1 kc G k b E M₁ (λ_ M₂=>P.exc E M₂) (P.exc E)) (P.exc E)):Run G k n (.Zr a b::r) E M P:=i3 λF A σ₀ s₀ outer p₀ p ρ m st at_ hk s stt=>by
 refine TQ st hk λe pos hk=>?_
 refine kZ e hk λfe es cp hk=>?_
 have hk:=cN hk
 refine oC fe hk.1 λy yp hy=>?_
 refine O5 es hk.2 λe l h0 hl=>?_
 rw[arm_exec_Raise]
 refine ah (bG (Tp gx.ok (stt.Z6.hd at_.qh) ?_))
 show wpAny _ _ ((eval (.Name y yp) F.env>>=λf=>callWith cp f [] (backTo cp (starEach (e::l) F.env)) [])>>=λv=>standAt pos>>=λ_=>pure v) _ _ _
 refine ah (ah (az (qW (ρ:=ρ) (Y:=λ_=>False) at_.env hy (Q:=λv σ=>v=.ref G.C/\σ=p.σ) (λv i=>⟨i.casesOn (λq=>q) (λq=>cR q),rfl⟩) A s stt.Z6 stt.fr) (λv s₁ z=>z.casesOn λ{σ₁}s1 q=>?_) λ_ _ e=>e.casesOn λ_ _ _ _ f=>f.elim))
 have O:=stt.step (show St G p.σ s p.σ s₁ from q.2▸s1)
 rw[q.1]
 refine callWith_of (P:=G.K.In) (by rw[mi (rU hl)];rfl) (keeps_K gx.kp) ?_
 have key:=o4 (show fS kc G k [a,b] E M (λvs M₂=>vs.length=2/\P.exc E M₂) (P.exc E) from c1.mono h (λv M₁ q=>c1.mono q (λw M₂ q=>⟨rfl,q⟩) λ_ x=>x) λ_ x=>x) (pos:=cp) _ _ at_.1 hl
 rw[ni h0] at key⊢
 refine evalArgs_plain (Tr.wp key at_.1 O.Z6 O.fr (λ{vs M₁ q us s₂}hX gr U rr s2 am₂ f₂=>⟨am₂.K,?_⟩) λe s' x=>at_.exc O x)
 have ht:=(ag cv).symm.trans (rr.rel.len.trans hX.1)
 have st₂:=O.step s2
 cases us with
 |nil=>exact nA ht
 |cons u us=>cases us with
  |nil=>exact nomatch ht
  |cons v us=>cases us with
   |cons=>exact nomatch ht
   |nil=>exact Tn (d:=F.k) gx (U.qh▸am₂) λh' e tk x=>x.casesOn λx1 x2 x3 x4 x5=>ah (bG (aw ⟨e,_,_,rfl,am₂.K.keeps x1,x3,x4,x5,.made (s':={s₂ with heap:=h',toks:=tk}) (vs:=_) st₂ x1 ⟨rfl,rfl⟩ x2 ⟨x3,x4,x5,rfl,rfl⟩ (.mk (at_.g.trans gr) U.st U.er hX.2)⟩))
end
inductive uD(K:Frag)(prog:Program)(f f2 cc:Nat)(fd:FuncData)(x:Str):Prop
 |mk {oc od osl ar cda oc2 od2 vs2 osl2 file tf oc3 od3 osl3 cd oc4 od4 osl4 od5 dt5 osl5}:K.lookup f=some ⟨oc,od,.func fd,osl⟩->(fd.params.posonlyargs++fd.params.args).head?=some ar->ar.arg=x->fd.code=.ref cda->K.lookup cda=some ⟨oc2,od2,.fields vs2,osl2⟩->
  vs2[2]?=some (.str file tf)->((prog.main.file:Str)==file)=true->(prog.main.scope.names.lookup ("super":Str)).isSome=false->K.lookup cc=some ⟨oc3,od3,.cell (some (.ref 292)),osl3⟩->K.lookup 292=some ⟨oc4,od4,.cls cd,osl4⟩->clsIn K 292=some cd->
  alongIn K "__init__" ((cd.mro.dropWhile (·!=.ref 292)).drop 1)=some (some (.ref f2))->mroIn K 292 (.ref 292)=some true->nsIn K cStatics "thirdparty.any"=some none->fnIn K f2=true->K.lookup f2=some ⟨.type "function",od5,dt5,osl5⟩->uD K prog f f2 cc fd x
inductive rD(G:Gd)(k n:Nat)(f2 i:Nat)(ces:List CE)(r:List CS)(P:dX)(E:Ev)(M:LB):Prop
|mk {j fs}:E[i]?=some (some (.own j))->M[j]?=some (.inst 292 fs)->fS kc G k ces E M (λvs M₁=>Fn G k f2 (.own j::vs) M₁ (λ_ M₂=>Run G k n r E M₂ P) (P.exc E)) (P.exc E)->rD G k n f2 i ces r P E M
structure Cy(G:Gd)(F:Fc)(f cc:Nat)(fd:FuncData)(x:Str):Prop where
ks:F.env.kindOf "super"=some .globalImplicit
kc:F.env.kindOf "__class__"=some .free
ka:F.env.kindOf x=some .local
cl:F.env.cells.lookup ("__class__":Str)=some cc
fu:F.env.func=some f
co:F.env.code=fd.code
g1:G.mg "super"=none
g2:G.mb "super"=some (.type "super")
section
variable{G:Gd}{F:Fc}{A:Around}{σ₀ σ σ':H}{s₀ s s':Shared}{outer:List Env}{p₀ p q:Pt}{ρ:List CV}{k n:Nat}{E E':Ev}{M M':LB}{P:dX}{r:List CS}{f f2 cc i m:Nat}{fd:FuncData}{x:Str}{p0 p1 ap pp ep:Pos}{es:LX}{ces:List CE}{body:List Stmt}
theorem Vv(sp:uD G.K G.prog f f2 cc fd x)(sf:Cy G F f cc fd x)(a:fE G k n E M F A σ₀ s₀ outer p₀ p ρ)
 {pl:Sem Bool} (he:eval (.Call (.Attribute (.Call (.Name "super" p0) [] [] p1) "__init__" ap) es [] pp) F.env=(do
  let ov ←attributeBase (.Call (.Name "super" p0) [] [] p1) "__init__" F.env (eval (.Call (.Name "super" p0) [] [] p1) F.env)
  standAt ap.atName
  let(f,first) ←holding [ov] (getMethod ov "__init__" pl)
  callWith pp f first (backTo pp (starEach es F.env)) []))
 (hsw:swapsWith (.Call (.Attribute (.Call (.Name "super" p0) [] [] p1) "__init__" ap) es [] pp) none ep.line F.env=pure false) (hi:F.S.names[i]?=some x) (hne:es≠[]) (hk:(kc m).es F.S ces es=true) (hw:rD G k n f2 i ces r P E M) (st:dB G F A σ₀ s₀ p.σ ρ s):
 PySem.wpAt (model G.prog G.w) A (.func body F.env) (exec (.Expr (.Call (.Attribute (.Call (.Name "super" p0) [] [] p1) "__init__" ap) es [] pp) ep) F.env) (fD G F A σ₀ s₀ p.σ s (hW p₀ (P.then G k n r))) (λe s'=>fT G F A σ₀ s₀ (hU p₀ P.exc) s' e) s:=by
 refine hw.casesOn λ{j fs}hE hM hw=>?_
 refine sp.casesOn λ{oc od osl ar cda oc2 od2 vs2 osl2 file tf oc3 od3 osl3 cd oc4 od4 osl4 od5 dt5 osl5}hf hhead hx hcode hcd hvs hfile htop hcc hD hcd4 hal hmro hopq hisf hf2=>?_
 have X:=st.Z6.K
 have eo:=a.en.E.ok
 refine(a.er.at_ i _ hE).casesOn λ{c}hc hr=>?_
 revert hc
 refine iF.casesOn (motive:=λc _=>ρ[i]?=some c->_) hr λ{ad}had hc=>?_
 refine(a.st.live had hM rfl).casesOn λ{cs}_ hσ _=>?_
 have hin:jz s.heap 292 (fs.map (·.1)) cs ad:=st.Z6.rep.at_ _ _ hσ
 obtain ⟨dx,hox⟩:∃dx,s.heap.get? ad=some (instObj 292 dx):=hin.casesOn (motive:=λad _=>∃dx,s.heap.get? ad=some (instObj 292 dx)) λh1 _ _ _ _ _=>⟨_,h1⟩
 subst hx
 obtain ⟨hh,g,dr,tk,os⟩:=s
 refine ks_wpAt_Expr_any (ks_wpAt_MethodCall ?_ he) a.en.inter hsw
 refine ks_wpAt_super_base sf.ks sf.kc rfl sf.fu (X _ _ hf) rfl hhead (sf.co.trans hcode) (X _ _ hcd) rfl hvs hfile htop ?_
 refine ks_loadName_global eo.kind sf.ks (loadGlobal_builtin (by rw[eo.globals];exact G.g.keeps st.Z6.st) sf.g1 (by rw[eo.builtins];exact G.b.keeps st.Z6.st) sf.g2 ⟨rfl,?_⟩)
 refine wpAny_loadName_free eo.kind sf.kc sf.cl ⟨_,X _ _ hcc,rfl⟩ ?_
 refine(st.fr.var i _ _ hi hc).casesOn (λ{mm}_ h1 h2=>?_) λh _ _ _ _=>h.elim (λh=>nomatch h.symm.trans sf.ka) λh=>nomatch h.symm.trans sf.ka
 have hv:mm ar.arg=some (.ref ad):=by
  revert h2
  cases mm ar.arg with
  |none=>exactλh=>nomatch h
  |some v=>exactλh=>aj some (rN h)
 refine wpAny_loadName_local eo.kind sf.ka h1 hv ?_
 refine ks_wpAny_isType_cls (X _ _ hD) rfl ⟨rfl,?_⟩
 refine ks_wpAny_call_super (X _ _ hD) rfl hox rfl (λc e=>nomatch e) (looks_mroIn X hmro) (λh' e kk=>?_)
 have st1:=st.step (s':=⟨h',g,dr,tk,os⟩) ⟨st.Z6.rep.keeps kk,.same kk,rfl,rfl⟩
 have hnx:ad≠292:=λq=>nomatch(show(instObj 292 dx).data=Data.cls cd from aj Obj.data (aq ((q▸hox).symm.trans (X _ _ hD))))
 refine ks_wpAny_getMethod_super e (looks_opaque st1.Z6.K hopq) (λA Q E s k q=>ah (looks_clsIn st1.Z6.K hcd4 A _ E s k (aw q))) rfl st1.Z6.K hal (st1.Z6.K _ _ hf2) rfl hnx rfl ?_
 have k2:∀b o,h'.get? b=some o->(h'.push {cls:=.type "method",data:=.fields #[.ref f2,.ref ad]}).get? b=some o:=λb o e=>bt _ e
 have hq:(h'.push {cls:=.type "method",data:=.fields #[.ref f2,.ref ad]}).get? h'.objs.size=some (methodObj (.ref f2) (.ref ad)):=Heap.get?_push_at rfl rfl
 have nq:¬own p.σ h'.objs.size:=st1.Z6.rep.ZJ (ao _)
 generalize (h'.push {cls:=.type "method",data:=.fields #[.ref f2,.ref ad]})=h2 at k2 hq⊢
 have st2:=st1.step (s':=⟨h2,g,dr,tk+1,os⟩) ⟨st1.Z6.rep.keeps k2,.same k2,rfl,rfl⟩
 have hs:=rU hk
 have pk2:Pk G.base p.σ hh p.σ h2:=(dI.keep (.same kk)).trans (dI.keep (.same k2))
 refine callWith_of (P:=PySem.W.MethP G.K h'.objs.size f2 (.ref ad)) (by rw[mi hs];rfl) (keeps_M hisf) ?_
 cases es with
 |nil=>exact absurd rfl hne
 |cons e0 rest=>
  have t:=Tr.wp (o4 hw (pos:=pp) _ _ a.1 hk) a.1 st2.Z6 st2.fr (Y:=λe s'=>fT G F A σ₀ s₀ (hU p₀ P.exc) s' e)
   (Q:=λus U=>PySem.W.MethP G.K h'.objs.size f2 (.ref ad) U.heap/\wpAny (model G.prog G.w) A (call (.ref h'.objs.size) us) (λ_ s'=>fD G F A σ₀ s₀ p.σ ⟨hh,g,dr,tk,os⟩ (hW p₀ (P.then G k n r)) .next s') (λe s'=>fT G F A σ₀ s₀ (hU p₀ P.exc) s' e) U)
   (λ{vs M₁ q us U}hF gr O rr s2 am₂ f₂=>?_) λe s' x=>a.exc st2 x
  ·rw[ni (hs e0 (.head _))] at t⊢
   exact evalArgs_plain t
  ·have st3:dB G F A σ₀ s₀ q.σ ρ U:=⟨am₂,st2.st.trans s2,f₂⟩
   have hm2:=s2.keep.at hq nq (.inr λes n e=>nomatch e)
   refine⟨⟨hm2,am₂.K⟩,wpAny_call (ks_codeAny_call_bound hm2 (codeAny_mono (hF q (.ref ad::us.map cv) O.st (show Rel2 (cM q) (.own j::vs) (.ref ad::us.map cv) from⟨⟨gr.at had⟩,rr.rel⟩) A U (.ref ad::us) (O.k▸O.qh▸am₂).less rfl) λr s' x=>x.casesOn (λst' y=>?_) λe=>?_))⟩
   ·refine y.casesOn λ{x M₂ as μ}g' sto rv kk=>?_
    exact fD.mk (fl:=.next) (st3.step st') ((pk2.trans (dI.keep s2.keep)).trans (dI.keep st'.keep)) (.next (q:=⟨as,μ,_⟩) (P:=P.then G k n _) ((a.g.trans gr).trans g') sto ((a.er.gr gr).gr g') kk)
   ·exact(a.to gr O.st).exc st3 e
end
section
open Sem (wp)
theorem WE{M:Model}{O:Ctx}{env:Env}{Q:Flow->Pos->Shared->Prop}{E:Value->Pos->Shared->Prop}{rest:List Stmt}(pre:List Stmt):∀p s,wp M O (execs pre env) (λf U s'=>Flow.casesOn f (wp M O (execs rest env) Q E U s') (Q .brk U s') (Q .cont U s') λv=>Q (.ret v) U s') E p s->wp M O (execs (pre++rest) env) Q E p s:=by
 induction pre with
 |nil=>
  intro p s h
  have h:wp M O (pure Flow.next) _ E p s:=h
  rw[Sem.wp_pure'] at h
  exact h
 |cons st r ih=>
  intro p s h
  rw[List.cons_append]
  rw[execs_cons,Sem.wp_bind'] at h⊢
  refine Sem.wp_mono M O _ (λf U s' h'=>?_) (λ_ _ _ h=>h) _ _ h
  cases f with
  |next=>exact ih _ _ h'
  |brk=>rw[Sem.wp_pure'] at h'⊢;exact h'
  |cont=>rw[Sem.wp_pure'] at h'⊢;exact h'
  |ret v=>rw[Sem.wp_pure'] at h'⊢;exact h'
theorem WD{M:Model}{A:Around}{c:Code}{env:Env}{Q:Flow->Shared->Prop}{E:Value->Shared->Prop}{s:Shared}{pre rest:List Stmt}(h:PySem.wpAt M A c (execs pre env) (λf s'=>Flow.casesOn f (PySem.wpAt M A c (execs rest env) Q E s') (Q .brk s') (Q .cont s') λv=>Q (.ret v) s') E s):
 PySem.wpAt M A c (execs (pre++rest) env) Q E s:=λU p hc O=>WE pre p s (Sem.wp_mono M U _ (λf p' s' h'=>by
 cases f with
 |next=>exact h' U p' hc O
 |_=>exact h') (λ_ _ _ h=>h) _ _ (h U p hc O))
end
section
variable{G:Gd}{A:Around}{p:Pt}{k m na:Nat}{E:Ev}{M:LB}{f f2 cc i:Nat}{fd:FuncData}{x:Str}{p0 p1 ap pp ep:Pos}{es:LX}{ces:List CE}{pre post:List Stmt}{cpre cpost:List CS}{oc:Value}{od:Option Addr}{osl:Array (Option Value)}{gtab:Str->Option GV}{pl:Env->Sem Bool}{tail:List CV}
structure B6(G:Gd)(f f2 cc i:Nat)(fd:FuncData)(x:Str)(p0 p1 ap pp ep:Pos)(es:LX)(pl:Env->Sem Bool):Prop where
sup:uD G.K G.prog f f2 cc fd x
g1:G.mg "super"=none
g2:G.mb "super"=some (.type "super")
Zq:fd.closure=[(("__class__":Str),cc)]
nc:∀x∈fd.scope.names,x.2≠.cell
ks:fd.scope.names.lookup ("super":Str)=some .globalImplicit
kc:fd.scope.names.lookup ("__class__":Str)=some .free
ka:fd.scope.names.lookup x=some .local
hi:(d7 fd.scope.names)[i]?=some x
ne:es≠[]
he:∀env,eval (.Call (.Attribute (.Call (.Name "super" p0) [] [] p1) "__init__" ap) es [] pp) env=(do
 let ov ←attributeBase (.Call (.Name "super" p0) [] [] p1) "__init__" env (eval (.Call (.Name "super" p0) [] [] p1) env)
 standAt ap.atName
 let(f,first) ←holding [ov] (getMethod ov "__init__" (pl env))
 callWith pp f first (backTo pp (starEach es env)) [])
sw:∀env,swapsWith (.Call (.Attribute (.Call (.Name "super" p0) [] [] p1) "__init__" ap) es [] pp) none ep.line env=pure false
def rh(G:Gd)(f:Nat)(cpre:List CS)(f2 i:Nat)(ces:List CE)(cpost:List CS)(na:Nat)(tail:List CV):Prop:=
 ∀{vs:LV}{d:Nat}{M:LB}{K:KT}{X:XT},vs.length=na->Run G d M.length cpre (vs.map some++tail.map tv) M ⟨rD G d M.length f2 i ces cpost ⟨λ_ M'=>K (.sh .none) M',λ_ _=>False,K,λ_ M'=>X M'⟩,λ_ _=>False,K,λ_ M'=>X M'⟩->Fn G (d+2) f vs M K X
theorem NO(gt:nH G gtab)(ok:nC G f oc od osl fd (pre++.Expr (.Call (.Attribute (.Call (.Name "super" p0) [] [] p1) "__init__" ap) es [] pp) ep::post))(ds:B6 G f f2 cc i fd x p0 p1 ap pp ep es pl)
 (k1:lX m (gw gtab fd.scope none) cpre pre=true) (k2:(kc m).es (gw gtab fd.scope none) ces es=true) (k3:lX m (gw gtab fd.scope none) cpost post=true)
 (hb:∀vals:LU,vals.length=na->Binds G.K fd vals (vals.map cv++tail)):rh G f cpre f2 i ces cpost na tail:=by
 intro vs d M K X hl hw p cs U rv A s vals am hvals
 have hlen:vals.length=na:=(ag _).symm.trans ((aj List.length hvals).trans (rv.len.trans hl))
 refine(hb vals hlen).casesOn λ{binds}hpeek hbl hρ=>?_
 have hK:=am.K
 have nd:=ok.sc.nodup
 have loc:∀y∈d7 fd.scope.names,fd.scope.names.lookup y=some .local:=λy hy=>(qt.mp hy).elim (gU nd) λq=>absurd rfl (ds.nc _ q)
 refine ks_codeAny_call_defAt (fd:=fd) am.room.Zh (hK _ _ ok.at_) rfl am.nolimit (codeRec_of hK ok.code) ok.body (kp_binds hK hpeek) ds.nc (λx hx=>loc _ (hbl _ hx)) (λh₁ hns hk₁=>?_) ok.sc.co ok.sc.gen ok.sc.kind
 obtain ⟨env,he⟩:∃env,env=callEnv fd s.heap.objs.size f:=⟨_,rfl⟩
 rw[←he]
 have hloc:env.locals=s.heap.objs.size:=by rw[he];rfl
 have n:mB s {s with heap:=h₁,toks:=s.toks+binds.length} fd env (λx=>binds.reverse.lookup x):=⟨⟨⟨_,_,rfl⟩,by rw[hloc];exact hns,hk₁,by rw[hloc];exact ao _⟩,by rw[he];rfl,hloc,by rw[he];rfl,by rw[he];exact ok.glob,by rw[he];exact ok.bi⟩
 have hcells:env.cells=[(("__class__":Str),cc)]:=by rw[he];exact ds.Zq
 have hfu:env.func=some f:=by rw[he];rfl
 have lU:env.code=fd.code:=by rw[he];rfl
 clear he
 obtain ⟨l,hl⟩:=am.l0
 have nc:∀{y:Str}{c:Addr},env.kindOf y=some .cell->False:=λ{y c}h=>ds.nc _ (mem_lookup ((n.kind y).symm.trans h)) rfl
 have ens:jx G ⟨env,gw gtab fd.scope none,d,true⟩:=⟨⟨n.sc▸ok.sc.kind,n.glob,n.bi⟩,λy g hy=>have h:=xY hy;⟨(n.kind y).trans (gU nd h.1),gt _ _ h.2⟩,gt,λy hy=>by
  obtain ⟨k,h1,h2⟩:=(qu (p:=λk=>k=.cell)).mp hy
  exact absurd h2 (ds.nc _ h1)⟩
 have en:jb G ⟨env,gw gtab fd.scope none,d,true⟩ (A.deeper env) p.σ s l:=⟨ens,Around.frames_deeper hl,n.Zv,.of n.fL,λy hy=>.loc ((n.kind y).trans (loc y hy)),(am.fr l hl).out⟩
 have fr:d5 G.base env (d7 fd.scope.names) h₁ p.σ (cs++tail):=by
  refine⟨hvals▸hρ▸(ag _).symm,λi y r hy hr=>?_,⟨_,n.ic.ns⟩,am.rep.ZJ (n.loc▸ao _),am.ZE n.fL,λy c hk _=>(nc (c:=c) hk).elim,λy z c h1 h2=>?_,nd.sublist (List.Sublist.map _ b0),ok.sc.plain⟩
  ·rw[←hvals,←hρ,aA,hy] at hr
   exact aq hr▸.loc ((n.kind y).trans (loc y (ax hy))) n.ic.ns rfl
  ·have one:∀{y:Str},env.cells.lookup y=some c->y="__class__":=λ{y}h=>by
    rw[hcells] at h
    exact(aF.mp (mem_lookup h)▸rfl:y=(("__class__":Str),cc).1)
   exact(one h1).trans (one h2).symm
 have st:dB G ⟨env,gw gtab fd.scope none,d,true⟩ (A.deeper env) p.σ s p.σ (cs++tail) {s with heap:=h₁,toks:=s.toks+binds.length}:=⟨n.Z6 ok am hl,⟨am.rep.keeps hk₁,.same hk₁,rfl,rfl⟩,fr⟩
 have at_:fE G d M.length _ M ⟨env,gw gtab fd.scope none,d,true⟩ (A.deeper env) p.σ s l p p (cs++tail):=⟨⟨ens,rfl,rfl,U,Dy rv⟩,en,U.len,.refl p⟩
 have sf:Cy G ⟨env,gw gtab fd.scope none,d,true⟩ f cc fd x:=⟨(n.kind _).trans ds.ks,(n.kind _).trans ds.kc,(n.kind _).trans ds.ka,by rw[hcells];rfl,hfu,lU,ds.g1,ds.g2⟩
 refine PySem.wpAt_mono (Q:=fD G ⟨env,gw gtab fd.scope none,d,true⟩ (A.deeper env) p.σ s p.σ {s with heap:=h₁,toks:=s.toks+binds.length} (hW p ⟨λ_ M'=>K (.sh .none) M',λ_ _=>False,K,λ_ M'=>X M'⟩)) (E:=λe s'=>fT G ⟨env,gw gtab fd.scope none,d,true⟩ (A.deeper env) p.σ s (hU p λ_ M'=>X M') s' e) ?_ (λfl s' x=>?_) λe s' xx=>?_
 ·refine WD (PySem.wpAt_mono (PySem.wpAt_of_wpAny (hw m pre at_ k1 _ st)) (λf s' x=>x.casesOn λ{σ' ρ'}O pk q=>?_) λ_ _ x=>x)
  revert O pk
  refine q.casesOn (λ{E M q ρ}g U er h O pk=>?_) (λ_ _ _ h _ _=>h.elim) λg U r h O pk=>fD.mk O trivial (.ret g U r h)
  have a₁:fE G d _ E M ⟨env,gw gtab fd.scope none,d,true⟩ (A.deeper env) p.σ s l p q ρ:=⟨⟨ens,rfl,rfl,U,er⟩,en,at_.hn,g⟩
  refine ks_wpAt_execs_cons (ks_wpAt_mono (Vv ds.sup sf a₁ (ds.he env) (ds.sw env) ds.hi ds.ne k2 h O) (λf s' x=>x.casesOn λ{σ' ρ'}O pk' q=>?_) λ_ _ x=>x)
  have pk₁:=mE.pre pk pk'
  revert O pk₁
  clear pk'
  refine q.casesOn (λ{E M q ρ}g U er h O pk=>?_) (λ_ _ _ h _ _=>h.elim) λg U r h O pk=>fD.mk O trivial (.ret g U r h)
  exact PySem.wpAt_of_wpAny (az (h m post ⟨⟨ens,rfl,rfl,U,er⟩,en,at_.hn,g⟩ k3 _ O) (λfl s₂ x=>x.pre pk) λ_ _ x=>x)
 ·refine x.casesOn λ{σ' ρ'}O pk q=>?_
  revert O
  clear pk
  refine q.casesOn (λ{E M q ρ}g U er h O=>.ret O.st (.mk (x:=.sh .none) (as:=q.as) (μ:=q.μ) g U rfl h)) (λ_ _ _ h _=>h.elim) λ{x v M q ρ}g U r h O=>.ret O.st (.mk (as:=q.as) (μ:=q.μ) g U r h)
 ·exact DE en hl (xx.imp (X':=λ_ σ'=>dk p X σ') λρ' σ' y=>y.casesOn λ{E M q ρ}g U er h=>.mk (as:=q.as) (μ:=q.μ) g U h) λh'' hx=>.exc hx
end
noncomputable def cJ.lt(m:Nat)(v:cJ):Bool:=cJ.casesOn v (λ_=>true) λj=>Nat.blt j m
abbrev Ob.lt(m:Nat)(o:Ob):Bool:=o.vals.all (cJ.lt m)
def qo(m:Nat)(M:LB):Bool:=M.all (Ob.lt m)
noncomputable abbrev Pt.take(p:Pt)(m:Nat):Pt:=⟨p.as.take m,p.μ,p.σ⟩
section
variable{p p₀ q:Pt}{m:Nat}{M:LB}
theorem OZ{c:Prop}[Decidable c]{α:Type}{a:Option α}{b:α}(h:(if c then a else none)=some b):c/\a=some b:=by
 by_cases O:c
 ·rw[al O] at h;exact⟨O,h⟩
 ·rw[av O] at h;exact cR h
theorem IA{α:Type}{l:List α}{j m:Nat}{a:α}(h:(l.take m)[j]?=some a):j<m/\l[j]?=some a:=by
 rw[List.getElem?_take] at h
 exact OZ h
theorem cM.take{v:cJ}{c:CV}(h:v.lt m=true)(r:cM p v c):cM (p.take m) v c:=by
 cases v with
 |sh d=>exact r
 |own j=>exact iF.casesOn r λO=>⟨(List.getElem?_take_of_lt (Nat.le_of_ble_eq_true h)).trans O⟩
theorem valRs.take{vs:LV}:∀{cs:List CV},vs.all (cJ.lt m)=true->Rel2 (cM p) vs cs->Rel2 (cM (p.take m)) vs cs:=by
 induction vs with
 |nil=>exactλ_ r=>r
 |cons v vs O=>
  intro cs h r
  have h:=cN h
  exact eV.casesOn (motive:=λcs _=>Rel2 (cM (p.take m)) (v::vs) cs) r λa b=>⟨a.take h.1,O h.2 b⟩
theorem mc.take{c:Nat}{ob:Ob}(h:ob.lt m=true)(r:mc p c ob):mc (p.take m) c ob:=r.casesOn (λa b c=>.Z3 a b c) λa l=>.live a (l.casesOn λx y z=>⟨x,y,valRs.take h z⟩)
theorem c5.cut(st:c5 p M)(h:qo m (M.take m)=true):c5 (p.take m) (M.take m):=by
 refine⟨st.sub,st.nodup.sublist (List.take_sublist _ _),by rw[bb,bb,st.len],λj a ob O hb=>?_⟩
 exact(st.ob j a ob (IA O).2 (IA hb).2).take (bh.mp h _ (ax hb))
theorem Gr.cut(g:Gr p₀ p)(h:p₀.as.length<=m):Gr p₀ (p.take m):=by
 obtain ⟨ns,e,q⟩:=g.ZC
 exact⟨g.mu,g.keep,g.ZL,g.new,ns.take (m-p₀.as.length),by show p.as.take m=_;rw[e,List.take_append,cz h],λa O=>q a (cD O)⟩
theorem eC.upd{E:Ev}{ρ:List CV}(re:eC p E ρ){i:Nat}{u v:cJ}(hi:E[i]?=some (some u))(hv:∀c,cM p u c->cM p v c):eC p (E.set i (some v)) ρ:=by
 refine⟨(bc ..).trans re.len,λj z U=>?_⟩
 by_cases e:j=i
 ·subst e
  have O:=aq (aq ((bd (aO.mp hi).1).symm.trans U))
  exact(re.at_ j u hi).casesOn λa b=>⟨a,O▸hv _ b⟩
 ·exact re.at_ j z ((bX (Ne.symm e)).symm.trans U)
end
section
variable{G:Gd}{k n:Nat}{E:Ev}{M:LB}{P P':dX}{cs:List CS}
theorem fE.at{F:Fc}{A:Around}{σ₀:H}{s₀:Shared}{outer:List Env}{p₀ p q:Pt}{ρ:List CV}{E':Ev}{M':LB}(a:fE G k n E M F A σ₀ s₀ outer p₀ p ρ)(st:c5 q M')(er:eC q E' ρ)(g:Gr p₀ q):fE G k n E' M' F A σ₀ s₀ outer p₀ q ρ:=⟨⟨a.env,a.k,a.qh,st,er⟩,a.en,a.hn,g⟩
theorem G4{j:Nat}{ob:Ob}{d:D}(hm:M[j]?=some ob)(hd:fR M ob=some d)(h:Run G k n cs E (M.set j (.Z3 d)) P):Run G k n cs E M P:=λ_ _ _ _ _ p₀ p _ m O a hk=>by
 obtain ⟨U,st,g⟩:=a.st.freeze hm hd
 exact h (p:=⟨p.as,U,p.σ⟩) m O (a.at st (a.er.gr g) (a.g.trans g)) hk
theorem TL{i j:Nat}{d:D}(hi:E[i]?=some (some (.own j)))(hm:M[j]?=some (.Z3 d))(h:Run G k n cs (E.set i (some (.sh d))) M P):Run G k n cs E M P:=λ_ _ _ _ _ p₀ p _ m O a hk=>
 h m O (a.at a.st (a.er.upd hi λc r=>iF.casesOn r λU=>(a.st.ob j _ _ U hm).casesOn (λe _ h=>aq e▸h) λe _=>iP e) a.g) hk
theorem Tz{i j:Nat}{ob:Ob}{d:D}(hi:E[i]?=some (some (.own j)))(hm:M[j]?=some ob)(hd:fR M ob=some d)(h:Run G k n cs (E.set i (some (.sh d))) (M.set j (.Z3 d)) P):Run G k n cs E M P:=
 G4 hm hd (TL hi (bd (aO.mp hm).1) h)
theorem Run.mono(h:Run G k n cs E M P)(U:∀E M,P.next E M->P'.next E M)(O:∀E M,P.brk E M->P'.brk E M)(h3:∀v M,P.ret v M->P'.ret v M)(h4:∀E M,P.exc E M->P'.exc E M):Run G k n cs E M P':=λ_ _ _ _ _ p₀ p _ m ss a hk s st=>
 az (h m ss a hk s st) (λfl s' x=>x.casesOn λst pk q=>⟨st,pk,q.casesOn (λa b c d=>.next a b c (U _ _ d)) (λa b c d=>.brk a b c (O _ _ d)) λa b c d=>.ret a b c (h3 _ _ d)⟩) λ_ _ x=>x.imp λ_ _ q=>q.casesOn λa b c d=>⟨a,b,c,h4 _ _ d⟩
end
section
variable{G:Gd}{k f:Nat}{vs:LV}{M:LB}{K:KT}{X:XT}{p:Pt}
theorem jZ.mono{d:Nat}{f:Value}{args:List CV}{σ:H}{Q O:CV->H->Prop}{X X':H->Prop}(h:jZ G d f args σ Q X)(q:∀v σ',Q v σ'->O v σ')(x:∀σ',X σ'->X' σ'):jZ G d f args σ O X':=
 λA s vals a U=>codeAny_mono (h A s vals a U) λr s' y=>y.casesOn (λst z=>.ret st (q _ _ z)) λe=>.exc (e.imp x)
theorem jZ.up{d O:Nat}{f:Value}{args:List CV}{σ:H}{Q:CV->H->Prop}{X:H->Prop}(h:jZ G d f args σ Q X)(l:d<=O):jZ G O f args σ Q X:=
 λA s vals a U=>h A s vals ⟨⟨aX (bq (bS _ l) _) a.room.depth,aX (bf (bq (bS _ l) _) _) a.room.units⟩,a.hd,a.l0,a.fr,a.st,a.rep⟩ U
theorem Fn.up{O:Nat}(h:Fn G k f vs M K X)(l:k<=O):Fn G O f vs M K X:=λp cs st U=>(h p cs st U).up l
theorem u2{cs:List CS}{na:Nat}{tail:List CV}(O:gg G f cs na tail)(hl:vs.length=na)(h:Run G k M.length cs (vs.map some++tail.map tv) M ⟨λ_ M'=>K (.sh .none) M',λ_ _=>False,K,λ_ M'=>X M'⟩):Fn G (k+2) f vs M K X:=O hl h
theorem Am{c:Nat}(hm:mt c 0=some (some f))(h:Fn G k f (.own M.length::vs) (M++[.inst c []]) (λv M'=>v=.sh .none/\K (.own M.length) M') X):mC G k c vs M K X:=by
 refine⟨f,hm,λp cs a st rv ha=>?_⟩
 obtain ⟨st',g⟩:=st.Y2 (c:=a) (ob:=.inst c []) (cs:=[]) ha rfl rfl
 have O:(p.as++[a])[M.length]?=some a:=st.len▸tW _ _
 refine(h ⟨p.as++[a],p.μ,dR p.σ a ⟨.inst c [],[]⟩⟩ (.ref a::cs) st' ⟨⟨O⟩,valRs.gr g rv⟩).mono (λv σ' y=>y.casesOn λ{x M' as μ}g' U r kk=>?_) λσ' y=>y.casesOn λg' U kk=>.mk (g.trans g') U kk
 have r:cM ⟨as,μ,σ'⟩ x v:=r
 rw[kk.1] at r
 exact⟨r,.mk (x:=.own M.length) (g.trans g') U ⟨g'.at O⟩ kk.2⟩
theorem c5.back{as:LN}{μ σ:H}(st:c5 p M)(x:fv p.μ μ)(s:fv μ σ)(k:fv p.σ σ)(n:∀a,(μ a).isSome=true->(p.μ a).isSome=true∨p.σ a=none)(d:∀a,σ a=none->p.σ a=none):c5 ⟨p.as,μ,σ⟩ M/\Gr p ⟨p.as,μ,σ⟩:=by
 refine⟨⟨s,st.nodup,st.len,λj c ob U hb=>(st.ob j c ob U hb).casesOn (λa b h=>.Z3 a ?_ (h.mono x)) λa l=>.live a (l.casesOn λh1 O h3=>⟨?_,k _ _ O,h3.mono λ_ _=>cM.up (p:=p) (q:=⟨p.as,μ,σ⟩) x λ_ _ h=>h⟩)⟩,x,λa o _ h=>k a o h,d,λa h=>(n a h).imp_right .inl,[],(aS _).symm,λ_ h=>dh h⟩
 ·exact(Option.isSome_iff_exists.mp b).elim λo h=>by show(μ c).isSome=true;rw[x _ _ h];rfl
 ·show μ c=Option.none
  cases e:μ c with
  |none=>rfl
  |some o=>exact(n c (by rw[e];rfl)).elim (λq=>by rw[h1] at q;exact cX q) λq=>(ez q O).elim
theorem c5.none(st:c5 p M):c5 ⟨[],p.μ,p.σ⟩ []:=⟨st.sub,.nil,rfl,λj c ob h=>cR h⟩
theorem Hx{q:Pt}(e:q.μ=p.μ){vs:LV}:∀{cs:List CV},vs.all (cJ.lt 0)=true->Rel2 (cM p) vs cs->Rel2 (cM q) vs cs:=by
 induction vs with
 |nil=>exactλ_ r=>r
 |cons v vs O=>
  intro cs h r
  have h:=cN h
  refine eV.casesOn (motive:=λcs _=>Rel2 (cM q) (v::vs) cs) r λa b=>⟨?_,O h.2 b⟩
  cases v with
  |sh d=>exact(show dp q.μ d _ from e▸a)
  |own j=>exact cX h.1
theorem Got.Y5{R:D->Prop}{v:CV}{σ':H}(st:c5 p M)(y:Got RC ⟨[],p.μ,p.σ⟩ (λv M'=>∃d,c7 M' v=some d/\R d) v σ')(q:∀d,R d->K (.sh d) M):Got RC p K v σ':=by
 refine y.casesOn λ{x M' as μ}g st' r kk=>kk.elim λd kk=>?_
 have key:∀{U:H},Gr ⟨[],p.μ,p.σ⟩ ⟨as,U,σ'⟩->fv U σ'->dp U d v->Got RC p K v σ':=λ{U}g s h=>
  have b:=st.back (as:=[]) (μ:=U) (σ:=σ') g.mu s (λa o ho=>g.keep a o (λh=>dh h) ho) (λa h=>(g.new a h).imp_right λh=>h.elim (λh=>h) λh=>dh h) g.ZL
  .mk (x:=.sh d) b.2 b.1 h (q d kk.2)
 cases x with
 |sh e=>exact key g st'.sub (show dp μ d v from aq kk.1▸r)
 |own j=>
  obtain ⟨ob,h1,h2⟩:=oB kk.1
  obtain ⟨U,O,g'⟩:=st'.freeze h1 h2
  refine key (g.trans g') O.sub (iF.casesOn (motive:=λv _=>dp U d v) r λ{a}ha=>?_)
  exact(O.ob j a _ ha (bd (aO.mp h1).1)).casesOn (λe _ h=>aq e▸h) λe _=>iP e
theorem Fn.pure{R:D->Prop}(h:Fn G k f vs [] (λv M'=>∃d,c7 M' v=some d/\R d) λ_=>False)(hv:vs.all (cJ.lt 0)=true)(q:∀d,R d->K (.sh d) M):Fn G k f vs M K X:=λp cs st O=>
 (h ⟨[],p.μ,p.σ⟩ cs st.none (Hx (p:=p) (q:=⟨[],p.μ,p.σ⟩) rfl hv O)).mono (λv σ' y=>y.Y5 st q) λσ' y=>y.casesOn λ_ _ f=>f.elim
theorem mC.pure{c:Nat}{R:D->Prop}(h:mC G k c vs [] (λv M'=>∃d,c7 M' v=some d/\R d) λ_=>False)(hv:vs.all (cJ.lt 0)=true)(q:∀d,R d->K (.sh d) M):mC G k c vs M K X:=by
 obtain ⟨f,hm,h⟩:=h
 exact⟨f,hm,λp cs a st O U=>(h ⟨[],p.μ,p.σ⟩ cs a st.none (Hx (p:=p) (q:=⟨[],p.μ,p.σ⟩) rfl hv O) U).mono (λv σ' y=>y.casesOn λe y=>⟨e,y.Y5 st q⟩) λσ' y=>y.casesOn λ_ _ f=>f.elim⟩
theorem Fn.own(h:Fn G k f vs M (λv M'=>∃d,c7 M' v=some d/\(∀j,v=.own j->M.length<=j)/\qo M.length (M'.take M.length)=true/\K (.sh d) (M'.take M.length)) X):Fn G k f vs M K X:=λp cs st rv=>
 (h p cs st rv).mono (λv σ' y=>y.casesOn λ{x M' as μ}g st' r O=>O.elim λd O=>by
  have hl:=st.len
  cases x with
  |sh e=>exact .mk (x:=.sh d) (g.cut (bn hl)) (st'.cut O.2.2.1) (show dp μ d v from aq O.1▸r) O.2.2.2
  |own j=>
   obtain ⟨ob,h1,h2⟩:=oB O.1
   obtain ⟨μ',U,g'⟩:=st'.freeze h1 h2
   have e:(M'.set j (.Z3 d)).take M.length=M'.take M.length:=List.take_set_of_le (O.2.1 j rfl)
   refine .mk (x:=.sh d) ((g.trans g').cut (bn hl)) (e▸U.cut (e.symm▸O.2.2.1)) ?_ O.2.2.2
   refine iF.casesOn (motive:=λv _=>dp μ' d v) r λ{a}ha=>?_
   exact(U.ob j a _ ha (bd (aO.mp h1).1)).casesOn (λe _ h=>aq e▸h) λe _=>iP e) λ_ x=>x
noncomputable def AJ:D->Bool
| .con ..=>false
| .raw _=>false
|_=>true
theorem S4{σ σ':H}{d:D}{c:CV}(h:AJ d=true)(r:dp σ d c):dp σ' d c:=by
 cases d with
 |con=>exact cX h
 |raw=>exact cX h
 |_=>exact r
noncomputable def i5(l:List (Option D)):Option LD:=List.rec (some []) (λo _ O=>o.bind λd=>O.map λds=>d::ds) l
def fF(M:LB)(n:Nat):cJ->Option D:=Nat.rec (motive:=λ_=>cJ->Option D) (λv=>cJ.casesOn v some λ_=>none) (λ_ O v=>cJ.casesOn v some λj=>(M[j]?).bind λob=>Option.casesOn ob.ZY ((i5 (ob.vals.map O)).map (.con ob.tag)) some) n
def M7(M:LB)(n:Nat)(vs:LV):Option LD:=i5 (vs.map (fF M n))
section
variable(st:c5 p M)
include st
omit st in
theorem Ht{f:cJ->Option D}{σ:H}(h:∀{v d c},f v=some d->cM p v c->dp σ d c){vs:LV}:∀{ds:LD}{cs:List CV},i5 (vs.map f)=some ds->Rel2 (cM p) vs cs->dW σ ds cs:=by
 induction vs with
 |nil=>intro ds cs e r;cases e;exact r
 |cons v vs U=>
  intro ds cs e r
  obtain ⟨d,h1,h2⟩:=oB e
  obtain ⟨O,h3,rfl⟩:=oM h2
  exact eV.casesOn (motive:=λcs _=>dW σ (d::O) cs) r λa b=>⟨h h1 a,U h3 b⟩
omit st in
theorem Uy{f:cJ->Option D}{vs:LV}:∀{ds:LD},i5 (vs.map f)=some ds->vs.length=ds.length:=by
 induction vs with
 |nil=>intro ds e;cases e;rfl
 |cons v vs O=>
  intro ds e
  obtain ⟨d,h1,U⟩:=oB e
  obtain ⟨ds',h3,rfl⟩:=oM U
  exact aj Nat.succ (O h3)
theorem M6{n:Nat}:∀{v:cJ}{d:D}{c:CV},fF M n v=some d->cM p v c->dp p.σ d c:=by
 induction n with
 |zero=>
  intro v d c h r
  cases v with
  |sh e=>cases h;exact dp.mono st.sub r
  |own j=>exact cR h
 |succ n ih=>
  intro v d c h r
  cases v with
  |sh e=>cases h;exact dp.mono st.sub r
  |own j=>
   obtain ⟨ob,U,O⟩:=oB h
   refine iF.casesOn r λ{a}ha=>?_
   cases l:ob.ZY with
   |some e=>
    have O:(Option.casesOn (motive:=λ_=>Option D) ob.ZY ((i5 (ob.vals.map (fF M n))).map (.con ob.tag)) some)=some d:=O
    rw[l] at O
    cases O
    exact(st.ob j a ob ha U).casesOn (λe _ h=>aq (l.symm.trans e)▸h.mono st.sub) λe _=>(ez e l).elim
   |none=>
    have O:(Option.casesOn (motive:=λ_=>Option D) ob.ZY ((i5 (ob.vals.map (fF M n))).map (.con ob.tag)) some)=some d:=O
    rw[l] at O
    obtain ⟨ds,h3,rfl⟩:=oM O
    exact(st.live ha U l).casesOn λ_ s rr=>.Zt s (Uy h3▸ob.wf) (Ht ih h3 rr)
end
theorem Fn.lend{R:D->Prop}{ds:LD}{n:Nat}(h:Fn G k f (ds.map .sh) [] (λv M'=>∃d,c7 M' v=some d/\AJ d=true/\R d) λ_=>False)(hd:M7 M n vs=some ds)(q:∀d,R d->K (.sh d) M):Fn G k f vs M K X:=λp cs st rv=>
 (h ⟨[],p.σ,p.σ⟩ cs ⟨.refl _,.nil,rfl,λj c ob h=>cR h⟩ (Rel2.map (Ht (M6 st) hd rv))).mono (λv σ' y=>y.casesOn λ{x M' as μ}g U r O=>O.elim λd O=>
  have e:fv p.σ σ':=λa o ho=>g.keep a o (λh=>dh h) ho
  have b:=st.back (as:=[]) (μ:=p.μ) (σ:=σ') (.refl _) (st.sub.trans e) e (λa h=>.inl h) g.ZL
  .mk (x:=.sh d) b.2 b.1 (S4 O.2.1 (xP U O.1 r)) (q d O.2.2)) λσ' y=>y.casesOn λ_ _ f=>f.elim
end
noncomputable abbrev sA(i:Nat):CE->CS:=.assign (.loc i)
noncomputable abbrev nI(i:Int):CE:=.const (.int i)
noncomputable abbrev v0:CE:=.loc 0
noncomputable abbrev v1:CE:=.loc 1
noncomputable abbrev v2:CE:=.loc 2
noncomputable abbrev v3:CE:=.loc 3
noncomputable abbrev v4:CE:=.loc 4
noncomputable abbrev v5:CE:=.loc 5
noncomputable abbrev v6:CE:=.loc 6
noncomputable abbrev v7:CE:=.loc 7
noncomputable abbrev v8:CE:=.loc 8
noncomputable abbrev v9:CE:=.loc 9
noncomputable abbrev i7:CE:=.loc 10
noncomputable abbrev uc:CE:=.loc 11
noncomputable abbrev BF:CE:=.loc 12
def Ly:List CS:=[
 .assign (.attr v0 6) v1,
 .assign (.attr v0 7) v2,
 .assign (.attr v0 5) v3,
 .assign (.attr v0 8) (.ZV (.cmp .Is v4 (.const .none)) v2 v4)]
def L6:List CS:=[
 sA 1 (.list []),
 sA 2 (nI 0),
 sA 3 v0,
 .ZH (.cmp .Gt v3 (nI 0)) [
  .ite (.cmp .Eq (.bin .BitAnd v3 (nI 1)) (nI 1)) [.expr (.Z9 v1 72 [v2])] [],
  sA 3 (.bin .RShift v3 (nI 1)),
  sA 2 (.bin .Add v2 (nI 1))],
 .ret v1]
def Lo:List CS:=[
 .assign (.attr v0 9) v1,
 .assign (.attr v0 10) v2,
 .assign (.attr v0 11) v3,
 .assign (.attr v0 12) v4,
 .assign (.attr v0 13) v5,
 .assign (.attr v0 14) (.list []),
 .assign (.attr v0 15) .ZU,
 .for (.loc 6) 1 v2 [.assign (.idx (.attr v0 15) (.idx v1 v6)) v6]]
def Lx:List CS:=[.ret (.Z9 (.attr v0 15) 26 [v1,(.glob (.int 2))])]
def Lv:List CS:=[.ret (.idx (.attr v0 11) v1)]
def Lw:List CS:=[.ret (.idx (.attr v0 12) v1)]
def Lq:List CS:=[.ret (.idx (.attr v0 13) v1)]
def Lr:List CS:=[.ret (.idx (.attr v0 14) v1)]
def Lp:List CS:=[
 sA 3 (.Z9 v0 71 [v1,v2]),
 .ite (.cmp .Eq v3 (.glob (.int (-1048576)))) [.ret (nI 0)] [],
 .ite (.cmp .Eq v3 (nI 0)) [.ret (.neg (.Z9 v0 95 [v1]))] [],
 .ret v3]
def Ls:List CS:=[
 sA 2 (.list []),
 .for (.loc 3) 1 (.attr v0 10) [.ite (.and (.cmp .NotEq v3 (.glob (.int 1))) (.cmp .NotEq v3 (.glob (.int 2)))) [
  sA 4 (.Z9 v0 71 [v1,v3]),
  .ite (.and (.cmp .NotEq v4 (nI 0)) (.cmp .NotEq v4 (.glob (.int (-1048576))))) [.expr (.Z9 v2 72 [v3])] []] []],
 .ret v2]
def Lu:List CS:=[
 .ite (.cmp .Eq (.Z9 v0 95 [v1]) (nI 0)) [.ret (.const (.bool false))] [],
 .for (.loc 2) 1 (.attr v0 10) [.ite (.cmp .NotEq (.Z9 v0 71 [v1,v2]) (nI 0)) [.ret (.const (.bool false))] []],
 .ret (.const (.bool true))]
def KC:List CS:=[
 .assign (.attr v0 16) v1,
 .assign (.attr v0 17) v2,
 .assign (.attr v0 18) v3,
 .assign (.attr v0 19) v4,
 .assign (.attr v0 20) v5]
def mJ:List CS:=[
 sA 8 (.comp 2 [1] false [] 0 (.attr v1 19) none (.attr v1 47)),
 sA 9 (.comp 2 [1] false [] 0 (.attr v1 19) none (.Z5 .len [(.attr v1 48)])),
 sA 10 (.comp 2 [1] false [] 0 (.attr v1 19) none (.attr v1 51)),
 .expr (.YG 142 0 [(.attr v1 9),(.attr v1 10),v8,v9,i7]),
 .assign (.attr v0 2) v1,
 .assign (.attr v0 21) v2,
 .assign (.attr v0 22) v3,
 .assign (.attr v0 14) v4,
 .assign (.attr v0 23) v5,
 .assign (.attr v0 24) v6,
 .assign (.attr v0 25) v7]
def Lh:List CS:=[.ret (.idx (.idx (.attr v0 21) v1) v2)]
def Li:List CS:=[.ret (.Z9 (.idx (.attr v0 22) v1) 26 [v2,(.neg (nI 1))])]
def Mh:List CS:=[
 sA 3 (.Z9 (.attr v0 52) 26 [(.attr (.idx (.attr v0 19) v1) 27)]),
 sA 4 (.Z9 (.attr v0 52) 26 [v2]),
 .ite (.or (.cmp .Is v3 (.const .none)) (.cmp .Is v4 (.const .none))) [.ret (.const .none)] [],
 .ite (.cmp .Gt (.idx v3 (nI 0)) (.idx v4 (nI 0))) [.ret (.const (.str "reduce"))] [],
 .ite (.cmp .Lt (.idx v3 (nI 0)) (.idx v4 (nI 0))) [.ret (.const (.str "shift"))] [],
 .ite (.cmp .Eq (.idx v4 (nI 1)) (.const (.str "left"))) [.ret (.const (.str "reduce"))] [],
 .ite (.cmp .Eq (.idx v4 (nI 1)) (.const (.str "right"))) [.ret (.const (.str "shift"))] [],
 .ite (.cmp .Eq (.idx v4 (nI 1)) (.const (.str "nonassoc"))) [.ret (.const (.str "bar"))] [],
 .ret (.const .none)]
def Lj:List CS:=[
 .assign (.attr v0 2) v1,
 .assign (.attr v0 28) (.attr v2 28),
 .assign (.attr v0 29) .ZU,
 .assign (.attr v0 22) .ZU,
 .for (.loc 4) 0 (.attr v2 30) [.ite (.cmp .Eq v4 (.glob (.int 0))) [.assign (.idx (.attr v0 29) v4) (.glob (.int 1048576))] [.ite (.cmp .Lt v4 (.attr v1 10)) [.assign (.idx (.attr v0 29) v4) (.idx (.attr v2 30) v4)] [.assign (.idx (.attr v0 22) v4) (.idx (.attr v2 30) v4)]]],
 .assign (.attr v0 31) (.list []),
 .for (.loc 5) 0 (.attr v2 32) [.expr (.Z9 (.attr v0 31) 72 [(.list [v5,(.Z9 v3 26 [(.tup [(.attr v2 28),v5]),(nI 0)])])])],
 .assign (.attr v0 33) (nI 0),
 .assign (.attr v0 24) (.list [])]
def Lm:List CS:=[.for (.loc 1) 0 (.attr v0 31) [.for (.loc 2) 0 (.call 128 [(.idx v1 (nI 1))]) [
 sA 3 (.const .none),
 .ite (.cmp .In v2 (.attr v0 29)) [sA 3 (.call 301 [(.attr v0 2),(.idx v1 (nI 0)),v2])] [],
 .ite (.cmp .IsNot v3 (.const .none)) [.expr (.Z9 v0 112 [v1,v2,v3])] []]]]
def Ll:List CS:=[
 sA 1 (.rep (nI 0) (.attr (.attr v0 2) 10)),
 .for (.loc 2) 2 (.attr v0 31) [.for (.loc 3) 0 (.call 128 [(.idx v2 (nI 1))]) [.assign (.idx v1 v3) (.neg (.idx v2 (nI 0)))]],
 .for (.loc 3) 0 (.attr v0 29) [.assign (.idx v1 v3) (.idx (.attr v0 29) v3)],
 .for (.loc 3) 0 (.call 128 [(.attr v0 33)]) [.assign (.idx v1 v3) (.glob (.int (-1048576)))],
 .ret v1]
def Lk:List CS:=[
 sA 2 (.list []),
 .for (.loc 3) 1 (.attr (.attr v0 2) 10) [
  sA 4 (.comp 2 [1] false [3] 0 (.attr v0 31) (some (.ZW (.bin .BitAnd (.idx v1 (nI 1)) (.bin .LShift (nI 1) v2)))) (.idx v1 (nI 0))),
  .ite (.and (.ZW v4) (.cmp .In v3 (.attr v0 29))) [.expr (.Z9 v2 72 [(.new 250 [(.attr v0 28),v3,(.const (.str "shift/reduce")),(.Z5 .tuple [v4]),(.idx v1 v3)])])] [],
  .for (.loc 5) 0 (.slice v4 (some (nI 1)) none) [
   sA 6 (.tup [(.idx v4 (nI 0)),v5]),
   .expr (.Z9 v2 72 [(.new 250 [(.attr v0 28),v3,(.const (.str "reduce/reduce")),v6,(.idx v1 v3)])])]],
 .ret v2]
def L9:List CS:=[
 .ite (.cmp .Gt (.idx v0 (.glob (.int 1))) (nI 0)) [.ret (nI 0)] [],
 sA 1 .ZU,
 .for (.loc 2) 0 v0 [.ite (.Zl (.glob (.int (-1048576))) v2 (nI 0)) [.assign (.idx v1 (.neg v2)) (.bin .Add (.Z9 v1 26 [(.neg v2),(nI 0)]) (nI 1))] []],
 sA 3 (nI 0),
 .for (.loc 4) 0 (.Z5 .sorted [v1]) [.ite (.or (.cmp .Eq v3 (nI 0)) (.cmp .Gt (.idx v1 v4) (.idx v1 v3))) [sA 3 v4] []],
 .ret v3]
def Mj:List CS:=[.ret (.comp 2 [1] false [1] 0 v0 none (.ZV (.cmp .Eq v1 (.neg v2)) (nI 0) v1))]
def Mb:List CS:=[
 sA 4 (.list []),
 sA 5 (.list []),
 sA 6 (.list []),
 sA 7 (.list []),
 sA 8 (.list []),
 .for (.loc 9) 0 (.attr v0 1) [
  sA 10 (.new 344 [(.attr v0 2),v9,v1]),
  .expr (.Z9 i7 73 []),
  sA 11 (.Z9 i7 74 []),
  .expr (.Z9 v7 75 [(.Z9 i7 23 [uc])]),
  .expr (.Z9 v8 75 [(.attr i7 24)]),
  sA 12 (nI 0),
  .ite (.ZW v2) [sA 12 (.call 355 [uc])] [],
  .ite (.cmp .NotEq BF (nI 0)) [sA 11 (.call 360 [uc,BF])] [],
  .expr (.Z9 v4 72 [uc]),
  .expr (.Z9 v5 72 [(.attr i7 22)]),
  .expr (.Z9 v6 72 [BF])],
 .ret (.new 292 [(.attr v0 2),v4,v5,v6,v7,v8,v3])]
def K0:List CS:=[
 .assign (.attr v0 34) v1,
 .assign (.attr v0 16) v2,
 .assign (.attr v0 35) v3,
 .assign (.attr v0 36) v4]
def K1:List CS:=[.ret (.tup [(.attr (.attr v0 34) 6),(.attr v0 16),(.Z5 .list [(.attr v0 35)])])]
def Lf:List CS:=[
 .assign (.attr v0 37) v1,
 .assign (.attr v0 3) v2,
 .assign (.attr v0 38) v3,
 .assign (.attr v0 30) v4]
def Lg:List CS:=[.ret (.and (.attr v0 37) (.cmp .Eq (.attr v0 38) (.list [])))]
def KD:List CS:=[
 .assign (.attr v0 39) v1,
 .assign (.attr v0 40) (.ZV (.cmp .Is v2 (.const .none)) (.new 399 []) v2),
 .assign (.attr v0 41) v3,
 .assign (.attr v0 42) .ZU,
 .expr (.Z9 v0 76 [])]
def KG:List CS:=[
 .assign (.attr v0 1) (.list [(nI 0)]),
 .assign (.attr v0 43) (.list []),
 .assign (.attr v0 44) (.const .none),
 .assign (.attr v0 45) (nI 0),
 .assign (.attr v0 46) (.const (.str "more")),
 .assign (.attr v0 3) (.const .none),
 .assign (.attr v0 38) (.list []),
 .assign (.attr v0 30) (.list [])]
def KU:List CS:=[.ret (.new 463 [(.cmp .Eq (.attr v0 46) (.const (.str "accepted"))),(.attr v0 3),(.Z5 .list [(.attr v0 38)]),(.Z5 .list [(.attr v0 30)])])]
def KS:List CS:=[
 sA 2 (.const (.bool false)),
 .ZH (.cmp .Eq (.attr v0 46) (.const (.str "more"))) [
  .ite (.ZW (.Z9 v0 96 [])) [
   .ite (.ZW v2) [.ret (.const (.str "more"))] [],
   .expr (.Z9 v0 109 [v1]),
   sA 2 (.const (.bool true))] [],
  .expr (.Z9 v0 97 [])],
 .ret (.attr v0 46)]
def KQ:List CS:=[.ret (.and (.cmp .Is (.attr v0 44) (.const .none)) (.cmp .Eq (.Z9 v0 77 [(.idx (.attr v0 1) (.neg (nI 1)))]) (nI 0)))]
def KP:List CS:=[
 .assign (.attr v0 44) v1,
 .assign (.attr v0 45) (.bin .Add (.attr v0 45) (nI 1))]
def KO:List CS:=[
 .ite (.cmp .NotIn v1 (.attr v0 42)) [.assign (.idx (.attr v0 42) v1) (.ZV (.ZW (.Z9 (.attr v0 39) 110 [v1])) (.Z9 (.attr v0 39) 95 [v1]) (nI 0))] [],
 .ret (.idx (.attr v0 42) v1)]
def KZ:List CS:=[
 sA 2 (.Z9 (.attr v0 39) 17 [(.attr v1 6)]),
 .ret (.ZV (.cmp .Eq v2 (.glob (.int 1))) (.glob (.int 2)) v2)]
def KR:List CS:=[
 .ite (.cmp .GtE (.Z5 .len [(.attr v0 30)]) (.attr v0 41)) [.Zr (.bin .Add (.bin .Add (.const (.str "more than ")) (.Z5 .str [(.attr v0 41)])) (.const (.str " moves"))) (.Z9 v0 111 [])] [],
 .expr (.Z9 (.attr v0 30) 72 [v1])]
def KV:List CS:=[.ret (.ZV (.cmp .Is (.attr v0 44) (.const .none)) (.const .none) (.attr (.attr v0 44) 5))]
def KJ:List CS:=[
 .assign (.attr v0 46) v1,
 .assign (.attr v0 3) v2]
def C1:List CS:=[
 sA 1 (.idx (.attr v0 1) (.neg (nI 1))),
 sA 2 (.Z9 v0 77 [v1]),
 .ite (.cmp .Gt v2 (nI 0)) [
  .expr (.Z9 v0 83 [v2]),
  .ret (.const .none)] [],
 sA 3 (.Z9 v0 78 [(.attr v0 44)]),
 sA 4 (.Z9 (.attr v0 39) 49 [v1,v3]),
 .ite (.cmp .Eq v4 (.glob (.int 1048576))) [
  .expr (.Z9 v0 79 [(.tup [(.const (.str "accept"))])]),
  .expr (.Z9 v0 86 [(.const (.str "accepted")),(.idx (.attr v0 43) (.neg (nI 1)))])] [.ite (.cmp .Gt v4 (nI 0)) [.expr (.Z9 v0 98 [v4])] [.ite (.and (.cmp .Lt v4 (nI 0)) (.ZW (.Z9 v0 113 [v3]))) [.expr (.Z9 v0 83 [(.bin .Sub (nI 0) v4)])] [.expr (.Z9 v0 114 [v3])]]]]
noncomputable def KN:List CS:=[.ret (.const (.bool true))]
def KX:List CS:=[
 .expr (.Z9 v0 79 [(.tup [(.const (.str "shift")),v1])]),
 .expr (.Z9 (.attr v0 1) 72 [v1]),
 .expr (.Z9 (.attr v0 43) 72 [(.Z9 (.attr v0 40) 98 [(.attr v0 44)])]),
 .assign (.attr v0 44) (.const .none)]
def KW:List CS:=[
 .expr (.Z9 v0 79 [(.tup [(.const (.str "reduce")),v1])]),
 sA 2 (.Z9 (.attr v0 39) 80 [v1]),
 sA 3 (.bin .Sub (.bin .Sub (.Z5 .len [(.attr v0 43)]) v2) (.Z9 (.attr v0 39) 51 [v1])),
 sA 4 (.Z9 v0 81 [v1,(.slice (.attr v0 43) (some v3) none)]),
 sA 5 (.bin .Sub (.Z5 .len [(.attr v0 43)]) v2),
 .assign (.attr v0 43) (.slice (.attr v0 43) none (some v5)),
 .assign (.attr v0 1) (.slice (.attr v0 1) none (some (.bin .Add v5 (nI 1)))),
 .expr (.Z9 v0 82 [v1,v4])]
def KE:List CS:=[.ret (.Z9 (.attr v0 40) 83 [v1,v2,(.const .none)])]
def KL:List CS:=[
 sA 3 (.Z9 (.attr v0 39) 84 [(.idx (.attr v0 1) (.neg (nI 1))),(.Z9 (.attr v0 39) 47 [v1])]),
 .ite (.cmp .Lt v3 (nI 0)) [.Zr (.bin .Add (.const (.str "no state behind rule ")) (.Z5 .str [v1])) (.Z9 v0 111 [])] [],
 .expr (.Z9 (.attr v0 1) 72 [v3]),
 .expr (.Z9 (.attr v0 43) 72 [v2])]
def KH:List CS:=[.ret (.Z9 (.attr v0 39) 35 [(.idx (.attr v0 1) (.neg (nI 1)))])]
def KY:List CS:=[
 sA 1 (.comp 2 [1] false [0] 0 (.Z9 v0 35 []) none (.idx (.attr (.attr v2 39) 9) v1)),
 .expr (.Z9 (.attr v0 38) 72 [(.new 435 [(.attr v0 44),(.idx (.attr v0 1) (.neg (nI 1))),v1,(.bin .Sub (.attr v0 45) (nI 1))])])]
def KI:List CS:=[
 .expr (.Z9 v0 85 []),
 .expr (.Z9 v0 86 [(.const (.str "aborted")),(.const .none)])]
def Ln:List CS:=[
 .assign (.attr v0 28) v1,
 .assign (.attr v0 47) v2,
 .assign (.attr v0 48) v3,
 .assign (.attr v0 27) v4,
 .assign (.attr v0 49) v5,
 .assign (.attr v0 50) v6,
 .assign (.attr v0 51) v7]
def C2:List CS:=[
 .assign (.attr v0 9) v1,
 .assign (.attr v0 10) v2,
 .assign (.attr v0 19) v3,
 .assign (.attr v0 52) v4,
 .assign (.attr v0 53) v5,
 .assign (.attr v0 54) v6,
 .assign (.attr v0 55) (.comp 2 [1] false [] 0 (.attr v0 9) none (.list [])),
 .assign (.attr v0 56) (.list []),
 .assign (.attr v0 57) (.list []),
 .for (.loc 7) 0 (.attr v0 19) [
  .expr (.Z9 (.idx (.attr v0 55) (.attr v7 47)) 72 [(.attr v7 28)]),
  .expr (.Z9 (.attr v0 56) 72 [(.Z5 .len [(.attr v0 57)])]),
  .expr (.Z9 (.attr v0 57) 75 [(.rep (.attr v7 28) (.bin .Add (.Z5 .len [(.attr v7 48)]) (nI 1)))])],
 .assign (.attr v0 58) (.Z5 .len [(.attr v0 57)])]
def K9:List CS:=[.ret (.Z5 .len [(.attr v0 9)])]
def K4:List CS:=[.ret (.cmp .Lt v1 (.attr v0 10))]
def K6:List CS:=[.ret (.ZV (.cmp .In v1 (.attr v0 9)) (.Z9 (.attr v0 9) 36 [v1]) (.neg (nI 1)))]
def K8:List CS:=[.ret (.Z5 .list [(.idx (.attr v0 55) v1)])]
def K5:List CS:=[.ret (.bin .Add (.idx (.attr v0 56) v1) v2)]
def K7:List CS:=[.ret (.idx (.attr v0 57) v1)]
def K3:List CS:=[.ret (.bin .Sub v1 (.idx (.attr v0 56) (.idx (.attr v0 57) v1)))]
def K2:List CS:=[
 sA 2 (.attr (.idx (.attr v0 19) (.idx (.attr v0 57) v1)) 48),
 sA 3 (.bin .Sub v1 (.idx (.attr v0 56) (.idx (.attr v0 57) v1))),
 .ret (.ZV (.cmp .Lt v3 (.Z5 .len [v2])) (.idx v2 v3) (.neg (nI 1)))]
def Md:List CS:=[
 sA 2 (.neg (nI 1)),
 .for (.loc 3) 0 v0 [.ite (.cmp .Lt v3 v1) [sA 2 v3] []],
 .ret v2]
def C6:List CS:=[
 sA 2 (.list []),
 .for (.tup [3,4]) 0 v0 [
  .ite (.or (.cmp .Eq v3 (.const (.str "error"))) (.cmp .In (.slice v3 none (some (nI 1))) (.tup [(.const (.str "")),(.const (.str "$")),(.const (.str "'"))]))) [.bad] [],
  .ite (.cmp .NotIn v3 v2) [.expr (.Z9 v2 72 [v3])] []],
 sA 5 (.ZV (.or (.cmp .IsNot v1 (.const .none)) (.cmp .Eq v2 (.list []))) v1 (.idx v2 (nI 0))),
 .ite (.cmp .NotIn v5 v2) [.bad] [],
 sA 6 .ZI,
 .for (.tup [3,4]) 0 v0 [.for (.loc 7) 0 v4 [.ite (.and (.cmp .NotIn v7 v2) (.cmp .NotIn v7 v6)) [.expr (.Z9 v6 72 [v7])] []]],
 sA 8 (.Z5 .len [v6]),
 sA 6 (.bin .Add (.bin .Add v6 (.list [(.const (.str "$accept"))])) v2),
 sA 9 (.list [(.new 653 [(nI 0),v8,(.tup [(.Z9 v6 36 [v5]),(.glob (.int 0))]),(.glob (.int 0))])]),
 .for (.tup [3,4]) 0 v0 [
  sA 10 (.Z5 .tuple [(.comp 2 [1] false [6] 0 v4 none (.Z9 v2 36 [v1]))]),
  .expr (.Z9 v9 72 [(.new 653 [(.Z5 .len [v9]),(.Z9 v6 36 [v3]),i7,(.call 752 [i7,v8])])])],
 .ret (.new 735 [v6,v8,v9,.ZU,(.const .none),(.Z9 v6 36 [v5])])]
def Mg:List CS:=[
 sA 2 (.tup [(.attr v0 54)]),
 sA 3 (.list [v2]),
 .for (.loc 4) 2 v1 [
  sA 5 (.idx (.attr v0 19) v4),
  sA 6 (.bin .Sub (.Z5 .len [v2]) (nI 1)),
  .ZH (.and (.cmp .GtE v6 (nI 0)) (.ZW (.Z9 v0 99 [(.idx v2 v6)]))) [sA 6 (.bin .Sub v6 (nI 1))],
  .ite (.or (.cmp .Lt v6 (nI 0)) (.cmp .NotEq (.idx v2 v6) (.attr v5 47))) [.bad] [],
  sA 2 (.bin .Add (.bin .Add (.slice v2 none (some v6)) (.attr v5 48)) (.slice v2 (some (.bin .Add v6 (nI 1))) none)),
  .expr (.Z9 v3 72 [v2])],
 .ret v3]
def Mi:List CS:=[
 sA 1 (.Z5 .list [v0]),
 .for (.loc 2) 1 (.Z5 .len [v1]) [.for (.loc 3) 1 (.Z5 .len [v1]) [.ite (.cmp .Eq (.bin .BitAnd (.bin .RShift (.idx v1 v3) v2) (nI 1)) (nI 1)) [.assign (.idx v1 v3) (.bin .BitOr (.idx v1 v3) (.idx v1 v2))] []]],
 .ret v1]
def Lc:List CS:=[
 .assign (.attr v0 28) v1,
 .assign (.attr v0 59) v2,
 .assign (.attr v0 60) v3,
 .assign (.attr v0 61) (.list []),
 .assign (.attr v0 30) .ZU,
 .assign (.attr v0 32) (.list [])]
def Ld:List CS:=[.ret (.Z9 (.attr v0 30) 26 [v1,(.glob (.int (-1)))])]
def Kx:List CS:=[
 .assign (.attr v0 2) v1,
 sA 2 (.rep (nI 0) (.Z9 v1 100 [])),
 .for (.loc 3) 0 (.attr v1 19) [.ite (.cmp .Gt (.Z5 .len [(.attr v3 48)]) (nI 0)) [.assign (.idx v2 (.attr v3 47)) (.bin .BitOr (.idx v2 (.attr v3 47)) (.bin .LShift (nI 1) (.idx (.attr v3 48) (nI 0))))] []],
 .assign (.attr v0 62) (.call 772 [v2])]
def KA:List CS:=[
 sA 2 (nI 0),
 .for (.loc 3) 0 v1 [
  sA 4 (.Z9 (.attr v0 2) 90 [v3]),
  .ite (.cmp .GtE v4 (nI 0)) [sA 2 (.bin .BitOr (.bin .BitOr v2 (.bin .LShift (nI 1) v4)) (.idx (.attr v0 62) v4))] []],
 .ret v2]
def Ky:List CS:=[
 sA 2 (.list []),
 .for (.loc 3) 0 (.call 128 [(.Z9 v0 101 [v1])]) [.for (.loc 4) 0 (.Z9 (.attr v0 2) 102 [v3]) [
  sA 5 (.Z9 (.attr v0 2) 63 [v4,(nI 0)]),
  .ite (.cmp .NotIn v5 v1) [.expr (.Z9 v2 72 [v5])] []]],
 .ret (.Z5 .sorted [v2])]
def Kz:List CS:=[.ret (.bin .Add (.Z5 .sorted [v1]) (.Z9 v0 103 [v1]))]
def L5:List CS:=[.ret (.Z9 v0 63 [(.Z9 v0 89 [v1]),(.bin .Add (.Z9 v0 104 [v1]) (nI 1))])]
def Mc:List CS:=[
 sA 2 .ZU,
 .for (.loc 3) 0 v1 [
  sA 4 (.Z9 v0 90 [v3]),
  .ite (.cmp .GtE v4 (nI 0)) [
   .ite (.cmp .NotIn v4 v2) [.assign (.idx v2 v4) (.list [])] [],
   .expr (.Z9 (.idx v2 v4) 72 [(.call 856 [v0,v3])])] []],
 sA 5 .ZU,
 .for (.loc 4) 0 (.Z5 .sorted [v2]) [.assign (.idx v5 v4) (.Z5 .tuple [(.Z5 .sorted [(.idx v2 v4)])])],
 .ret v5]
def L8:List CS:=[
 sA 2 (.list []),
 .for (.loc 3) 0 v1 [.ite (.and (.cmp .Lt (.Z9 v0 90 [v3]) (nI 0)) (.cmp .NotEq (.Z9 v0 89 [v3]) (nI 0))) [.expr (.Z9 v2 72 [(.Z9 v0 89 [v3])])] []],
 .ret (.Z5 .sorted [v2])]
def Kq:List CS:=[
 .assign (.attr v0 2) v1,
 .assign (.attr v0 1) v2]
def Ks:List CS:=[.ret (.Z9 (.idx (.attr v0 1) v1) 84 [v2])]
def Kt:List CS:=[
 .assign (.attr v0 2) v1,
 .assign (.attr v0 64) (.new 845 [v1]),
 .assign (.attr v0 1) (.list []),
 .assign (.attr v0 15) .ZU]
def Kw:List CS:=[
 .ite (.cmp .NotIn v1 (.attr v0 15)) [
  .assign (.idx (.attr v0 15) v1) (.Z5 .len [(.attr v0 1)]),
  .expr (.Z9 (.attr v0 1) 72 [(.new 803 [(.Z5 .len [(.attr v0 1)]),v1,v2])])] [],
 .ret (.idx (.attr v0 15) v1)]
def Kv:List CS:=[
 .assign (.attr v1 61) (.Z9 (.attr v0 64) 91 [(.attr v1 59)]),
 .assign (.attr v1 32) (.call 870 [(.attr v0 2),(.attr v1 61)]),
 sA 2 (.call 863 [(.attr v0 2),(.attr v1 61)]),
 .for (.loc 3) 0 v2 [.assign (.idx (.attr v1 30) v3) (.Z9 v0 92 [(.idx v2 v3),v3])]]
def Ku:List CS:=[
 .expr (.Z9 v0 92 [(.tup [(.Z9 (.attr v0 2) 63 [(nI 0),(nI 0)])]),(.glob (.int (-1)))]),
 sA 1 (nI 0),
 .ZH (.cmp .Lt v1 (.Z5 .len [(.attr v0 1)])) [
  .expr (.Z9 v0 105 [(.idx (.attr v0 1) v1)]),
  sA 1 (.bin .Add v1 (nI 1))],
 .ret (.new 922 [(.attr v0 2),(.attr v0 1)])]
def L7:List CS:=[.ret (.Z9 (.new 964 [v0]) 65 [])]
def LF:List CS:=[
 .assign (.attr v0 66) v1,
 .assign (.attr v0 67) v2,
 .assign (.attr v0 68) (.Z5 .list [v3])]
noncomputable def LG:List CS:=[.ret (.const (.bool false))]
def LH:List CS:=[.ret (.comp 2 [1] false [] 0 (.call 1081 [v0]) (some (.ZW (.Z9 v1 106 []))) (.attr v1 34))]
def LI:List CS:=[.ret (.comp 2 [1] false [] 0 (.call 1081 [v0]) (some (.not (.ZW (.Z9 v1 106 [])))) (.attr v1 67))]
def La:List CS:=[
 .assign (.attr v0 66) (.attr v1 6),
 .assign (.attr v0 67) (nI 0),
 .assign (.attr v0 68) (.list []),
 .assign (.attr v0 34) v1]
noncomputable def Lb:List CS:=[.ret (.const (.bool true))]
def Mf:List CS:=[
 sA 1 (.list []),
 sA 2 (.list [v0]),
 .ZH (.cmp .NotEq v2 (.list [])) [
  sA 3 (.Z9 v2 93 []),
  .expr (.Z9 v1 72 [v3]),
  .for (.loc 4) 0 (.attr v3 68) [.expr (.Z9 v2 72 [v4])]],
 .ret (.rev v1)]
def Ma:List CS:=[
 sA 1 (.list [v0]),
 sA 2 (.list [(.tup [(.attr v0 66)])]),
 sA 3 (.ZV (.not (.ZW (.Z9 v0 106 []))) (.list [(nI 0)]) (.list [])),
 .ZH (.cmp .NotEq v3 (.list [])) [
  sA 4 (.idx v3 (.neg (nI 1))),
  sA 1 (.bin .Add (.bin .Add (.slice v1 none (some v4)) (.attr (.idx v1 v4) 68)) (.slice v1 (some (.bin .Add v4 (nI 1))) none)),
  .expr (.Z9 v2 72 [(.Z5 .tuple [(.comp 2 [1] false [] 0 v1 none (.attr v1 66))])]),
  sA 3 (.comp 3 [1,2] true [] 3 v1 (some (.not (.ZW (.Z9 v2 106 [])))) v1)],
 .ret v2]
def Lz:List CS:=[.assign (.attr v0 9) v1]
def LC:List CS:=[.ret (.new 1072 [v1])]
def LA:List CS:=[
 sA 4 (.idx (.attr v0 9) v1),
 .ite (.ZW (.Z9 v4 94 [(.const (.str "$@"))])) [.ret (.new 1037 [v4,v1,(.list [])])] [],
 .ret (.new 1037 [v4,v1,v2])]
def Me:List CS:=[.ret (.comp 2 [1] false [0] 0 (.attr v0 11) none (.idx (.attr v2 9) v1))]
def LY:List CS:=[.ret (.list [(.Z5 .list [(.pen 0)]),(nI 0),(nI 0)])]
def C3:List CS:=[
 .ite (.cmp .Gt (.idx v0 (nI 2)) (nI 0)) [
  sA 2 (.bin .Mod (.idx v0 (nI 2)) v1),
  .assign (.idx v0 (nI 2)) (.bin .FloorDiv (.idx v0 (nI 2)) v1),
  .ret v2] [],
 sA 3 (.idx v0 (nI 1)),
 .assign (.idx v0 (nI 1)) (.bin .Add v3 (nI 1)),
 sA 4 (.bin .Add (.bin .Mult (nI 7919) v3) (nI 4127)),
 .ite (.cmp .Gt (.Z5 .len [(.idx v0 (nI 0))]) (nI 0)) [sA 4 (.idx (.idx v0 (nI 0)) (.bin .Mod v3 (.Z5 .len [(.idx v0 (nI 0))])))] [],
 .ite (.and (.cmp .Lt v3 (.Z5 .len [(.idx v0 (nI 0))])) (.cmp .GtE (.Z5 .abs [v4]) (.bin .Pow (nI 10) (nI 18)))) [
  .assign (.idx v0 (nI 2)) (.bin .Add (.bin .Mult (nI 2) (.bin .Sub (.Z5 .abs [v4]) (.bin .Pow (nI 10) (nI 18)))) (.Z5 .int [(.cmp .Lt v4 (nI 0))])),
  sA 2 (.bin .Mod (.idx v0 (nI 2)) v1),
  .assign (.idx v0 (nI 2)) (.bin .FloorDiv (.idx v0 (nI 2)) v1),
  .ret v2] [],
 sA 5 (.bin .Mod (.bin .Pow (.bin .Add (.bin .Add (.bin .Mod v4 (nI 2147483579)) (.bin .Mult (nI 92711) v3)) (nI 4651)) (nI 3)) (nI 2147483647)),
 sA 5 (.bin .Mod (.bin .Pow (.bin .Add (.bin .Add (.bin .Mult v5 (.bin .Add (.bin .Mult (nI 2) v3) (nI 369))) (.bin .Mult (nI 69117) v3)) (nI 5867)) (nI 3)) (nI 2147483629)),
 .ret (.bin .Mod (.bin .FloorDiv v5 (nI 32)) v1)]
def LW:List CS:=[
 sA 1 (.list []),
 .for (.loc 2) 0 (.slice (.list [(.const (.str "s")),(.const (.str "t")),(.const (.str "u"))]) none (some (.bin .Add (nI 2) (.call 1147 [v0,(nI 2)])))) [.for (.loc 3) 1 (.bin .Add (nI 1) (.call 1147 [v0,(nI 2)])) [
  sA 4 (.call 1147 [v0,(nI 4)]),
  .expr (.Z9 v1 72 [(.tup [v2,(.comp 2 [1] false [0] 1 v4 none (.idx (.list [(.const (.str "a")),(.const (.str "b")),(.const (.str "c")),(.const (.str "s")),(.const (.str "t")),(.const (.str "u"))]) (.call 1147 [v2,(nI 6)])))])])]],
 .ret v1]
def LL:List CS:=[
 sA 2 (.comp 3 [1,2] true [] 0 v1 none v1),
 sA 3 (.list [(.const (.str "s"))]),
 .for (.loc 4) 1 (nI 8) [
  sA 5 (.comp 2 [1] false [2,3] 1 (.Z5 .len [v3]) (some (.cmp .In (.idx v3 v1) v2)) v1),
  .ite (.cmp .NotEq v5 (.list [])) [
   sA 6 (.comp 3 [1,2] true [3,5] 0 v1 (some (.cmp .Eq v1 (.idx v3 (.idx v4 (nI 0))))) v2),
   sA 3 (.bin .Add (.bin .Add (.slice v3 none (some (.idx v5 (nI 0)))) (.idx v6 (.call 1147 [v0,(.Z5 .len [v6])]))) (.slice v3 (some (.bin .Add (.idx v5 (nI 0)) (nI 1))) none))] []],
 .ret (.slice (.comp 2 [1] false [2] 0 v3 (some (.cmp .NotIn v1 v2)) v1) none (some (nI 6)))]
def LK:List CS:=[
 sA 1 (.list []),
 .for (.tup [2,3]) 0 v0 [.ite (.cmp .NotIn v2 v1) [.expr (.Z9 v1 72 [v2])] []],
 sA 4 .ZU,
 sA 5 (.list []),
 sA 6 .ZU,
 .for (.loc 2) 0 v1 [
  .assign (.idx v4 v2) (.list []),
  .assign (.idx v6 v2) (.ZV (.cmp .Eq v2 (.idx v1 (nI 0))) (.list [(.const (.str "$end"))]) (.list []))],
 .for (.loc 7) 1 (nI 8) [.for (.tup [2,3]) 0 v0 [
  .ite (.and (.cmp .Eq (.Z5 .len [(.comp 2 [1] false [5] 0 v3 (some (.cmp .NotIn v1 v2)) v1)]) (nI 0)) (.cmp .NotIn v2 v5)) [.expr (.Z9 v5 72 [v2])] [],
  sA 9 (.idx v6 v2),
  .for (.loc 8) 0 (.rev v3) [.ite (.cmp .In v8 v1) [
   .assign (.idx v6 v8) (.bin .Add (.idx v6 v8) (.comp 2 [1] false [6,8] 0 v9 (some (.cmp .NotIn v1 (.idx v2 v3))) v1)),
   sA 9 (.bin .Add (.idx v4 v8) (.ZV (.cmp .In v8 v5) v9 (.list [])))] [sA 9 (.list [v8])]],
  .assign (.idx v4 v2) (.bin .Add (.idx v4 v2) (.comp 2 [1] false [4,2] 0 (.call 1169 [v3,v4,v5]) (some (.cmp .NotIn v1 (.idx v2 v3))) v1))]],
 .ret v6]
def LM:List CS:=[
 sA 3 (.list []),
 .for (.loc 4) 0 v0 [
  .for (.loc 5) 0 (.ZV (.cmp .In v4 v1) (.idx v1 v4) (.list [v4])) [.ite (.cmp .NotIn v5 v3) [.expr (.Z9 v3 72 [v5])] []],
  .ite (.cmp .NotIn v4 v2) [.ret v3] []],
 .ret v3]
def L4:List CS:=[
 sA 4 (.attr v2 2),
 sA 5 (.call 1162 [v3]),
 sA 6 .ZU,
 .for (.loc 7) 0 (.attr v2 1) [.for (.loc 8) 0 (.attr v7 32) [
  sA 9 (.bin .Sub (.bin .LShift (nI 1) (.attr v4 10)) (nI 1)),
  .ite (.cmp .Eq v1 (nI 0)) [
   sA 9 (nI 0),
   .for (.loc 10) 0 (.idx v5 (.idx (.idx v3 (.bin .Sub v8 (nI 1))) (nI 0))) [sA 9 (.bin .BitOr v9 (.bin .LShift (nI 1) (.Z9 v4 28 [i7])))]] [.ite (.cmp .Eq v1 (nI 1)) [sA 9 (.bin .Add (nI 1) (.bin .Mult (nI 8) (.call 1147 [v0,(nI 8)])))] []],
  .assign (.idx v6 (.tup [(.attr v7 28),v8])) (.bin .Mod v9 (.bin .LShift (nI 1) (.attr v4 10)))]],
 .ret v6]
def L2:List CS:=[
 .assign (.tup [3,4,5,6,7]) (.tup [(.list []),(nI 0),(.list [(.Z5 .tuple [v2])]),(.list []),(.const (.bool false))]),
 .for (.loc 8) 0 v1 [
  .ite (.ZW v7) [.ret (.const .none)] [],
  .ite (.cmp .Eq (.idx v8 (nI 0)) (.const (.str "shift"))) [
   .ite (.cmp .GtE v4 (.Z5 .len [v2])) [.ret (.const .none)] [],
   sA 3 (.bin .Add v3 (.list [(.idx v2 v4)])),
   sA 4 (.bin .Add v4 (nI 1))] [.ite (.cmp .Eq (.idx v8 (nI 0)) (.const (.str "reduce"))) [
    .assign (.tup [9,10]) (.idx v0 (.bin .Sub (.idx v8 (nI 1)) (nI 1))),
    .ite (.cmp .NotEq (.slice v3 (some (.bin .Sub (.Z5 .len [v3]) (.Z5 .len [i7]))) none) i7) [.ret (.const .none)] [],
    sA 3 (.bin .Add (.slice v3 none (some (.bin .Sub (.Z5 .len [v3]) (.Z5 .len [i7])))) (.list [v9])),
    .expr (.Z9 v5 72 [(.Z5 .tuple [(.bin .Add v3 (.slice v2 (some v4) none))])]),
    .expr (.Z9 v6 72 [(.idx v8 (nI 1))])] [.ite (.cmp .Eq v8 (.tup [(.const (.str "accept"))])) [
     .ite (.or (.cmp .NotEq v3 (.list [(.const (.str "s"))])) (.cmp .NotEq v4 (.Z5 .len [v2]))) [.ret (.const .none)] [],
     sA 7 (.const (.bool true))] [.ret (.const .none)]]]],
 .ret (.tup [v3,v4,v5,v6,v7])]
def LR:List CS:=[
 sA 4 (.call 1183 [v2,(.attr v0 30),v3]),
 .ite (.or (.cmp .Is v4 (.const .none)) (.cmp .NotEq (.idx v4 (nI 4)) (.cmp .Eq (.attr v0 46) (.const (.str "accepted"))))) [.ret (.const (.bool false))] [],
 sA 5 (.list [(nI 0)]),
 .for (.loc 6) 0 (.idx v4 (nI 0)) [.expr (.Z9 v5 72 [(.Z9 v1 84 [(.idx v5 (.neg (nI 1))),(.Z9 (.attr v1 2) 28 [v6])])])],
 .ret (.cmp .Eq (.attr v0 1) v5)]
def L1:List CS:=[
 .ite (.or (.ZW (.attr v0 37)) (.or (.cmp .IsNot (.attr v0 3) (.const .none)) (.cmp .NotEq (.Z5 .len [(.attr v0 38)]) (nI 1)))) [.ret (.const (.bool false))] [],
 sA 5 (.ZV (.cmp .Lt v3 (.Z5 .len [v4])) (.idx v4 v3) (.const (.str "$end"))),
 sA 6 (.idx (.attr v1 1) (.neg (nI 1))),
 sA 7 (.list []),
 .for (.loc 8) 1 (.attr v2 10) [
  sA 9 (.idx (.idx (.attr v2 21) v6) v8),
  .ite (.and (.cmp .NotEq v9 (nI 0)) (.cmp .NotIn v8 (.tup [(nI 1),(nI 2)]))) [.expr (.Z9 v7 72 [(.idx (.attr v2 9) v8)])] []],
 .ret (.and (.cmp .Eq (.Z9 (.idx (.attr v0 38) (nI 0)) 70 []) (.tup [v5,v6,v7])) (.cmp .Eq (.attr (.idx (.attr v0 38) (nI 0)) 36) v3))]
def C4:List CS:=[
 .assign (.tup [4,5,6,7,8]) (.call 1183 [v2,(.attr v0 30),v3]),
 sA 9 (.Z9 v0 69 []),
 .ite (.not (.ZW v8)) [.ret (.and (.cmp .Eq (.attr v0 46) (.const (.str "aborted"))) (.call 1197 [v9,v0,v1,v5,v3]))] [],
 sA 10 (.attr v9 3),
 .ite (.or (.not (.ZW (.Z9 v9 107 []))) (.or (.cmp .NotEq (.Z9 i7 32 []) v7) (.cmp .NotEq (.comp 2 [1] false [] 0 (.Z9 i7 115 []) none (.attr v1 6)) v3))) [.ret (.const (.bool false))] [],
 .ite (.cmp .NotEq (.Z5 .list [(.call 1086 [i7])]) (.rev v6)) [.ret (.const (.bool false))] [],
 sA 11 (.call 765 [(.attr v1 2),v7]),
 .ret (.cmp .Eq (.comp 2 [1] false [1] 0 uc none (.Z5 .tuple [(.comp 2 [1] false [2] 0 v1 none (.idx (.attr v2 9) v1))])) (.rev v6))]
def L3:List CS:=[
 sA 4 (.new 630 [v0,(.new 1124 [(.call 1133 [v0])]),(nI 60)]),
 .Zj [.for (.loc 5) 0 (.bin .Add v3 (.list [(.const (.str "$end"))])) [
  .expr (.Z9 v4 108 [(.new 117 [v5,v5,(.const .none)])]),
  .ite (.not (.ZW (.call 1190 [v4,v1,v2,v3]))) [.ret (.const (.bool false))] [],
  .ite (.cmp .NotEq (.attr v4 46) (.const (.str "more"))) [.brk] []]] 4 30 60,
 .ret (.call 1202 [v4,v0,v2,v3])]
def C5:List CS:=[
 sA 1 (.call 1140 [v0]),
 sA 2 (.call 1152 [v1]),
 sA 3 (.call 975 [(.call 758 [v2])]),
 sA 4 (.call 1147 [v1,(nI 3)]),
 sA 5 (.call 368 [v3,(.call 1176 [v1,v4,v3,v2]),(.cmp .Eq (.call 1147 [v1,(nI 2)]) (nI 0))]),
 sA 6 (.list [(.call 1157 [v1,v2]),(.call 1157 [v1,v2])]),
 .for (.loc 7) 1 (nI 2) [.expr (.Z9 v6 72 [(.comp 2 [1] false [1] 1 (.call 1147 [v1,(nI 7)]) none (.idx (.list [(.const (.str "a")),(.const (.str "b")),(.const (.str "c"))]) (.call 1147 [v2,(nI 3)])))])],
 .for (.loc 8) 0 v6 [.ite (.not (.ZW (.call 1209 [v5,v3,v2,v8]))) [.ret (.const (.bool false))] []],
 .ret (.const (.bool true))]
structure FE where
f:Nat
cs:List CS
tail:List CV
def T1:List FE:=[⟨128,L6,[.Z8,.Z8,.Z8]⟩,⟨322,Lm,[.Z8,.Z8,.Z8]⟩,⟨336,Ll,[.Z8,.Z8,.Z8]⟩,⟨355,L9,(List.replicate 4 .Z8)⟩,⟨425,K1,[]⟩,⟨460,Lg,[]⟩,⟨489,KG,[]⟩,⟨496,KU,[]⟩,⟨524,KQ,[]⟩,⟨559,KV,[]⟩,⟨573,C1,(List.replicate 4 .Z8)⟩,⟨615,KH,[]⟩,⟨620,KY,[.Z8]⟩,⟨676,K9,[]⟩,⟨758,C6,[.none,.Z8,.Z8,.Z8,.Z8,.Z8,.Z8,.Z8,.Z8,.Z8]⟩,⟨772,Mi,[.Z8,.Z8,.Z8]⟩,⟨961,Ku,[.Z8]⟩,⟨975,L7,[]⟩,⟨996,LG,[]⟩,⟨1015,LH,[]⟩,⟨1020,LI,[]⟩,⟨1062,Lb,[]⟩,⟨1081,Mf,(List.replicate 4 .Z8)⟩,⟨1086,Ma,(List.replicate 4 .Z8)⟩,⟨1133,Me,[]⟩,⟨1140,LY,[]⟩,⟨1152,LW,(List.replicate 4 .Z8)⟩,⟨1162,LK,(List.replicate 9 .Z8)⟩,⟨1214,C5,(List.replicate 8 .Z8)⟩]
def T2:List FE:=[⟨149,Lx,[]⟩,⟨156,Lv,[]⟩,⟨163,Lw,[]⟩,⟨170,Lq,[]⟩,⟨191,Lr,[]⟩,⟨212,Ls,[.Z8,.Z8,.Z8]⟩,⟨219,Lu,[.Z8]⟩,⟨341,Lk,(List.replicate 5 .Z8)⟩,⟨360,Mj,[]⟩,⟨517,KS,[.Z8]⟩,⟨531,KP,[]⟩,⟨538,KO,[]⟩,⟨545,KZ,[.Z8]⟩,⟨552,KR,[]⟩,⟨580,KN,[]⟩,⟨587,KX,[]⟩,⟨594,KW,(List.replicate 4 .Z8)⟩,⟨627,KI,[]⟩,⟨683,K4,[]⟩,⟨697,K6,[]⟩,⟨704,K8,[]⟩,⟨718,K7,[]⟩,⟨725,K3,[]⟩,⟨732,K2,[.Z8,.Z8]⟩,⟨752,Md,[.Z8,.Z8]⟩,⟨765,Mg,(List.replicate 5 .Z8)⟩,⟨793,Ld,[]⟩,⟨821,Kx,[.Z8,.Z8]⟩,⟨828,KA,[.Z8,.Z8,.Z8]⟩,⟨835,Ky,(List.replicate 4 .Z8)⟩,⟨842,Kz,[]⟩,⟨856,L5,[]⟩,⟨863,Mc,(List.replicate 4 .Z8)⟩,⟨870,L8,[.Z8,.Z8]⟩,⟨940,Kt,[]⟩,⟨954,Kv,[.Z8,.Z8]⟩,⟨1055,La,[]⟩,⟨1100,Lz,[]⟩,⟨1107,LC,[]⟩,⟨1147,C3,(List.replicate 4 .Z8)⟩,⟨1157,LL,(List.replicate 5 .Z8)⟩]
def T3:List FE:=[⟨205,Lp,[.Z8]⟩,⟨282,Lh,[]⟩,⟨289,Li,[]⟩,⟨301,Mh,[.Z8,.Z8]⟩,⟨368,Mb,[.str "lalr",.Z8,.Z8,.Z8,.Z8,.Z8,.Z8,.Z8,.Z8,.Z8]⟩,⟨566,KJ,[]⟩,⟨601,KE,[]⟩,⟨608,KL,[.Z8]⟩,⟨711,K5,[]⟩,⟨884,Kq,[]⟩,⟨891,Ks,[]⟩,⟨947,Kw,[]⟩,⟨1169,LM,[.Z8,.Z8,.Z8]⟩,⟨1183,L2,(List.replicate 8 .Z8)⟩]
def T4:List FE:=[⟨100,Ly,[.none]⟩,⟨315,Lj,[.Z8,.Z8]⟩,⟨482,KD,[]⟩,⟨786,Lc,[]⟩,⟨989,LF,[]⟩,⟨1114,LA,[.Z8]⟩,⟨1176,L4,(List.replicate 7 .Z8)⟩,⟨1190,LR,[.Z8,.Z8,.Z8]⟩,⟨1202,C4,(List.replicate 8 .Z8)⟩,⟨1209,L3,[.Z8,.Z8]⟩]
def T5:List FE:=[⟨418,K0,[]⟩,⟨453,Lf,[]⟩,⟨650,Ln,[.none,.int 0,.int 0]⟩,⟨1197,L1,(List.replicate 5 .Z8)⟩]
def T6:List FE:=[⟨142,Lo,[.Z8]⟩,⟨240,KC,[]⟩]
def T7:List FE:=[⟨669,C2,[.Z8]⟩]
abbrev mw(l:List FE)(i:Nat)(P:Nat->List CS->List CV->Prop):Prop:=List.rec (motive:=λ_=>Nat->Prop) (λ_=>True) (λ(e:FE)_ O i=>Nat.rec (motive:=λ_=>Prop) (FE.casesOn (motive:=λ_=>Prop) e P) (λj _=>O j) i) l i
theorem nV{l:List FE}{P:Nat->List CS->List CV->Prop}:∀i,(∀(i:Nat)(e:FE),l[i]?=some e->P e.f e.cs e.tail)->mw l i P:=by
 induction l with
 |nil=>exactλ_ _=>trivial
 |cons e l O=>
  intro i h
  cases i with
  |zero=>exact h 0 e rfl
  |succ j=>exact O j λi=>h (i+1)
structure dO(G:Gd):Prop where
g1:∀i,mw T1 i λf cs t=>gg G f cs 1 t
g2:∀i,mw T2 i λf cs t=>gg G f cs 2 t
g3:∀i,mw T3 i λf cs t=>gg G f cs 3 t
g4:∀i,mw T4 i λf cs t=>gg G f cs 4 t
g5:∀i,mw T5 i λf cs t=>gg G f cs 5 t
g6:∀i,mw T6 i λf cs t=>gg G f cs 6 t
g7:∀i,mw T7 i λf cs t=>gg G f cs 7 t
sup:rh G 268 (mJ.take 3) 142 0 [.attr (.loc 1) 9,.attr (.loc 1) 10,.loc 8,.loc 9,.loc 10] (mJ.drop 4) 8 [.Z8,.Z8,.Z8]
noncomputable def kh(m n:Nat):LN:=(List.range n).filter λi=>m.testBit i
theorem CY(m n:Nat):kh m (n+1)=kh m n++(if m.testBit n then[n] else[]):=by
 unfold kh
 rw[cn,bL]
 by_cases h:m.testBit n<;>simp[h]
def gP(m:Nat):LN:=kh m m
theorem CX{m n:Nat}(h:m/2^n=0)(k:Nat):kh m (n+k)=kh m n:=by
 induction k with
 |zero=>rfl
 |succ k O=>
  rw[←Nat.add_assoc,CY,O]
  have:m.testBit (n+k)=false:=by
   apply Nat.testBit_lt_two_pow
   have U:m<2^n:=by
    rcases Nat.lt_or_ge m (2^n) with q|q
    ·exact q
    ·have:=Nat.div_pos q (Nat.two_pow_pos n);exact absurd (by assumption) (Nat.ne_of_gt (by assumption))
   exact aR U (cF dQ (by exact aW _ _))
  rw[this];simp
theorem Kh{m n:Nat}(h:m/2^n=0):kh m n=gP m:=by
 unfold gP
 rcases Nat.le_total n m with q|q
 ·obtain ⟨k,rfl⟩:=Nat.exists_eq_add_of_le q
  exact(CX h k).symm
 ·obtain ⟨k,rfl⟩:=Nat.exists_eq_add_of_le q
  have:m/2^m=0:=Nat.div_eq_of_lt Nat.lt_two_pow_self
  exact CX this k
theorem Ki(m n:Nat):(kh m n).length<=n:=by
 unfold kh
 exact ae (br ..) (by simp)
structure Rl where
left:Nat
right:LN
level:Int
structure cL where
names:LQ
tc:Nat
rules:List Rl
start:Nat
namespace cL
noncomputable def len(g:cL)(r:Nat):Nat:=((g.rules[r]?).map λx=>x.right.length).getD 0
noncomputable def off(g:cL)(r:Nat):Nat:=((List.range r).map λi=>g.len i+1).sum
noncomputable def ownTo(g:cL)(n:Nat):LN:=(List.range n).flatMap λr=>List.replicate (g.len r+1) r
noncomputable def owners(g:cL):LN:=g.ownTo g.rules.length
noncomputable def leftTo(g:cL)(n s:Nat):LN:=(List.range n).filter λr=>decide ((g.rules[r]?).map (·.left)=some s)
noncomputable def ofLeft(g:cL)(s:Nat):LN:=g.leftTo g.rules.length s
variable{g:cL}
theorem off_succ(r:Nat):g.off (r+1)=g.off r+(g.len r+1):=by unfold off;rw[cn,ay,List.sum_append];simp
theorem off_mono{r s:Nat}(h:r<=s):g.off r<=g.off s:=by
 induction h with
 |refl=>exact ao _
 |step _ O=>rw[off_succ];exact ae (by assumption) (aW _ _)
theorem ownTo_succ(n:Nat):g.ownTo (n+1)=g.ownTo n++List.replicate (g.len n+1) n:=by unfold ownTo;rw[cn,List.flatMap_append];simp
theorem ownTo_len(n:Nat):(g.ownTo n).length=g.off n:=by
 induction n with
 |zero=>rfl
 |succ n O=>rw[ownTo_succ,off_succ,ak,O,bv]
theorem ownTo_at{r t:Nat}(ht:t<=g.len r):∀{n:Nat},r<n->(g.ownTo n)[g.off r+t]?=some r
 |n+1,h=>by
  rw[ownTo_succ]
  by_cases e:r=n
  ·subst e
   rw[ba (by rw[ownTo_len];exact aW _ _),ownTo_len,List.getElem?_replicate,al (by lia)]
  ·have U:r<n:=by lia
   rw[bg]
   ·exact ownTo_at ht U
   ·rw[ownTo_len]
    have:=off_mono (g:=g) (r:=r+1) (s:=n) U
    rw[off_succ] at this;lia
theorem owners_at{r t:Nat}(ht:t<=g.len r)(hr:r<g.rules.length):g.owners[g.off r+t]?=some r:=ownTo_at ht hr
theorem owners_len:g.owners.length=g.off g.rules.length:=ownTo_len _
end cL
theorem Ke(a b:Nat):Builtin.bitAnd (a:Int) (b:Int)=((a&&&b:Nat):Int):=by
 rw[bitAnd_pp (by exact bj _) (by exact bj _)];simp
theorem uM(a b:Nat):Builtin.bitOr (a:Int) (b:Int)=((a|||b:Nat):Int):=by
 unfold Builtin.bitOr Builtin.bitAnd Builtin.bitNot
 have U:¬(0:Int)<=-(a:Int)-1:=by lia
 have O:¬(0:Int)<=-(b:Int)-1:=by lia
 simp only[U,O,decide_false]
 have e1:(-(-(a:Int)-1)-1).toNat=a:=by lia
 have e2:(-(-(b:Int)-1)-1).toNat=b:=by lia
 rw[e1,e2];lia
namespace cL
variable{g:cL}
theorem code_inj{r t r' t':Nat}(U:t<=g.len r)(O:t'<=g.len r')(e:g.off r+t=g.off r'+t'):r=r'/\t=t':=by
 rcases Nat.lt_trichotomy r r' with h|h|h
 ·have:=off_mono (g:=g) (r:=r+1) (s:=r') h
  rw[off_succ] at this;lia
 ·subst h;exact⟨rfl,by exact Nat.add_left_cancel (by assumption)⟩
 ·have:=off_mono (g:=g) (r:=r'+1) (s:=r) h
  rw[off_succ] at this;lia
end cL
structure LS where
sym:Int
ker:LN
items:LN
moves:LZ
ZZ:LN
structure dz(g:cL):Prop where
tc:3<=g.tc
r0:∃l,g.rules[0]?=some ⟨g.tc,[g.start,0],l⟩
start:g.tc<g.start/\g.start<g.names.length
left:∀(r:Nat)(x:Rl),r≠0->g.rules[r]?=some x->g.tc<x.left/\x.left<g.names.length
right:∀(r:Nat)(x:Rl),r≠0->g.rules[r]?=some x->x.right.length<=3/\∀s∈x.right,3<=s/\s≠g.tc/\s<g.names.length
rules:g.rules.length<=7
names:g.names.length<=20
ZN:g.tc<=8
nodup:g.names.Nodup
def lB(g:cL)(c X:Nat):Prop:=∃r t x,g.rules[r]?=some x/\c=g.off r+t/\x.right[t]?=some X
structure Good(g:cL)(sts:List LS)(q:LS):Prop where
it:∀c∈q.items,∃r t x,g.rules[r]?=some x/\t<=x.right.length/\c=g.off r+t
cl:∀c∈q.items,c∈q.ker∨∃r x c',r≠0/\g.rules[r]?=some x/\c=g.off r/\c'∈q.items/\lB g c' x.left
mv:∀c∈q.items,∀X,lB g c X->∃q',q.moves.lookup X=some q'
to:∀X q',q.moves.lookup X=some q'->0<q'/\(∃c∈q.items,lB g c X)/\∃p,sts[q']?=some p/\∀c∈p.ker,∃r t x,g.rules[r]?=some x/\c=g.off r+(t+1)/\x.right[t]?=some X/\g.off r+t∈q.items
red:∀r∈q.ZZ,r≠0/\∃x,g.rules[r]?=some x/\g.off r+x.right.length∈q.items
keys:(q.moves.map (·.1)).Nodup
rl:q.ZZ.length<=7
structure kM(g:cL)(sts:List LS):Prop where
good:∀(i:Nat)(q:LS),sts[i]?=some q->Good g sts q
zero:∃q,sts[0]?=some q/\q.ker=[0]
size:sts.length<=2^18+2
inductive Wy(sts:List LS):LN->Nat->LN->Prop
|nil:Wy sts [] 0 []
|snoc {ps xs p X q s}:Wy sts ps p xs->sts[p]?=some s->s.moves.lookup X=some q->Wy sts (ps++[p]) q (xs++[X])
inductive gm(sts:List LS)(pp xs:LN):Prop
|mk {ps p}:pp=ps++[p]->Wy sts ps p xs->gm sts pp xs
section
variable{g:cL}{sts:List LS}(ok:dz g)(au:kM g sts)
theorem jm{r:Nat}{x:Rl}(h:g.rules[r]?=some x):g.len r=x.right.length:=by unfold cL.len;rw[h];rfl
theorem E0{r t:Nat}{x:Rl}{s:LS}(gs:Good g sts s)(hr:g.rules[r]?=some x)(ht:t+1<=x.right.length)(hc:g.off r+(t+1)∈s.items):g.off r+(t+1)∈s.ker:=
 (gs.cl _ hc).elim id λh=>h.elim λO h=>h.elim λU h=>h.elim λc' h=>absurd (cL.code_inj (g:=g) (t:=t+1) (t':=0) (jm hr▸ht) (aL _) h.2.2.1).2 (Nat.succ_ne_zero t)
theorem V4{r t X p:Nat}{x:Rl}{s s':LS}(gs:Good g sts s')(hm:s'.moves.lookup X=some p)(hs:sts[p]?=some s)(hr:g.rules[r]?=some x)(ht:t+1<=x.right.length)(hk:g.off r+(t+1)∈s.ker):x.right[t]?=some X/\g.off r+t∈s'.items:=
 (gs.to X p hm).2.2.elim λp2 h=>(h.2 _ (aq (h.1.symm.trans hs)▸hk)).elim λO h=>h.elim λt' h=>h.elim λx' h=>by
  have e:=cL.code_inj (g:=g) (t:=t+1) (t':=t'+1) (jm hr▸ht) (jm h.1▸(aO.mp h.2.2.1).1) h.2.1
  have U:=h.2.2
  rw[←e.1,←bO e.2] at U
  exact⟨aq (hr.symm.trans ((aj (g.rules[·]?) e.1).trans h.1))▸U.1,U.2⟩
theorem xw{r r':Nat}(e:g.off r=g.off r'):r=r':=(cL.code_inj (g:=g) (t:=0) (t':=0) (aL _) (aL _) e).1
theorem Wy.len{ps xs:LN}{p:Nat}(O:Wy sts ps p xs):ps.length=xs.length:=by
 induction O with
 |nil=>rfl
 |snoc _ _ _ U=>rw[ak,ak,U];rfl
theorem gm.out{ps xs:LN}{p:Nat}(h:gm sts (ps++[p]) xs):Wy sts ps p xs:=h.casesOn λe w=>by
 rw[(List.append_inj' e rfl).1,(bZ (List.append_inj' e rfl).2).1];exact w
theorem gm.snoc{ps xs:LN}{p q X:Nat}{s:LS}(h:gm sts (ps++[p]) xs)(hs:sts[p]?=some s)(hm:s.moves.lookup X=some q):gm sts (ps++[p]++[q]) (xs++[X]):=.mk rfl (h.out.snoc hs hm)
theorem gm.len{ps xs:LN}(h:gm sts ps xs):ps.length=xs.length+1:=h.casesOn λe w=>by rw[e,ak,w.len];rfl
include au
theorem gm.top{ps xs:LN}{p:Nat}(O:gm sts (ps++[p]) xs):∃s,sts[p]?=some s:=by
 cases O.out with
 |nil=>exact au.zero.imp λ_ h=>h.1
 |snoc _ U hm=>exact((au.good _ _ U).to _ _ hm).2.2.imp λ_ h=>h.1
theorem Wy.Y9{ps xs:LN}{p r:Nat}{s:LS}(O:Wy sts ps p xs)(hs:sts[p]?=some s)(hk:g.off r∈s.ker):r=0/\xs=[]:=by
 cases O with
 |nil=>exact au.zero.elim λq h=>⟨xw (aF.mp (h.2▸aq (hs.symm.trans h.1)▸hk)),rfl⟩
 |snoc _ U hm=>exact((au.good _ _ U).to _ _ hm).2.2.elim λp2 h=>(h.2 _ (aq (h.1.symm.trans hs)▸hk)).elim λr' h=>h.elim λt' h=>h.elim λx' h=>absurd (cL.code_inj (g:=g) (t:=0) (t':=t'+1) (aL _) (jm h.1▸(aO.mp h.2.2.1).1) h.2.1).2.symm (Nat.succ_ne_zero t')
inductive B0(sts:List LS)(g:cL)(r t:Nat)(x:Rl)(pp xs:LN):Prop
|mk {xs₀ ps₀ p₀ s₀}:xs=xs₀++x.right.take t->pp.take (xs₀.length+1)=ps₀++[p₀]->Wy sts ps₀ p₀ xs₀->sts[p₀]?=some s₀->g.off r∈s₀.items->B0 sts g r t x pp xs
theorem Wy.back{ps xs:LN}{p:Nat}(wy:Wy sts ps p xs):∀{s:LS}{r t:Nat}{x:Rl},sts[p]?=some s->g.rules[r]?=some x->t<=x.right.length->g.off r+t∈s.items->B0 sts g r t x (ps++[p]) xs:=by
 induction wy with
 |nil=>
  intro s r t x U hr ht hc
  cases t with
  |zero=>exact .mk (xs₀:=[]) (ps₀:=[]) rfl rfl .nil U hc
  |succ t=>exact au.zero.elim λq h=>absurd (aF.mp (h.2▸aq (U.symm.trans h.1)▸E0 (au.good _ _ U) hr ht hc)) (Nat.succ_ne_zero _)
 |@snoc ps xs p' X q s' wy O hm ih=>
  intro s r t x U hr ht hc
  cases t with
  |zero=>exact .mk (xs₀:=xs++[X]) (ps₀:=ps++[p']) (aS _).symm (cz (bn (by rw[ak,ak,ak,wy.len];rfl))) (wy.snoc O hm) U hc
  |succ t=>
   have h:=V4 (au.good _ _ O) hm U hr ht (E0 (au.good _ _ U) hr ht hc)
   refine(ih O hr (Nat.le_of_succ_le ht) h.2).casesOn λ{xs₀ ps₀ p₀ s₀}q1 q2 q3 q4 q5=>.mk (xs₀:=xs₀) ?_ (.trans (List.take_append_of_le_length ?_) q2) q3 q4 q5
   ·rw[List.take_add_one,h.1,q1,aP];rfl
   ·rw[ak,wy.len,q1,ak]
    exact aK (aW _ _)
inductive Cr(sts:List LS)(g:cL)(r:Nat)(pp xs:LN):Prop
|mk {x xs₀ ps₀ p₀ s₀ q'}:g.rules[r]?=some x->r≠0->xs=xs₀++x.right->pp.take (xs₀.length+1)=ps₀++[p₀]->sts[p₀]?=some s₀->s₀.moves.lookup x.left=some q'->gm sts (ps₀++[p₀]++[q']) (xs₀++[x.left])->Cr sts g r pp xs
theorem gm.reduce{ps xs:LN}{p r:Nat}{s:LS}(wy:gm sts (ps++[p]) xs)(hs:sts[p]?=some s)(hr:r∈s.ZZ):Cr sts g r (ps++[p]) xs:=
 ((au.good p s hs).red r hr).2.elim λx h=>(wy.out.back au hs h.1 (ao _) h.2).casesOn λ{O ps₀ p₀ s₀}q1 q2 q3 U q5=>
  ((au.good p₀ s₀ U).cl _ q5).elim (λk=>absurd (q3.Y9 au U k).1 ((au.good p s hs).red r hr).1) λk=>k.elim λr' k=>k.elim λx' k=>k.elim λc' k=>
   have e:x'=x:=aq (k.2.1.symm.trans ((aj (g.rules[·]?) (xw k.2.2.1).symm).trans h.1))
   ((au.good p₀ s₀ U).mv c' k.2.2.2.1 _ k.2.2.2.2).elim λq' hq=>.mk h.1 ((au.good p s hs).red r hr).1 (q1.trans (aj (O++·) (List.take_length ..))) q2 U (e▸hq) (.mk rfl (q3.snoc U (e▸hq)))
include ok
theorem gm.accept{ps xs:LN}{p q:Nat}{s:LS}(wy:gm sts (ps++[p]) xs)(hs:sts[p]?=some s)(hm:s.moves.lookup 0=some q):xs=[g.start]:=by
 refine((au.good p s hs).to _ _ hm).2.1.elim λc h=>h.2.elim λr k=>k.elim λt k=>k.elim λx k=>ok.r0.elim λl hl=>?_
 have hr:r=0:=by
  by_cases e:r=0
  ·exact e
  ·exact absurd ((ok.right r x e k.1).2 0 (ax k.2.2)).1 dQ
 have hx:x=⟨g.tc,[g.start,0],l⟩:=aq (k.1.symm.trans ((aj (g.rules[·]?) hr).trans hl))
 have O:([g.start,0]:LN)[t]?=some 0:=by have:=k.2.2;rwa [hx] at this
 have ht:t=1:=by
  cases t with
  |zero=>exact absurd (aq O) (Nat.ne_of_gt (aX (aL _) ok.start.1))
  |succ t=>cases t with
   |zero=>rfl
   |succ t=>exact cR O
 have hc:=h.1
 rw[k.2.1,hr,ht] at hc
 refine(wy.out.back au (t:=1) hs hl (aU 1) hc).casesOn λ{U ps₀ p₀ s₀}q1 q2 q3 q4 q5=>?_
 refine((au.good p₀ s₀ q4).cl _ q5).elim (λk=>q1.trans (aj (·++[g.start]) (q3.Y9 au q4 k).2)) λk=>k.elim λr' k=>k.elim λx' k=>k.elim λc' k=>absurd (xw (g:=g) k.2.2.1).symm k.1
end
noncomputable def e7(n:Nat)(l:LN):LN:=(List.range n).filter λc=>decide (c∈l)
theorem lh{n:Nat}{l:LN}{c:Nat}:c∈e7 n l↔c<n/\c∈l:=by unfold e7;simp
theorem qT(n:Nat)(l:LN):(e7 n l).length<=n:=ae (br ..) (by simp)
theorem nh(n:Nat)(l:LN):(e7 n l).Nodup:=List.Nodup.sublist b0 List.nodup_range
theorem OS{n:Nat}{l:LN}(hd:l.Nodup)(hl:∀x∈l,x<n):lW (l.map λi:Nat=>(i:Int))=(e7 n l).map λi:Nat=>(i:Int):=by
 symm
 refine EM (List.Perm.map _ ?_) ?_
 ·exact(List.perm_ext_iff_of_nodup (nh n l) hd).mpr λa=>⟨λh=>(lh.mp h).2,λh=>lh.mpr ⟨hl a h,h⟩⟩
 ·rw[List.pairwise_map]
  refine List.Pairwise.imp (λ{a b}h=>?_) (List.Pairwise.filter _ (List.pairwise_lt_range (n:=n)))
  exact b7.mpr (aH h)
theorem Bs(n:Nat)(l:LN):e7 n (e7 n l)=e7 n l:=by
 unfold e7
 apply List.filter_congr
 intro x U
 simp at U⊢
 intro _;exact U
theorem HJ{n:Nat}{l O:LN}(h:∀c,c<n->(c∈l↔c∈O)):e7 n l=e7 n O:=by
 unfold e7
 apply List.filter_congr
 intro x U
 simp at U
 rw[decide_eq_decide];exact h x U
def kU(n:Nat)(R F:LN):Prop:=F.length=n/\(∀(X m:Nat),F[X]?=some m->m<2^n)/\∀(X m Y:Nat),F[X]?=some m->m.testBit Y=true->∃Z z,(Z=X∨m.testBit Z=true)/\R[Z]?=some z/\z.testBit Y=true
theorem kU.start{n:Nat}{R:LN}(h:R.length=n)(hb:∀(X m:Nat),R[X]?=some m->m<2^n):kU n R R:=⟨h,hb,λX m Y hm U=>⟨X,m,.inl rfl,hm,U⟩⟩
theorem kU.step{n:Nat}{R F:LN}{one kC a b:Nat}(h:kU n R F)(ha:F[one]?=some a)(hb:F[kC]?=some b)(ht:a.testBit kC=true):kU n R (F.set one (a|||b)):=by
 obtain ⟨h1,O,U⟩:=h
 refine⟨by simp[h1],λX m hm=>?_,λX m Y hm hy=>?_⟩
 ·rw[List.getElem?_set] at hm
  split at hm
  ·split at hm
   ·cases hm;exact Nat.or_lt_two_pow (O _ _ ha) (O _ _ hb)
   ·exact cR hm
  ·exact O _ _ hm
 ·rw[List.getElem?_set] at hm
  split at hm
  ·rename_i e
   subst e
   split at hm
   ·cases hm
    rw[Nat.testBit_or,Bool.or_eq_true] at hy
    rcases hy with hy|hy
    ·obtain ⟨Z,z,q1,q2,q3⟩:=U one a Y ha hy
     refine⟨Z,z,?_,q2,q3⟩
     rcases q1 with q1|q1
     ·exact .inl q1
     ·exact .inr (by rw[Nat.testBit_or,q1];rfl)
    ·obtain ⟨Z,z,q1,q2,q3⟩:=U kC b Y hb hy
     refine⟨Z,z,.inr ?_,q2,q3⟩
     rcases q1 with q1|q1
     ·subst q1;rw[Nat.testBit_or,ht];rfl
     ·rw[Nat.testBit_or,q1,Bool.or_true]
   ·exact cR hm
  ·exact U X m Y hm hy
theorem US(a m:Nat):(a>>>m)&&&1=1↔a.testBit m=true:=by
 rw[Nat.testBit,bne_iff_ne,Nat.and_comm,Nat.one_and_eq_mod_two];lia
noncomputable def kW(x:Rl)(t:Nat):Int:=match x.right[t]? with
|some s=>s
|none=>-1
theorem xf{x:Rl}{t:Nat}(h:t<x.right.length):∃s,x.right[t]?=some s/\kW x t=s:=by
 refine⟨x.right[t],aC h,?_⟩
 unfold kW;rw[aC h]
def d9(g:cL)(c:Nat):Prop:=∃r t x,g.rules[r]?=some x/\t<=x.right.length/\c=g.off r+t
def dg(g:cL)(c:Nat):Int:=match g.owners[c]? with
|some r=>match g.rules[r]? with
 |some x=>kW x (c-g.off r)
 |none=>-1
|none=>-1
noncomputable def iy(g:cL)(c:Nat):Nat:=(g.owners[c]?).getD 0
noncomputable def NN(g:cL):Nat:=g.off g.rules.length
section
variable{g:cL}
theorem uJ{r t:Nat}{x:Rl}(hr:g.rules[r]?=some x)(ht:t<=x.right.length):dg g (g.off r+t)=kW x t:=by
 unfold dg
 rw[cL.owners_at (g:=g) (by rw[jm hr];exact ht) (aO.mp hr).1]
 simp only[hr]
 congr 1;lia
theorem qO{r t:Nat}{x:Rl}(hr:g.rules[r]?=some x)(ht:t<=x.right.length):iy g (g.off r+t)=r:=by
 unfold iy
 rw[cL.owners_at (g:=g) (by rw[jm hr];exact ht) (aO.mp hr).1];rfl
theorem kX{c X:Nat}(h:d9 g c):dg g c=(X:Int)↔lB g c X:=by
 obtain ⟨r,t,x,hr,O,rfl⟩:=h
 rw[uJ hr O]
 constructor
 ·intro h
  refine⟨r,t,x,hr,rfl,?_⟩
  unfold kW at h
  split at h
  ·rename_i s hs;rw[hs];congr 1;exact Int.ofNat.inj (by assumption)
  ·lia
 ·rintro ⟨r',t',x',U,h2,h3⟩
  have ht':t'<x'.right.length:=(aO.mp h3).1
  obtain ⟨rfl,rfl⟩:=cL.code_inj (g:=g) (by rw[jm hr];exact O) (by rw[jm U];exact aH (by assumption)) h2
  rw[hr] at U;cases U
  unfold kW;rw[h3]
theorem d9.lt{c:Nat}(h:d9 g c):c<NN g:=by
 obtain ⟨r,t,x,hr,O,rfl⟩:=h
 have U:=cL.off_mono (g:=g) (r:=r+1) (s:=g.rules.length) (aO.mp hr).1
 rw[cL.off_succ,jm hr] at U
 unfold NN;lia
theorem lI(ok:dz g):NN g<=28:=by
 have hl:∀r,g.len r<=3:=λr=>by
  unfold cL.len
  cases h:g.rules[r]? with
  |none=>simp
  |some x=>
   simp
   by_cases U:r=0
   ·subst U;obtain ⟨l,hl⟩:=ok.r0;rw[hl] at h;cases h;simp
   ·exact(ok.right r x U h).1
 have:∀n,g.off n<=4*n:=λn=>by
  induction n with
  |zero=>exact ao _
  |succ n O=>rw[cL.off_succ];have:=hl n;lia
 have h2:=this g.rules.length
 have:=ok.rules
 unfold NN;lia
theorem lB.sym{c X:Nat}(ok:dz g)(h:lB g c X):X<g.names.length/\X≠g.tc:=by
 obtain ⟨r,t,x,hr,_,hx⟩:=h
 have hm:=ax hx
 by_cases U:r=0
 ·subst U;obtain ⟨l,hl⟩:=ok.r0;rw[hl] at hr;cases hr
  have:=ok.start;have:=ok.tc
  simp at hm;lia
 ·obtain ⟨_,O⟩:=ok.right r x U hr
  exact⟨(O X hm).2.2,(O X hm).2.1⟩
def gf(g:cL)(F:LN)(l:LN):Nat:=l.foldl (λm c=>if 0<=dg g c then m|||2^(dg g c).toNat|||F.getD (dg g c).toNat 0 else m) 0
def j7(g:cL)(F ker:LN):LN:=(gP (gf g F ker)).flatMap λX=>((g.ofLeft X).map g.off).filter λc=>decide (c∉ker)
def eh(g:cL)(F ker:LN):LN:=e7 (NN g) ker++e7 (NN g) (j7 g F ker)
theorem yH{m Y:Nat}:Y∈gP m↔m.testBit Y=true:=by
 unfold gP kh
 simp only[List.mem_filter,List.mem_range,and_iff_right_iff_imp]
 intro h
 exact aR Nat.lt_two_pow_self (Nat.ge_two_pow_of_testBit h)
theorem IW(F:LN)(Y:Nat):∀(l:LN)(m:Nat),(l.foldl (λm c=>if 0<=dg g c then m|||2^(dg g c).toNat|||F.getD (dg g c).toNat 0 else m) m).testBit Y=true↔
 m.testBit Y=true∨∃c∈l,0<=dg g c/\(Y=(dg g c).toNat∨(F.getD (dg g c).toNat 0).testBit Y=true)
 |[],m=>by simp
 |c::l,m=>by
  rw[List.foldl_cons,IW F Y l]
  by_cases h:0<=dg g c
  ·rw[al h,Nat.testBit_or,Nat.testBit_or,Nat.testBit_two_pow]
   simp only[Bool.or_eq_true,decide_eq_true_eq,List.mem_cons,exists_eq_or_imp]
   constructor
   ·rintro (((h1|h1)|h1)|h1)
    ·exact .inl h1
    ·exact .inr (.inl ⟨h,.inl h1.symm⟩)
    ·exact .inr (.inl ⟨h,.inr h1⟩)
    ·exact .inr (.inr h1)
   ·rintro (h1|⟨_,h1|h1⟩|h1)
    ·exact .inl (.inl (.inl h1))
    ·exact .inl (.inl (.inr h1.symm))
    ·exact .inl (.inr h1)
    ·exact .inr h1
  ·rw[av h]
   simp only[List.mem_cons,exists_eq_or_imp]
   constructor
   ·rintro (h1|h1)
    ·exact .inl h1
    ·exact .inr (.inr h1)
   ·rintro (h1|⟨O,_⟩|h1)
    ·exact .inl h1
    ·exact absurd O h
    ·exact .inr h1
theorem BN{F l:LN}{Y:Nat}:(gf g F l).testBit Y=true↔∃c∈l,0<=dg g c/\(Y=(dg g c).toNat∨(F.getD (dg g c).toNat 0).testBit Y=true):=by
 unfold gf;rw[IW];simp
theorem su{X r:Nat}:r∈g.ofLeft X↔∃x,g.rules[r]?=some x/\x.left=X:=by
 unfold cL.ofLeft cL.leftTo
 simp only[List.mem_filter,List.mem_range,decide_eq_true_eq]
 constructor
 ·rintro ⟨h1,O⟩
  obtain ⟨x,U,e⟩:=Option.map_eq_some_iff.mp O
  exact⟨x,U,e⟩
 ·rintro ⟨x,U,e⟩
  exact⟨(aO.mp U).1,by rw[U];simp[e]⟩
theorem yG{F ker:LN}{c:Nat}:c∈j7 g F ker↔c∉ker/\∃r x,g.rules[r]?=some x/\c=g.off r/\(gf g F ker).testBit x.left=true:=by
 unfold j7
 simp only[List.mem_flatMap,List.mem_filter,List.mem_map,decide_eq_true_eq,yH]
 constructor
 ·rintro ⟨X,U,⟨r,hr,rfl⟩,hn⟩
  obtain ⟨x,O,rfl⟩:=su.mp hr
  exact⟨hn,r,x,O,rfl,U⟩
 ·rintro ⟨hn,r,x,O,rfl,U⟩
  exact⟨x.left,U,⟨r,su.mpr ⟨x,O,rfl⟩,rfl⟩,hn⟩
theorem vF{F ker:LN}{c:Nat}(hk:∀c∈ker,c<NN g):c∈eh g F ker↔c∈ker∨∃r x,g.rules[r]?=some x/\c=g.off r/\(gf g F ker).testBit x.left=true:=by
 unfold eh
 rw[aI,lh,lh,yG]
 constructor
 ·rintro (⟨_,h⟩|⟨_,_,h⟩)
  ·exact .inl h
  ·exact .inr h
 ·rintro (h|⟨r,x,U,rfl,h⟩)
  ·exact .inl ⟨hk c h,h⟩
  ·by_cases O:g.off r∈ker
   ·exact .inl ⟨hk _ O,O⟩
   ·exact .inr ⟨(d9.lt ⟨r,0,x,U,by exact aL _,rfl⟩),O,r,x,U,rfl,h⟩
theorem AC{r r':Nat}(h:g.off r=g.off r'):r=r':=(cL.code_inj (g:=g) (t:=0) (t':=0) (by exact aL _) (by exact aL _) (by assumption)).1
theorem CH(F ker:LN):(j7 g F ker).Nodup:=by
 unfold j7
 have hb:(gP (gf g F ker)).Nodup:=List.Nodup.sublist b0 List.nodup_range
 rw[List.Nodup,List.pairwise_flatMap]
 refine⟨λX _=>?_,?_⟩
 ·refine List.Nodup.sublist b0 ?_
  rw[List.Nodup,List.pairwise_map]
  refine List.Pairwise.imp (λ{a b}h e=>h (AC e)) (show(g.ofLeft X).Pairwise (·≠·) from List.Nodup.sublist b0 List.nodup_range)
 ·refine List.Pairwise.imp (λ{a b}h=>?_) hb
  intro c h1 c' h2 ec
  subst ec
  simp only[List.mem_filter,List.mem_map] at h1 h2
  obtain ⟨⟨r,hr,rfl⟩,_⟩:=h1
  obtain ⟨⟨r',U,e⟩,_⟩:=h2
  obtain rfl:=AC e
  obtain ⟨x,hx,rfl⟩:=su.mp hr
  obtain ⟨x',O,e2⟩:=su.mp U
  rw[hx] at O;cases O
  exact h e2
theorem CG{F ker:LN}{c:Nat}(h:c∈j7 g F ker):d9 g c:=by
 obtain ⟨_,r,x,U,e,_⟩:=yG.mp h
 exact⟨r,0,x,U,by exact aL _,by assumption⟩
theorem JD(F ker:LN)(ok:dz g):(j7 g F ker).length<=28:=by
 have:=cG (CH (g:=g) F ker) (l₂:=List.range (NN g)) (λc O=>ch.mpr (CG O).lt)
 rw[aQ] at this
 have:=lI ok;exact ae (by assumption) (by assumption)
end
structure jy(g:cL)(F:LN):Prop where
len:F.length=g.names.length
lt:∀(X m:Nat),F[X]?=some m->m<2^g.names.length
has:∀(X m Y:Nat),F[X]?=some m->m.testBit Y=true->∃(Z r:Nat)(x:Rl),(Z=X∨m.testBit Z=true)/\g.rules[r]?=some x/\x.left=Z/\x.right[0]?=some Y
structure pK(g:cL)(R:LN):Prop where
len:R.length=g.names.length
lt:∀(X m:Nat),R[X]?=some m->m<2^g.names.length
has:∀(X m Y:Nat),R[X]?=some m->m.testBit Y=true->∃(r:Nat)(x:Rl),g.rules[r]?=some x/\x.left=X/\x.right[0]?=some Y
theorem pK.step{g:cL}{R:LN}{r:Nat}{x:Rl}{Y a:Nat}(h:pK g R)(U:g.rules[r]?=some x)(hy:x.right[0]?=some Y)(ha:R[x.left]?=some a)(O:Y<g.names.length):pK g (R.set x.left (a|||2^Y)):=by
 refine⟨by simp[h.len],λX m hm=>?_,λX m Z hm hz=>?_⟩
 ·rw[List.getElem?_set] at hm
  split at hm
  ·split at hm
   ·cases hm;exact Nat.or_lt_two_pow (h.lt _ _ ha) (Nat.pow_lt_pow_right dQ O)
   ·exact cR hm
  ·exact h.lt _ _ hm
 ·rw[List.getElem?_set] at hm
  split at hm
  ·rename_i e
   split at hm
   ·cases hm
    rw[Nat.testBit_or,Bool.or_eq_true] at hz
    rcases hz with hz|hz
    ·exact h.has X a Z (e▸ha) hz
    ·rw[Nat.testBit_two_pow,decide_eq_true_eq] at hz
     subst hz
     exact⟨r,x,U,e,hy⟩
   ·exact cR hm
  ·exact h.has _ _ _ hm hz
theorem NI{g:cL}{R F:LN}(h:pK g R)(t:kU R.length R F):jy g F:=by
 obtain ⟨t1,t2,t3⟩:=t
 refine⟨by rw[t1,h.len],λX m hm=>by rw[←h.len];exact t2 _ _ hm,λX m Y hm U=>?_⟩
 obtain ⟨Z,z,q1,q2,O⟩:=t3 X m Y hm U
 obtain ⟨r,x,a1,a2,a3⟩:=h.has Z z Y q2 O
 exact⟨Z,r,x,q1,a1,a2,a3⟩
theorem Us(g:cL):pK g (List.replicate g.names.length 0):=by
 refine⟨by simp,λX m hm=>?_,λX m Y hm U=>?_⟩
 ·rw[List.getElem?_replicate] at hm
  split at hm
  ·cases hm;exact Nat.two_pow_pos _
  ·exact cR hm
 ·rw[List.getElem?_replicate] at hm
  split at hm
  ·cases hm;simp at U
  ·exact cR hm
section
variable{g:cL}
theorem xo{F ker:LN}(ok:dz g)(hF:jy g F)(hk:∀c∈ker,d9 g c){c:Nat}(h:c∈eh g F ker):c∈ker∨∃r x c',r≠0/\g.rules[r]?=some x/\c=g.off r/\c'∈eh g F ker/\lB g c' x.left:=by
 have O:∀c∈ker,c<NN g:=λc hc=>(hk c hc).lt
 rcases (vF O).mp h with h|⟨r,x,hx,rfl,hw⟩
 ·exact .inl h
 ·obtain ⟨U,hc0,h0,hy⟩:=BN.mp hw
  have key:∃c',c'∈eh g F ker/\lB g c' x.left:=by
   rcases hy with hy|hy
   ·exact⟨U,(vF O).mpr (.inl hc0),(kX (hk U hc0)).mp (by rw[hy];exact(Int.toNat_of_nonneg (by assumption)).symm)⟩
   ·have hX:dg g U=((dg g U).toNat:Int):=by exact(Int.toNat_of_nonneg (by assumption)).symm
    obtain ⟨m,hm⟩:∃m,F[(dg g U).toNat]?=some m:=by
     cases e:F[(dg g U).toNat]? with
     |none=>rw[cw,e] at hy;simp at hy
     |some m=>exact⟨m,rfl⟩
    rw[cw,hm] at hy
    obtain ⟨Z,r',x',hz,hx',rfl,hy'⟩:=hF.has _ m _ hm hy
    refine⟨g.off r',(vF O).mpr (.inr ⟨r',x',hx',rfl,BN.mpr ⟨U,hc0,h0,?_⟩⟩),r',0,x',hx',rfl,hy'⟩
    rcases hz with hz|hz
    ·exact .inl hz
    ·exact .inr (by rw[cw,hm];exact hz)
  obtain ⟨c',h1,h2⟩:=key
  refine .inr ⟨r,x,c',λe=>?_,hx,rfl,h1,h2⟩
  subst e
  obtain ⟨l,hl⟩:=ok.r0
  rw[hl] at hx;cases hx
  exact(h2.sym ok).2 rfl
theorem yn{F ker:LN}(hk:∀c∈ker,d9 g c){c:Nat}(h:c∈eh g F ker):d9 g c:=by
 rcases (vF λc O=>(hk c O).lt).mp h with h|⟨r,x,U,rfl,_⟩
 ·exact hk c h
 ·exact⟨r,0,x,U,by exact aL _,by exact rfl⟩
def fV(g:cL)(items:LN)(X:Nat):LN:=e7 (NN g) ((items.filter λc=>decide (dg g c=(X:Int))).map (·+1))
def eO(g:cL)(items:LN):LN:=e7 g.names.length ((items.filter λc=>decide (0<=dg g c)).map λc=>(dg g c).toNat)
def o5(g:cL)(items:LN):LN:=e7 g.rules.length ((items.filter λc=>decide (dg g c<0/\iy g c≠0)).map (iy g))
theorem qs{items:LN}(hi:∀c∈items,d9 g c){X c:Nat}:c∈fV g items X↔∃r t x,g.rules[r]?=some x/\c=g.off r+(t+1)/\x.right[t]?=some X/\g.off r+t∈items:=by
 unfold fV
 rw[lh]
 simp only[List.mem_map,List.mem_filter,decide_eq_true_eq]
 constructor
 ·rintro ⟨_,c',⟨O,h2⟩,rfl⟩
  obtain ⟨r,t,x,hr,e,U⟩:=(kX (hi c' O)).mp h2
  exact⟨r,t,x,hr,by exact aj (·+1) (by assumption),U,by rw[←e];exact O⟩
 ·rintro ⟨r,t,x,hr,rfl,U,hm⟩
  have ht:t<x.right.length:=(aO.mp U).1
  refine⟨?_,g.off r+t,⟨hm,(kX (hi _ hm)).mpr ⟨r,t,x,hr,rfl,U⟩⟩,by exact rfl⟩
  exact d9.lt ⟨r,t+1,x,hr,by assumption,rfl⟩
theorem yI{items:LN}(ok:dz g)(hi:∀c∈items,d9 g c){X:Nat}:X∈eO g items↔∃c∈items,lB g c X:=by
 unfold eO
 rw[lh]
 simp only[List.mem_map,List.mem_filter,decide_eq_true_eq]
 constructor
 ·rintro ⟨_,c,⟨U,O⟩,rfl⟩
  exact⟨c,U,(kX (hi c U)).mp (by exact(Int.toNat_of_nonneg (by assumption)).symm)⟩
 ·rintro ⟨c,U,O⟩
  have:=(kX (hi c U)).mpr O
  exact⟨(O.sym ok).1,c,⟨U,by lia⟩,by lia⟩
theorem Q6{items:LN}(hi:∀c∈items,d9 g c){r:Nat}(h:r∈o5 g items):r≠0/\∃x,g.rules[r]?=some x/\g.off r+x.right.length∈items:=by
 unfold o5 at h
 rw[lh] at h
 simp only[List.mem_map,List.mem_filter,decide_eq_true_eq] at h
 obtain ⟨_,c,⟨U,h2,h3⟩,rfl⟩:=h
 refine⟨h3,?_⟩
 obtain ⟨r,t,x,hr,O,rfl⟩:=hi c U
 rw[qO hr O]
 refine⟨x,hr,?_⟩
 rw[uJ hr O] at h2
 have:t=x.right.length:=by
  rcases Nat.lt_or_ge t x.right.length with q|q
  ·obtain ⟨s,_,e⟩:=xf q;lia
  ·exact Nat.le_antisymm (by assumption) (by assumption)
 rw[←this];exact U
end
def kP(g:cL)(c:Nat):Prop:=∃r t x,g.rules[r]?=some x/\c=g.off r+(t+1)/\t<x.right.length
theorem kP.it{g:cL}{c:Nat}(h:kP g c):d9 g c:=by
 obtain ⟨r,t,x,U,O,h3⟩:=h
 exact⟨r,t+1,x,U,h3,O⟩
def k1(g:cL)(F:LN):LN:=fV g (eh g F [0]) g.start
def k2(g:cL)(F:LN):LN:=fV g (eh g F (k1 g F)) 0
structure iE(g:cL)(F:LN)(ks:List LN):Prop where
nd:ks.Nodup
zero:ks[0]?=some [0]
dot:∀(i:Nat)(ker:LN),i≠0->ks[i]?=some ker->ker≠[]/\ker=e7 (NN g) ker/\∀c∈ker,kP g c
one:∀ker∈ks,1∈ker->ker=k1 g F
two:∀ker∈ks,2∈ker->ker=k2 g F
structure um(g:cL)(F:LN)(ks:List LN)(s:LS):Prop where
items:s.items=eh g F s.ker
ZZ:s.ZZ=o5 g s.items
keys:s.moves.map (·.1)=eO g s.items
to:∀X q,(X,q)∈s.moves->ks[q]?=some (fV g s.items X)
section
variable{g:cL}(ok:dz g)
include ok
theorem dz.YR:d9 g 0:=by
 obtain ⟨l,hl⟩:=ok.r0
 exact⟨0,0,_,hl,aL _,rfl⟩
theorem iE.it{F:LN}{ks:List LN}(h:iE g F ks){ker:LN}(hk:ker∈ks):(∀c∈ker,d9 g c)/\ker.Nodup:=by
 obtain ⟨i,hi,e⟩:=bp.mp hk
 have hi:ks[i]?=some ker:=by rw[aC hi,e]
 by_cases U:i=0
 ·subst U
  rw[h.zero] at hi;cases hi
  exact⟨λc O=>by rw[aF.mp O];exact ok.YR,by simp⟩
 ·obtain ⟨_,h2,h3⟩:=h.dot i ker U hi
  exact⟨λc O=>(h3 c O).it,by rw[h2];exact nh _ _⟩
theorem iE.snoc{F:LN}{ks:List LN}(hF:jy g F)(h:iE g F ks){ker:LN}(O:ker∈ks){Y:Nat}(hY:Y∈eO g (eh g F ker))(hn:fV g (eh g F ker) Y∉ks):iE g F (ks++[fV g (eh g F ker) Y]):=by
 have hit:=(h.it ok O).1
 have hi:∀c∈eh g F ker,d9 g c:=λc hc=>yn hit hc
 have hp:0<ks.length:=(aO.mp h.zero).1
 obtain ⟨l,U⟩:=ok.r0
 have o1:g.off 1=3:=by rw[cL.off_succ,jm U];rfl
 have r0:∀{r t c:Nat},g.off r+(t+1)=c->c<=2->r=0:=λ{r t c}e hc=>by
  rcases Nat.eq_zero_or_pos r with q|q
  ·exact q
  ·have:=cL.off_mono (g:=g) (r:=1) (s:=r) q
   rw[o1] at this
   lia
 have kz:0∈ker->ker=[0]:=λh0=>by
  obtain ⟨i,hi,e⟩:=bp.mp O
  have hi:ks[i]?=some ker:=by rw[aC hi,e]
  by_cases hz:i=0
  ·subst hz;rw[h.zero] at hi;exact(aq hi).symm
  ·obtain ⟨r,t,x,_,e2,_⟩:=(h.dot i ker hz hi).2.2 0 h0
   lia
 refine⟨?_,by rw[bg hp];exact h.zero,λi k h0 hk=>?_,λk hk h1=>?_,λk hk h2=>?_⟩
 ·exact bH.mpr ⟨h.nd,by simp,λa ha b hb e=>hn (by rw[←aF.mp hb,←e];exact ha)⟩
 ·rcases Nat.lt_or_ge i ks.length with q|q
  ·rw[bg q] at hk;exact h.dot i k h0 hk
  ·rw[ba q] at hk
   have:k=fV g (eh g F ker) Y:=by
    cases e:i-ks.length with
    |zero=>rw[e] at hk;cases hk;rfl
    |succ n=>rw[e] at hk;exact cR hk
   subst this
   refine⟨λe=>?_,by unfold fV;rw[Bs],λc hc=>?_⟩
   ·obtain ⟨c,hc,r,t,x,h1,h2,h3⟩:=(yI ok hi).mp hY
    have:g.off r+(t+1)∈fV g (eh g F ker) Y:=(qs hi).mpr ⟨r,t,x,h1,rfl,h3,h2▸hc⟩
    rw[e] at this;exact dh this
   ·obtain ⟨r,t,x,h1,h2,h3,_⟩:=(qs hi).mp hc
    exact⟨r,t,x,h1,h2,(aO.mp h3).1⟩
 ·rcases aI.mp hk with hk|hk
  ·exact h.one k hk h1
  ·rw[aF] at hk
   subst hk
   obtain ⟨r,t,x,a1,a2,a3,a4⟩:=(qs hi).mp h1
   have er:=r0 a2.symm dQ
   subst er
   have et:t=0:=by have:g.off 0=0:=rfl;lia
   subst et
   rw[U] at a1;cases a1
   have eY:Y=g.start:=by simpa using a3.symm
   rcases xo ok hF hit a4 with q|⟨r',x',c',q1,q2,q3,_⟩
   ·rw[kz q,eY];rfl
   ·exact absurd (AC (g:=g) (r:=r') (r':=0) (by rw[←q3];rfl)) q1
 ·rcases aI.mp hk with hk|hk
  ·exact h.two k hk h2
  ·rw[aF] at hk
   subst hk
   obtain ⟨r,t,x,a1,a2,a3,a4⟩:=(qs hi).mp h2
   have er:=r0 a2.symm dQ
   subst er
   have et:t=1:=by have:g.off 0=0:=rfl;lia
   subst et
   rw[U] at a1;cases a1
   have eY:Y=0:=by simpa using a3.symm
   rcases xo ok hF hit a4 with q|⟨r',x',c',q1,q2,q3,_⟩
   ·rw[h.one ker O q,eY];rfl
   ·have:=(cL.code_inj (g:=g) (r:=0) (t:=1) (r':=r') (t':=0) (by rw[jm U];exact(by decide:1<=2)) (by exact aL _) (by rw[q3];rfl)).2
    exact absurd (by assumption) (Nat.succ_ne_zero _)
def ki(g:cL)(c:Nat):Nat:=c-iy g c-1
noncomputable def sg(g:cL)(r:Nat):Nat:=Nat.rec (motive:=λ_=>Nat) 0 (λi n=>n+g.len i) r
omit ok in
theorem RZ(r:Nat):g.off r=sg g r+r:=by
 induction r with
 |zero=>rfl
 |succ r O=>rw[cL.off_succ,O];exact Nat.add_add_add_comm (sg g r) r (g.len r) 1
omit ok in
theorem Hv{r s:Nat}(h:r<=s):sg g r<=sg g s:=by
 induction h with
 |refl=>exact ao _
 |step _ O=>exact ae O (aW _ _)
omit ok in
theorem uZ{r t:Nat}{x:Rl}(hr:g.rules[r]?=some x)(ht:t<x.right.length):ki g (g.off r+(t+1))=sg g r+t:=by
 unfold ki
 rw[qO (t:=t+1) hr ht,RZ,Nat.add_right_comm,Nat.add_sub_cancel];rfl
omit ok in
theorem Bl{r s t:Nat}{x:Rl}(hr:g.rules[r]?=some x)(ht:t<x.right.length)(h:r<s):sg g r+t<sg g s:=
 aR (Nat.add_lt_add_left (jm hr▸ht) _) (Hv (r:=r+1) h)
theorem QI(r:Nat):g.len r<=3:=by
 unfold cL.len
 cases h:g.rules[r]? with
 |none=>exact aL _
 |some x=>
  by_cases U:r=0
  ·exact ok.r0.elim λl hl=>(show x=_ from aq (h.symm.trans (U▸hl)))▸aU 2
  ·exact(ok.right r x U h).1
theorem UM(n:Nat):sg g (n+1)<=3*n+2:=by
 induction n with
 |zero=>exact ok.r0.elim λl hl=>bn ((bA _).trans (jm hl))
 |succ n O=>exact ae (bw O (QI ok (n+1))) (bn (Nat.add_right_comm (3*n) 2 3))
theorem Nc{c:Nat}(h:kP g c):ki g c<20:=by
 obtain ⟨r,t,x,hr,e,O⟩:=h
 rw[e,uZ hr O]
 exact aR (Bl hr O (aR (aO.mp hr).1 ok.rules)) (UM ok 6)
omit ok in
theorem Nb{c c':Nat}(h:kP g c)(h':kP g c')(e:ki g c=ki g c'):c=c':=by
 obtain ⟨r,t,x,hr,e1,ht⟩:=h
 obtain ⟨r',t',x',U,e2,O⟩:=h'
 rw[e1,e2,uZ hr ht,uZ U O] at e
 rw[e1,e2]
 rcases Nat.lt_trichotomy r r' with q|q|q
 ·exact absurd e (bz (aR (Bl hr ht q) (aW _ _)))
 ·rw[q] at e⊢;rw[Nat.add_left_cancel e]
 ·exact absurd e.symm (bz (aR (Bl U O q) (aW _ _)))
def oN(g:cL)(ker:LN):Nat:=ker.foldr (λc m=>m|||2^(ki g c-2)) 0
omit ok in
theorem sq{b:Nat}:∀{ker:LN},(oN g ker).testBit b=true↔∃c∈ker,ki g c-2=b
 |[]=>by simp[oN]
 |c::ker=>by
  show(oN g ker|||2^(ki g c-2)).testBit b=true↔_
  rw[Nat.testBit_or,Nat.testBit_two_pow,Bool.or_eq_true,sq,decide_eq_true_eq]
  simp only[List.mem_cons,exists_eq_or_imp]
  exact Or.comm
theorem Dr{c:Nat}(h:kP g c)(hc:c≠1/\c≠2):2<=ki g c:=by
 obtain ⟨r,t,x,hr,e,O⟩:=h
 rw[e,uZ hr O]
 obtain ⟨l,U⟩:=ok.r0
 cases r with
 |zero=>
  cases t with
  |zero=>exact absurd e hc.1
  |succ t=>cases t with
   |zero=>exact absurd e hc.2
   |succ t=>exact ae (Nat.le_add_left 2 t) (Nat.le_add_left _ _)
 |succ r=>exact ae (bn ((jm U).symm.trans (bA _).symm)) (ae (Hv (r:=1) (Nat.le_add_left 1 r)) (aW _ _))
theorem iE.size{F:LN}{ks:List LN}(h:iE g F ks):ks.length<=2^18+2:=by
 let L:=ks.filter λk=>decide (0∉k/\1∉k/\2∉k)
 have hd:∀ker∈L,ker≠[]/\ker=e7 (NN g) ker/\(∀c∈ker,kP g c)/\∀c∈ker,c≠1/\c≠2:=λker hk=>by
  obtain ⟨U,h2⟩:=aT.mp hk
  have h2:=aD h2
  obtain ⟨i,hi,e⟩:=bp.mp U
  have hi:ks[i]?=some ker:=by rw[aC hi,e]
  by_cases hz:i=0
  ·subst hz;rw[h.zero] at hi;cases hi
   exact absurd (List.mem_singleton.mpr rfl) h2.1
  ·obtain ⟨a,b,c⟩:=h.dot i ker hz hi
   exact⟨a,b,c,λc O=>⟨λe=>h2.2.1 (e▸O),λe=>h2.2.2 (e▸O)⟩⟩
 have nd:L.Nodup:=List.Pairwise.filter _ h.nd
 have key:(0::L.map (oN g)).Nodup:=by
  rw[List.nodup_cons]
  refine⟨λq=>?_,?_⟩
  ·obtain ⟨ker,hk,e2⟩:=aB.mp q
   obtain ⟨U,_,h3,_⟩:=hd ker hk
   cases ker with
   |nil=>exact U rfl
   |cons c l=>
    have:=(sq (g:=g) (ker:=c::l) (b:=ki g c-2)).mpr ⟨c,List.mem_cons_self,rfl⟩
    rw[e2] at this;simp at this
  ·rw[List.Nodup,List.pairwise_map]
   refine List.Pairwise.imp_of_mem (λ{a b}ha hb q e2=>q ?_) nd
   obtain ⟨_,a2,a3,a4⟩:=hd a ha
   obtain ⟨_,b2,b3,b4⟩:=hd b hb
   rw[a2,b2]
   refine HJ λc _=>?_
   have one:∀{a b:LN},(∀c∈a,kP g c)->(∀c∈a,c≠1/\c≠2)->(∀c∈b,kP g c)->(∀c∈b,c≠1/\c≠2)->oN g a=oN g b->c∈a->c∈b:=λ{a b}ha ha' hb hb' e O=>by
    have:=(sq (g:=g) (b:=ki g c-2)).mpr ⟨c,O,rfl⟩
    rw[e] at this
    obtain ⟨c',U,h2⟩:=sq.mp this
    have q1:=Dr ok (hb c' U) (hb' c' U)
    have q2:=Dr ok (ha c O) (ha' c O)
    exact Nb (hb c' U) (ha c O) ((Nat.sub_add_cancel q1).symm.trans ((aj (·+2) h2).trans (Nat.sub_add_cancel q2)))▸U
   exact⟨one a3 a4 b3 b4 e2,one b3 b4 a3 a4 e2.symm⟩
 have h18:=cG key (l₂:=List.range (2^18)) λm hm=>by
  rw[ch]
  rcases aM.mp hm with rfl|hm
  ·exact Nat.two_pow_pos _
  ·obtain ⟨ker,hk,rfl⟩:=aB.mp hm
   refine Nat.lt_pow_two_of_testBit _ λi hi=>?_
   cases hb:(oN g ker).testBit i with
   |false=>rfl
   |true=>
    obtain ⟨c,O,e2⟩:=sq.mp hb
    exact absurd hi (Nat.not_le_of_lt (Nat.lt_succ_of_le (e2▸Nat.sub_le_sub_right (Nat.le_of_lt_succ (Nc ok ((hd ker hk).2.2.1 c O))) 2)))
 rw[aQ,bU,ag] at h18
 have h3:=cG h.nd (l₂:=[0]::k1 g F::k2 g F::L) λker hk=>by
  by_cases q0:0∈ker
  ·obtain ⟨i,hi,e⟩:=bp.mp hk
   have hi:ks[i]?=some ker:=by rw[aC hi,e]
   by_cases hz:i=0
   ·subst hz;rw[h.zero] at hi;cases hi;exact List.mem_cons_self
   ·obtain ⟨r,t,x,_,e2,_⟩:=(h.dot i ker hz hi).2.2 0 q0
    lia
  ·by_cases q1:1∈ker
   ·rw[h.one ker hk q1];exact cA _ List.mem_cons_self
   ·by_cases q2:2∈ker
    ·rw[h.two ker hk q2];exact cA _ (cA _ List.mem_cons_self)
    ·exact cA _ (cA _ (cA _ (aT.mpr ⟨hk,aG ⟨q0,q1,q2⟩⟩)))
 have e3:([0]::k1 g F::k2 g F::L).length=L.length+3:=rfl
 rw[e3] at h3
 lia
omit ok in
theorem Rf{l:LZ}{X q:Nat}(h:l.lookup X=some q):(X,q)∈l:=by
 induction l with
 |nil=>exact cR h
 |cons x l O=>
  rw[bQ] at h
  split at h
  ·rename_i e;cases h;rw[show X=x.1 from eq_of_beq e];exact .head _
  ·exact .tail _ (O h)
omit ok in
theorem FH{l:LZ}{X:Nat}(h:X∈l.map (·.1)):∃q,l.lookup X=some q:=by
 induction l with
 |nil=>exact dh h
 |cons x l O=>
  rw[bQ]
  by_cases e:X=x.1
  ·exact⟨x.2,by rw[beq_iff_eq.mpr e]⟩
  ·rw[show(X==x.1)=false by simpa using e]
   exact O ((aM.mp h).resolve_left e)
theorem JT{F:LN}{sts:List LS}(hF:jy g F)(hk:iE g F (sts.map (·.ker)))(he:∀s∈sts,um g F (sts.map (·.ker)) s):kM g sts:=by
 refine⟨λi s hs=>?_,?_,by have:=hk.size ok;rwa [ag] at this⟩
 ·have hm:=ax hs
  have hit:=(hk.it ok (aB.mpr ⟨s,hm,rfl⟩)).1
  obtain ⟨h1,h2,h3,h4⟩:=he s hm
  have hi:∀c∈s.items,d9 g c:=λc O=>by rw[h1] at O;exact yn hit O
  refine⟨hi,λc O=>?_,λc O X hX=>FH (by rw[h3];exact(yI ok hi).mpr ⟨c,O,hX⟩),λX q hq=>?_,λr hr=>Q6 hi (by rw[←h2];exact hr),by rw[h3];exact nh _ _,by rw[h2];exact ae (qT _ _) ok.rules⟩
  ·rw[h1] at O⊢;exact xo ok hF hit O
  ·have U:=Rf hq
   have hX:X∈eO g s.items:=by rw[←h3];exact aB.mpr ⟨_,U,rfl⟩
   have hb:=h4 X q U
   have hb':=hb
   rw[aA] at hb'
   obtain ⟨p,hp,e⟩:=Option.map_eq_some_iff.mp hb'
   refine⟨?_,(yI ok hi).mp hX,p,hp,λc O=>?_⟩
   ·rcases Nat.eq_zero_or_pos q with h0|h0
    ·subst h0
     rw[hk.zero] at hb
     have:0∈fV g s.items X:=by rw[←aq hb];simp
     obtain ⟨r,t,x,_,e2,_⟩:=(qs hi).mp this
     lia
    ·exact h0
   ·rw[e] at O
    exact(qs hi).mp O
 ·have:=hk.zero
  rw[aA] at this
  obtain ⟨p,hp,e⟩:=Option.map_eq_some_iff.mp this
  exact⟨p,hp,e⟩
theorem O0{F ker:LN}:(eh g F ker).Nodup:=by
 unfold eh
 refine bH.mpr ⟨nh _ _,nh _ _,λa O b hb e=>?_⟩
 subst e
 exact(yG.mp (lh.mp hb).2).1 (lh.mp O).2
end
structure Go(G:Gd)(k n:Nat)(cs:List CS)(E:Ev)(M:LB)(P:dX):Prop where
h:Run G k n cs E M P
structure Cl(G:Gd)(k f:Nat)(vs:LV)(M:LB)(K:KT)(X:XT):Prop where
h:Fn G k f vs M K X
structure Nw(G:Gd)(k c:Nat)(vs:LV)(M:LB)(K:KT)(X:XT):Prop where
h:mC G k c vs M K X
structure Cm(turn:Nat->D->LB->(Option cJ->XT)->Prop)(K:LV->XT)(ds:LD)(M:LB):Prop where
h:jU turn K 0 ds [] M
structure uA(n:Int)(x:cJ)(M:LB)(K:KT):Prop where
a:0<=n
b:n<=2^20
c:gI (List.replicate n.toNat x) M K
structure Sm where
e:Gd->Nat->Ev->LB->KT->XT->Prop
t:Gd->Nat->Ev->LB->(Bool->XT)->XT->Prop
structure So where
v:Gd->Nat->Ev->LB->(Option cJ->XT)->XT->Prop
t:Gd->Nat->Ev->LB->(Bool->XT)->XT->Prop
abbrev Sl:=Gd->Nat->Ev->LB->(LV->XT)->XT->Prop
def oE{α:Type}(Z:Prop)(K:α->Prop)(o:Option α):Prop:=Option.rec (motive:=λ_=>Prop) Z K o
def bE(A B:Prop)(c:Bool):Prop:=Bool.rec (motive:=λ_=>Prop) B A c
def lk(E:Ev)(i:Nat):Option cJ:=List.rec (motive:=λ_=>Nat->Option cJ) (λ_=>none) (λo _ O i=>Nat.rec (motive:=λ_=>Option cJ) o (λj _=>O j) i) E i
def CR(op:Operator)(x y:cJ)(M:LB)(K:KT):Prop:=oE (i9 M K op x y) (λi=>oE False (λj=>oE False (λn=>K (.sh (.int n)) M) (binI op i j)) (vInt y)) (vInt x)
def xu(op:CmpOp)(x y:cJ)(M:LB)(K:Bool->Prop):Prop:=oE (fq M K x y op) K (pW op x y)
def Ey(x y:cJ)(M:LB)(K:cJ->Prop):Prop:=oE (lE M K x y) K (fX M x y)
def Fu(G:Gd)(k:Nat)(v:cJ)(n:Nat)(vs:LV)(M:LB)(K:KT)(X:XT)(m:MK):Prop:=MK.rec (motive:=λ_=>Prop) (λf=>Cl G k f (v::vs) M K X) (λ_=>MethP M K v n vs) m
abbrev gi:Gd->Nat->Ev->LB->(Bool->XT)->XT->Prop:=λ_ _ _ _ _ _=>False
abbrev tK:Gd->Nat->Ev->LB->KT->XT->Prop:=λ_ _ _ _ _ _=>False
noncomputable def qQ(d:D):Sm:=⟨λ_ _ _ M K _=>K (.sh d) M,gi⟩
noncomputable def A2(i:Nat):Sm:=⟨λ_ _ E M K _=>oE False (λv=>K v M) (lk E i),gi⟩
noncomputable def AR(_:CE)(n:Nat)(a:Sm):Sm:=⟨λG k E M K X=>a.e G k E M (λv M₁=>oE False (λu=>K u M₁) (kb M₁ v n)) X,gi⟩
noncomputable def AU(op:Operator)(_ _:CE)(a b:Sm):Sm:=⟨λG k E M K X=>a.e G k E M (λx M₁=>b.e G k E M₁ (λy O=>CR op x y O K) X) X,gi⟩
noncomputable def Bb(_ _:CE)(a b:Sm):Sm:=⟨λG k E M K X=>a.e G k E M (λx M₁=>b.e G k E M₁ (λy O=>oE False (λn=>uA n x O K) (vInt y)) X) X,gi⟩
noncomputable def A5(_:CE)(a:Sm):Sm:=⟨λG k E M K X=>a.e G k E M (λx M₁=>oE False (λi=>K (.sh (.int (-i))) M₁) (vInt x)) X,gi⟩
noncomputable def A7(_:CE)(a:Sm):Sm:=⟨tK,λG k E M K X=>a.t G k E M (λt M₁=>bE (K false M₁) (K true M₁) t) X⟩
noncomputable def AW(op:CmpOp)(_ _:CE)(a b:Sm):Sm:=
 ⟨λG k E M K X=>a.e G k E M (λx M₁=>b.e G k E M₁ (λy O=>xu op x y O λc=>K (.sh (.bool c)) O) X) X,
  λG k E M K X=>a.e G k E M (λx M₁=>b.e G k E M₁ (λy O=>xu op x y O λc=>K c O) X) X⟩
noncomputable def A3(_ _ _:CE)(a b c:Sm):Sm:=⟨tK,λG k E M K X=>a.e G k E M (λx M₁=>b.e G k E M₁ (λy O=>oE False (λr=>bE (c.e G k E O (λz U=>oE False (λr=>K r U) (pW .Lt y z)) X) (K false O) r) (pW .Lt x y)) X) X⟩
noncomputable def AQ(_ _:CE)(a b:Sm):Sm:=
 ⟨λG k E M K X=>a.e G k E M (λx M₁=>oE False (λt=>bE (b.e G k E M₁ K X) (K x M₁) t) (ua M₁ x)) X,λG k E M K X=>a.t G k E M (λt M₁=>bE (b.t G k E M₁ K X) (K false M₁) t) X⟩
noncomputable def A8(_ _:CE)(a b:Sm):Sm:=⟨tK,λG k E M K X=>a.t G k E M (λt M₁=>bE (K true M₁) (b.t G k E M₁ K X) t) X⟩
noncomputable def A0(_ _ _:CE)(t a b:Sm):Sm:=⟨λG k E M K X=>t.t G k E M (λr M₁=>bE (a.e G k E M₁ K X) (b.e G k E M₁ K X) r) X,gi⟩
noncomputable def A1(_:List CE)(es:Sl):Sm:=⟨λG k E M K X=>es G k E M (λvs M₁=>gI vs M₁ K) X,gi⟩
noncomputable def Bg(_:List CE)(es:Sl):Sm:=⟨λG k E M K X=>es G k E M (λvs M₁=>oE False (λds=>K (.sh (.tup ds)) M₁) (data M₁ vs)) X,gi⟩
noncomputable def AY:Sm:=⟨λ_ _ _ M K _=>∃n,K (.own M.length) (M++[Dx n]),gi⟩
noncomputable def AZ(_ _:CE)(a b:Sm):Sm:=⟨λG k E M K X=>a.e G k E M (λx M₁=>b.e G k E M₁ (λy O=>Ey x y O λv=>K v O) X) X,gi⟩
noncomputable def Bd(_:CE)(_ _:Option CE)(a:Sm)(lo hi:So):Sm:=⟨λG k E M K X=>a.e G k E M (λx M₁=>lo.v G k E M₁ (λl O=>hi.v G k E O (λh U=>fU U K x l h) X) X) X,gi⟩
noncomputable def Bc(_:CE)(a:Sm):Sm:=⟨λG k E M K X=>a.e G k E M (λx M₁=>pH M₁ K x) X,gi⟩
noncomputable def AV(f:Nat)(_:List CE)(es:Sl):Sm:=⟨λG k E M K X=>es G k E M (λvs M₁=>Cl G k f vs M₁ K X) X,gi⟩
noncomputable def A6(c:Nat)(_:List CE)(es:Sl):Sm:=⟨λG k E M K X=>es G k E M (λvs M₁=>Nw G k c vs M₁ K X) X,gi⟩
noncomputable def AS(b:BI)(_:List CE)(es:Sl):Sm:=⟨λG k E M K X=>es G k E M (λvs M₁=>fJ M₁ K b vs) X,gi⟩
noncomputable def A4(_:CE)(n:Nat)(_:List CE)(o:Sm)(es:Sl):Sm:=
 ⟨λG k E M K X=>o.e G k E M (λv M₁=>oE False (λm=>es G k E M₁ (λvs O=>Fu G k v n vs O K X m) X) (jR M₁ v n)) X,gi⟩
noncomputable def Be(_ _:Nat)(_:List CE)(_:Sl):Sm:=⟨tK,gi⟩
noncomputable def Ba(i:Nat):Sm:=⟨λG _ E M K _=>E[i]?=some (some (.sh (.raw G.sa)))/\iY ((G.ZS.take 24).map .int) M K,gi⟩
noncomputable def A9:Sm:=⟨λ_ _ _ M K _=>iY (wg.map .str) M K,gi⟩
noncomputable def Bf(_:CE)(a:Sm):Sm:=⟨tK,λG k E M K X=>a.e G k E M (λv M₁=>oE False (λt=>K t M₁) (ua M₁ v)) X⟩
def BE(G:Gd)(k n:Nat)(tgt:LN)(tup:Bool)(caps:LN)(how:Nat)(ifs:So)(elt:Sm)(E:Ev)(i:Nat)(x:D)(M:LB)(R:Option cJ->XT):Prop:=
 oE False (λE'=>ifs.t G k E' M (λb M₁=>bE (elt.e G k E' M₁ (λu O=>R (some u) O) λ_=>False) (R none M₁) b) λ_=>False) (EF n tgt tup caps how E i x)
noncomputable def AX(n:Nat)(tgt:LN)(tup:Bool)(caps:LN)(how:Nat)(_:CE)(_:Option CE)(_:CE)(it:Sm)(ifs:So)(elt:Sm):Sm:=
 ⟨λG k E M K X=>it.e G k E M (λv M₁=>oE False (λds=>Cm (BE G k n tgt tup caps how ifs elt E) (λvs O=>gI vs O K) ds M₁) (ji how M₁ v)) X,gi⟩
def vx:Sl:=λ_ _ _ M K _=>K [] M
def vw(_:CE)(_:List CE)(a:Sm)(l:Sl):Sl:=λG k E M K X=>a.e G k E M (λv M₁=>l G k E M₁ (λvs O=>K (v::vs) O) X) X
noncomputable def oY:So:=⟨λ_ _ _ M K _=>K none M,λ_ _ _ M K _=>K true M⟩
noncomputable def o3(_:CE)(a:Sm):So:=⟨λG k E M K X=>a.e G k E M (λv M₁=>K (some v) M₁) X,a.t⟩
def sm(c:CE):Sm:=CE.rec (motive_1:=λ_=>Sm) (motive_2:=λ_=>Sl) (motive_3:=λ_=>So) qQ A2 qQ AR AU Bb A5 A7 AW A3 AQ A8 A0 A1 Bg AY AZ Bd Bc AV A6 AS A4 Be Ba A9 Bf AX vx vw oY o3 c
theorem QR{E:Ev}{i:Nat}{v:cJ}(h:lk E i=some v):E[i]?=some (some v):=by
 induction E generalizing i with
 |nil=>exact cR h
 |cons o E O=>cases i with
  |zero=>exact aj some h
  |succ i=>exact O h
theorem gX{α:Type}{K:α->Prop}{o:Option α}(h:oE False K o):∃x,o=some x/\K x:=by
 cases o with
 |none=>exact h.elim
 |some x=>exact⟨x,rfl,h⟩
section
variable{G:Gd}{k n:Nat}{E:Ev}{M:LB}{X:XT}{P:dX}{N:Ev->XT}
theorem eJ.mono{c:CE}{K O:Bool->XT}(h:eJ kc G k c E M K X)(q:∀v M,K v M->O v M):eJ kc G k c E M O X:=λ_ _ _ n e a hk=>
 (h n e a hk).imp (λv σ y=>y.casesOn λg st r k=>.mk g st r (q _ _ k)) λ_ x=>x
theorem c1.imp{c:CE}{K O:KT}(h:c1 kc G k c E M K X)(q:∀v M,K v M->O v M):c1 kc G k c E M O X:=h.mono q λ_ x=>x
theorem mh.imp{c:Option CE}{K O:Option cJ->XT}(h:mh kc G k c E M K X)(q:∀v M,K v M->O v M):mh kc G k c E M O X:=λ_ _ _ n e a hk=>
 (h n e a hk).imp (λv σ y=>y.casesOn λg st r k=>.mk g st r (q _ _ k)) λ_ x=>x
theorem fS.imp{cs:List CE}{K U:LV->XT}(q:∀v M,K v M->U v M)(h:fS kc G k cs E M K X):fS kc G k cs E M U X:=by
 induction cs generalizing M K U with
 |nil=>exact q _ _ h
 |cons c cs ih=>exact(show c1 kc G k c E M (λv M₁=>fS kc G k cs E M₁ (λvs O=>K (v::vs) O) X) X from h).imp λv M h=>ih (λvs M h=>q _ _ h) h
end
theorem Sz{G:Gd}{k:Nat}{E:Ev}{M:LB}{K:KT}{X:XT}{o:CE}{n:Nat}{args:List CE}(h:c1 kc G k o E M (λv M₁=>∃m,jR M₁ v n=some m/\fS kc G k args E M₁ (λvs M₂=>MK.rec (motive:=λ_=>Prop) (λf=>Cl G k f (v::vs) M₂ K X) (λ_=>MethP M₂ K v n vs) m) X) X):c1 kc G k (.Z9 o n args) E M K X:=by
 intro F p ρ m e at_ hk
 cases m with
 |zero=>exact cX hk
 |succ m=>
 refine We at_ h hk λ{v M₁ q u pos as}hq gr O r hk=>?_
 obtain ⟨m,hm,h⟩:=hq
 cases m with
 |fn f=>
  obtain ⟨C,fs,hv,hl,hmt⟩:=Q9 hm
  have ok:=G.cls _ _ _ hmt
  refine⟨.ref f,.keep (ok.keep f rfl),λoe A s am fr=>?_,tZ (γ:=Value) (.keep (ok.keep f rfl)) O h hk λq g U rs=>(II (vals:=u::_) U.qh (U.k▸q.h _ _ U.st ⟨cM.gr g r,rs⟩)).mono λv σ' y=>ya y⟩
  refine(EH O.st am.rep hv r).casesOn λe I hd hf rf nd hlt z=>?_
  have fr:=DZ ok.lt hf rf hlt
  rw[hl] at fr
  refine method_fn am.K I (plainGet_of ok.plain).1 (plainGet_of ok.plain).2 ok.find (beq_iff_eq.mp (ok.fn f rfl)) ?_ ⟨rfl,rfl,rfl,rfl⟩
  rcases D0 hf fr with⟨_,g2⟩|⟨_,_,e,_⟩
  ·show(lookIn (nm n) (PySem.W.dictOf _ _)).map _=_
   rw[lookIn_dict,g2];rfl
  ·exact cR e
 |bi b=>exact⟨.builtin (vH n),.bi rfl,λoe A s am fr=>(Q8 hm O.st am r).casesOn λm ti nd=>m.casesOn λ_ pa sl ty=>getMethod_builtin ti pa sl ty nd ⟨rfl,rfl,rfl,rfl⟩,
  tZ (γ:=Value) (.bi rfl) O h hk λq g U rs A s am f=>Ra U.st am q (cM.gr g r) rs⟩
structure rq(c:CE)(s:Sm):Prop where
e:∀{G k E M K X},s.e G k E M K X->c1 kc G k c E M K X
t:∀{G k E M K X},s.t G k E M K X->eJ kc G k c E M K X
structure ux(c:Option CE)(s:So):Prop where
v:∀{G k E M K X},s.v G k E M K X->mh kc G k c E M K X
t:∀{G k E M K X},s.t G k E M K X->wj kc G k c E M K X
def w3(cs:List CE)(s:Sl):Prop:=∀{G k E M K X},s G k E M K X->fS kc G k cs E M K X
theorem J8{op:Operator}{x y:cJ}{M:LB}{K:KT}(h:CR op x y M K):i9 M K op x y:=by
 have h:oE (i9 M K op x y) (λi=>oE False (λj=>oE False (λn=>K (.sh (.int n)) M) (binI op i j)) (vInt y)) (vInt x):=h
 cases e:vInt x with
 |none=>rw[e] at h;exact h
 |some i=>
  rw[e] at h
  obtain ⟨j,O,h⟩:=gX (o:=vInt y) h
  obtain ⟨n,U,h⟩:=gX h
  rw[mq e,mq O]
  exact .int U h
theorem Dc{op:CmpOp}{x y:cJ}{M:LB}{K:Bool->Prop}(h:xu op x y M K):fq M K x y op:=by
 have h:oE (fq M K x y op) K (pW op x y):=h
 cases e:pW op x y with
 |none=>rw[e] at h;exact h
 |some v=>rw[e] at h;exact .v e h
theorem OA{x y:cJ}{M:LB}{K:cJ->Prop}(h:Ey x y M K):lE M K x y:=by
 have h:oE (lE M K x y) K (fX M x y):=h
 cases e:fX M x y with
 |none=>rw[e] at h;exact h
 |some v=>rw[e] at h;exact .v e h
theorem Wl{G:Gd}{k n how i:Nat}{tgt caps:LN}{tup:Bool}{c:Option CE}{a:CE}{ifs:So}{elt:Sm}{E:Ev}{x:D}{M:LB}{R R':Option cJ->XT}(U:ux c ifs)(oa:rq a elt)
 (q:∀o M,R o M->R' o M) (h:BE G k n tgt tup caps how ifs elt E i x M R):wG kc G k n tgt tup caps how c a E i x M R':=(gX h).elim λE' h=>by
 refine⟨E',h.1,?_⟩
 have h:=U.t h.2
 have fin:∀(b:Bool)M₁,bE (elt.e G k E' M₁ (λu O=>R (some u) O) λ_=>False) (R none M₁) b->if b then c1 kc G k a E' M₁ (λu O=>R' (some u) O) (λ_=>False) else R' none M₁:=λb M₁ h=>by
  cases b with
  |true=>exact(oa.e h).imp λu M h=>q _ _ h
  |false=>exact q _ _ h
 cases c with
 |none=>exact fin true _ h
 |some c=>exact eJ.mono h fin
theorem MM{turn turn':Nat->D->LB->(Option cJ->XT)->Prop}{K O:LV->XT}(q:∀{i x M R R'},(∀o M,R o M->R' o M)->turn i x M R->turn' i x M R')(qk:∀v M,K v M->O v M):
 ∀{ds:LD}{i:Nat}{acc:LV}{M:LB},jU turn K i ds acc M->jU turn' O i ds acc M:=by
 intro ds
 induction ds with
 |nil=>exactλh=>qk _ _ h
 |cons d ds U=>exactλ{i acc M}h=>q (λo M h=>by
  cases o with
  |none=>exact U h
  |some v=>exact⟨h.1,U h.2⟩) (show turn i d M (λo M₁=>o.elim (jU turn K (i+1) ds acc M₁) λv=>acc.length<=mx/\jU turn K (i+1) ds (acc++[v]) M₁) from h)
theorem De{n how:Nat}{tgt caps:LN}{tup:Bool}{c:Option CE}{a it:CE}(oi:rq it (sm it))(oc:ux c (Option.rec (motive:=λ_=>So) oY (λc=>o3 c (sm c)) c))(oa:rq a (sm a)){G k E M K U X}(qk:∀v M,K v M->U v M)
 (h:(sm (.comp n tgt tup caps how it c a)).e G k E M K X):uk kc G k n tgt tup caps how it c a E M (λvs O=>gI vs O U) X:=by
 have h:(sm it).e G k E M (λv M₁=>oE False (λds=>Cm (BE G k n tgt tup caps how (Option.rec (motive:=λ_=>So) oY (λc=>o3 c (sm c)) c) (sm a) E) (λvs O=>gI vs O K) ds M₁) (ji how M₁ v)) X:=by cases c<;>exact h
 exact(oi.e h).imp λv M₁ h=>(gX h).elim λds h=>⟨ds,h.1,MM (turn':=wG kc G k n tgt tup caps how c a E) (λq h=>Wl oc oa q h) (λvs M h=>h.imp (λh=>h.imp λds h=>⟨h.1,qk _ _ h.2⟩) λh=>qk _ _ h) h.2.h⟩
theorem gc(c:CE):rq c (sm c):=CE.rec (motive_1:=λc=>rq c (sm c)) (motive_2:=λcs=>w3 cs (CE.rec_1 (motive_1:=λ_=>Sm) (motive_2:=λ_=>Sl) (motive_3:=λ_=>So) qQ A2 qQ AR AU Bb A5 A7 AW A3 AQ A8 A0 A1 Bg AY AZ Bd Bc AV A6 AS A4 Be Ba A9 Bf AX vx vw oY o3 cs))
 (motive_3:=λc=>ux c (Option.rec (motive:=λ_=>So) oY (λc=>o3 c (sm c)) c))
 (λd=>⟨λh=>Sq h,λh=>False.elim h⟩)
 (λi=>⟨λh=>(gX h).elim λv h=>Sy (QR h.1) h.2,λh=>False.elim h⟩)
 (λd=>⟨λh=>Su h,λh=>False.elim h⟩)
 (λe n a=>⟨λh=>Si ((a.e h).imp λv M h=>gX h),λh=>False.elim h⟩)
 (λop x y a b=>⟨λh=>Sk ((a.e h).imp λv M h=>(b.e h).imp λv M h=>J8 h),λh=>False.elim h⟩)
 (λx y a b=>⟨λh=>SH ((a.e h).imp λv M h=>(b.e h).imp λv M h=>(gX h).elim λn h=>⟨n,mq h.1,h.2.a,h.2.b,h.2.c⟩),λh=>False.elim h⟩)
 (λx a=>⟨λh=>SA ((a.e h).imp λv M h=>(gX h).elim λn h=>⟨n,mq h.1,h.2⟩),λh=>False.elim h⟩)
 (λx a=>⟨λh=>False.elim h,λh=>VL (eJ.mono (a.t h) λv M h=>by cases v<;>exact h)⟩)
 (λop x y a b=>⟨λh=>Sp ((a.e h).imp λv M h=>(b.e h).imp λv M h=>Dc h),λh=>VF ((a.e h).imp λv M h=>(b.e h).imp λv M h=>Dc h)⟩)
 (λx y z a b c=>⟨λh=>False.elim h,λh=>VG ((a.e h).imp λv M h=>(b.e h).imp λv M h=>(gX h).elim λr h=>.v h.1 (by
  have h:=h.2
  cases r with
  |true=>exact(c.e h).imp λv M h=>(gX h).elim λr h=>.v h.1 h.2
  |false=>exact h))⟩)
 (λx y a b=>⟨λh=>Sh ((a.e h).imp λv M h=>(gX h).elim λt h=>⟨t,h.1,by
  have h:=h.2
  cases t with
  |true=>exact b.e h
  |false=>exact h⟩),λh=>VE (eJ.mono (a.t h) λt M h=>by
  cases t with
  |true=>exact b.t h
  |false=>exact h)⟩)
 (λx y a b=>⟨λh=>False.elim h,λh=>VM (eJ.mono (a.t h) λt M h=>by
  cases t with
  |true=>exact h
  |false=>exact b.t h)⟩)
 (λx y z t a b=>⟨λh=>Sw (eJ.mono (t.t h) λt M h=>by
  cases t with
  |true=>exact a.e h
  |false=>exact b.e h),λh=>False.elim h⟩)
 (λes l=>⟨λh=>Sx (l h),λh=>False.elim h⟩)
 (λes l=>⟨λh=>SK (fS.imp (λvs M h=>gX h) (l h)),λh=>False.elim h⟩)
 ⟨λh=>h.elim λn h=>Ss n h,λh=>False.elim h⟩
 (λx y a b=>⟨λh=>Sv ((a.e h).imp λv M h=>(b.e h).imp λv M h=>OA h),λh=>False.elim h⟩)
 (λx y z a lo hi=>⟨λh=>SJ ((a.e (K:=λx M₁=>So.v _ _ _ _ _ (λl O=>So.v _ _ _ _ _ (λh U=>fU U _ x l h) _) _) (by cases y<;>cases z<;>exact h)).imp λv M h=>mh.imp (lo.v h) λv M h=>hi.v h),λh=>False.elim h⟩)
 (λx a=>⟨λh=>SI (a.e h),λh=>False.elim h⟩)
 (λf es l=>⟨λh=>Sn (fS.imp (λvs M h=>h.h) (l h)),λh=>False.elim h⟩)
 (λf es l=>⟨λh=>SD (fS.imp (λvs M h=>h.h) (l h)),λh=>False.elim h⟩)
 (λf es l=>⟨λh=>Sj (l h),λh=>False.elim h⟩)
 (λo n es a l=>⟨λh=>Sz ((a.e h).imp λv M h=>(gX h).elim λm h=>⟨m,h.1,l h.2⟩),λh=>False.elim h⟩)
 (λf i es l=>⟨λh=>False.elim h,λh=>False.elim h⟩)
 (λi=>⟨λh=>SG h.1 h.2,λh=>False.elim h⟩)
 ⟨λh=>SF h,λh=>False.elim h⟩
 (λx a=>⟨λh=>False.elim h,λh=>VN ((a.e h).imp λv M h=>gX h)⟩)
 (λn tgt tup caps how it c a oi oc oa=>⟨λh=>GP (De oi oc oa (λ_ _ h=>h) h),λh=>False.elim h⟩)
 (λ{G k E M K X}h=>h)
 (λc cs a l {G k E M K X}h=>(a.e h).imp λv M h=>l h)
 ⟨λh=>GR h,λh=>h⟩
 (λc a=>⟨λh=>GS (a.e h),λh=>a.t h⟩) c
abbrev Wt:=Gd->Nat->Nat->dX->(Ev->XT)->Ev->XT
noncomputable def AD(o:Option (Option Nat))(l:Nat):Bool:=Option.rec (motive:=λ_=>Bool) false (λo=>Option.rec (motive:=λ_=>Bool) (Nat.ble l 900) (λ_=>false) o) o
def sb{α:Type}(l:List α)(K:List α->Prop):Prop:=List.rec (motive:=λ_=>(List α->Prop)->Prop) (λK=>K []) (λx _ O K=>O λr=>K (x::r)) l K
theorem Qw{α:Type}{l:List α}:∀{K:List α->Prop},sb l K->K l:=by
 induction l with
 |nil=>exactλh=>h
 |cons x l O=>exactλh=>O h
def Hu(M:LB)(K:XT)(m:Nat)(v x:cJ):Prop:=
 cJ.rec (motive:=λ_=>Prop) (λ_=>False) (λj=>oE False (λob=>Ob.rec (motive:=λ_=>Prop) (λ_=>False) (λ_=>False) (λ_=>False) (λ_=>False) (λ_=>False) (λ_=>False) (λc fs=>bE (sb (dq fs m v) λO=>K (M.set j (.inst c O))) False (AD (mt c m) fs.length)) ob) (M[j]?)) x
noncomputable def Wj:D->Option LD
| .con .tup ds=>some ds
|_=>none
def By(t:CT)(e:CE):Wt:=λG k n P N E M=>CT.rec (motive:=λ_=>Prop) (λi=>(sm e).e G k E M (λv M'=>N (E.set i (some v)) M') (P.exc E))
 (λo m=>(sm e).e G k E M (λv M₁=>(sm o).e G k E M₁ (λx O=>Hu O (λU=>N E U) m v x) (P.exc E)) (P.exc E))
 (λa b=>(sm e).e G k E M (λv M₁=>(sm a).e G k E M₁ (λx O=>(sm b).e G k E O (λy U=>iS U (λM₄=>N E M₄) v x y) (P.exc E)) (P.exc E)) (P.exc E))
 (λis=>(sm e).e G k E M (λv M'=>oE False (λds=>bE (N (i6 E is ds) M') False (Nat.beq ds.length is.length)) ((iI M' v).bind Wj)) (P.exc E)) t
def Ij(e:CE):Wt:=λG k n P N E M=>(sm e).e G k E M (λ_ M'=>N E M') (P.exc E)
def Il(t:CE)(_ _:List CS)(a b:Wt):Wt:=λG k n P N E M=>(sm t).t G k E M (λc M'=>bE (a G k n P N E M') (b G k n P N E M') c) (P.exc E)
structure CF(G:Gd)(k n:Nat)(t:CE)(b:List CS)(N:Ev->XT)(P:dX)(E:Ev)(M:LB):Prop where
h:∀r Q,(∀E M,N E M->Run G k n r E M ⟨Q,P.brk,P.ret,P.exc⟩)->Run G k n (.ZH t b::r) E M ⟨Q,P.brk,P.ret,P.exc⟩
structure ri(G:Gd)(k n:Nat)(is:LN)(tup:Bool)(how:Nat)(b:List CS)(N:Ev->XT)(P:dX)(E:Ev)(ds:LD)(M:LB):Prop where
h:∀r Q,(∀E M,N E M->Run G k n r E M ⟨Q,P.brk,P.ret,P.exc⟩)->wV G k n is tup how b r E ⟨Q,P.brk,P.ret,P.exc⟩ ds M
def Iw(t:CE)(b:List CS)(_:Wt):Wt:=λG k n P N E M=>CF G k n t b N P E M
def Ik(t:CT)(how:Nat)(e:CE)(b:List CS)(_:Wt):Wt:=λG k n P N E M=>
 oE False (λx=>(sm e).e G k E M (λv M₁=>oE False (λds=>ri G k n x.1 x.2 how b N P E ds M₁) (ji how M₁ v)) (P.exc E)) (rM t)
def Iq(e:CE):Wt:=λG k n P N E M=>(sm e).e G k E M P.ret (P.exc E)
def Io:Wt:=λG k n P N E M=>N E M
def Ih:Wt:=λG k n P N E M=>P.brk E M
def Ip(a b:CE):Wt:=λG k n P N E M=>Gx G/\(sm a).e G k E M (λ_ M₁=>(sm b).e G k E M₁ (λ_ O=>P.exc E O) (P.exc E)) (P.exc E)
def Ig:Wt:=λ_ _ _ _ _ _ _=>False
def Iu(b:List CS)(i m:Nat)(c:Int)(_:Wt):Wt:=λG k n P N E M=>exmOne G.K (.ref G.C) (.ref G.C)=some true/\Go G k n b E M ⟨N,P.brk,P.ret,uF i m c P.ret⟩
def Im:Wt:=λ_ _ _ _ N E M=>N E M
def Ii(_:CS)(_:List CS)(a b:Wt):Wt:=λG k n P N E M=>a G k n P (λE' M'=>b G k n P N E' M') E M
def ws(cs:List CS):Wt:=CS.rec_1 (motive_1:=λ_=>Wt) (motive_2:=λ_=>Wt) By Ij Il Iw Ik Iq Io Ih Ip Ig Iu Im Ii cs
def w1(c:CS):Wt:=CS.rec (motive_1:=λ_=>Wt) (motive_2:=λ_=>Wt) By Ij Il Iw Ik Iq Io Ih Ip Ig Iu Im Ii c
section
variable{G:Gd}{k n:Nat}{E:Ev}{M:LB}{P:dX}{N:Ev->XT}{s:CS}{r:List CS}
theorem UD{K:XT}{m:Nat}{v x:cJ}(h:Hu M K m v x):uC M K m v x:=by
 cases x with
 |sh=>exact False.elim h
 |own j=>
  obtain ⟨ob,hm,h⟩:=gX (K:=λob=>Ob.rec (motive:=λ_=>Prop) (λ_=>False) (λ_=>False) (λ_=>False) (λ_=>False) (λ_=>False) (λ_=>False) (λc fs=>bE (sb (dq fs m v) λO=>K (M.set j (.inst c O))) False (AD (mt c m) fs.length)) ob) (o:=M[j]?) h
  cases ob with
  |inst c fs=>
   have h:bE (sb (dq fs m v) λO=>K (M.set j (.inst c O))) False (AD (mt c m) fs.length):=h
   cases e:mt c m with
   |none=>rw[e] at h;exact False.elim h
   |some o=>cases o with
    |some _=>rw[e] at h;exact False.elim h
    |none=>
     rw[e] at h
     have h:bE (sb (dq fs m v) λO=>K (M.set j (.inst c O))) False (Nat.ble fs.length 900):=h
     cases U:Nat.ble fs.length 900 with
     |false=>rw[U] at h;exact False.elim h
     |true=>rw[U] at h;exact .mk hm e (Nat.le_of_ble_eq_true U) (Qw (K:=λO=>K (M.set j (.inst c O))) h)
  |_=>exact False.elim h
def SW(c:CS)(s:Wt):Prop:=∀{G k n P N E M r Q},s G k n P N E M->(∀E M,N E M->Run G k n r E M ⟨Q,P.brk,P.ret,P.exc⟩)->Run G k n (c::r) E M ⟨Q,P.brk,P.ret,P.exc⟩
def nS(cs:List CS)(s:Wt):Prop:=∀{G k n P N E M r Q},s G k n P N E M->(∀E M,N E M->Run G k n r E M ⟨Q,P.brk,P.ret,P.exc⟩)->Run G k n (cs++r) E M ⟨Q,P.brk,P.ret,P.exc⟩
theorem nS.one{cs:List CS}{s:Wt}(w:nS cs s){G k n P N E M}(h:s G k n P N E M):Run G k n cs E M ⟨N,P.brk,P.ret,P.exc⟩:=aS cs▸w (r:=[]) h λ_ _ h=>TC h
theorem iS.imp{K O:XT}{v x y:cJ}(q:∀M,K M->O M)(h:iS M K v x y):iS M O v x y:=h.casesOn (λa b c d=>.list a b c (q _ d)) (λa b c=>.Z7 a b (q _ c)) (λa b c=>.Z4 a b (q _ c)) λa b c d=>.Z2 a b c (q _ d)
theorem MI(e:CE):(∃n tgt tup caps how it c a,e=.comp n tgt tup caps how it c a)∨e.Zm=false:=by
 cases e with
 |comp=>exact .inl ⟨_,_,_,_,_,_,_,_,rfl⟩
 |_=>exact .inr rfl
theorem oo(c:Option CE):ux c (Option.rec (motive:=λ_=>So) oY (λc=>o3 c (sm c)) c):=by
 cases c with
 |none=>exact⟨λh=>GR h,λh=>h⟩
 |some c=>exact⟨λh=>GS ((gc c).e h),λh=>(gc c).t h⟩
theorem JP{t:CT}{e:CE}:SW (.assign t e) (By t e):=λ{G k n P N E M r Q}h q=>by
 cases t with
 |loc i=>
  have h:(sm e).e G k E M (λv M'=>N (E.set i (some v)) M') (P.exc E):=h
  rcases MI e with⟨l,tgt,tup,caps,how,it,c,a,rfl⟩|hc
  ·exact TK (De (gc it) (oo c) (gc a) (λv M h=>q _ _ h) h)
  ·exact TJ hc (((gc e).e h).imp λv M h=>q _ _ h)
 |attr o m=>exact G3 (((gc e).e h).imp λv M h=>((gc o).e h).imp λx M h=>(UD h).casesOn λa b c d=>.mk a b c (q _ _ d))
 |idx a b=>exact TA (((gc e).e h).imp λv M h=>((gc a).e h).imp λx M h=>((gc b).e h).imp λx M h=>iS.imp (λM h=>q _ _ h) h)
 |tup is=>exact TN (((gc e).e h).imp λv M h=>(gX h).elim λds h=>(oB h.1).elim λd h1=>by
  have e1:d=.tup ds:=by
   have:=h1.2
   cases d with
   |con t l=>cases t with
    |tup=>exact aj D.tup (aq this)
    |_=>exact cR this
   |_=>exact cR this
  have O:=h.2
  cases U:Nat.beq ds.length is.length with
  |false=>rw[U] at O;exact False.elim O
  |true=>rw[U] at O;exact .mk (h1.1.trans (aj some e1)) (cH U) (q _ _ O))
theorem BO(cs:List CS):nS cs (ws cs):=CS.rec_1 (motive_1:=λc=>SW c (w1 c)) (motive_2:=λcs=>nS cs (ws cs))
 (λt e=>JP)
 (λe {G k n P N E M r Q}h q=>Tw (((gc e).e h).imp λv M h=>q _ _ h))
 (λt a b ia O {G k n P N E M r Q}h q=>TB (((gc t).t h).mono λc M h=>by
  cases c with
  |true=>exact(nS.one ia h).mono (λ_ _ h=>q _ _ h) (λ_ _ h=>h) (λ_ _ h=>h) λ_ _ h=>h
  |false=>exact(nS.one O h).mono (λ_ _ h=>q _ _ h) (λ_ _ h=>h) (λ_ _ h=>h) λ_ _ h=>h))
 (λt b O {G k n P N E M r Q}h q=>h.h r Q q)
 (λt how e b O {G k n P N E M r Q}h q=>(gX h).elim λx h=>Tx h.1 (((gc e).e h.2).imp λv M h=>(gX h).elim λds h=>⟨ds,h.1,h.2.h r Q q⟩))
 (λe {G k n P N E M r Q}h q=>TH ((gc e).e h))
 (λ{G k n P N E M r Q}h q=>TF (q _ _ h))
 (λ{G k n P N E M r Q}h q=>Tv h)
 (λa b {G k n P N E M r Q}h q=>TG h.1 (((gc a).e h.2).imp λv M h=>(gc b).e h))
 (λ{G k n P N E M r Q}h q=>False.elim h)
 (λb i m c O {G k n P N E M r Q}h q=>TM h.1 (h.2.h.mono (λ_ _ h=>q _ _ h) (λ_ _ h=>h) (λ_ _ h=>h) λ_ _ h=>h))
 (λ{G k n P N E M r Q}h q=>q _ _ h)
 (λc cs ic U {G k n P N E M r Q}h q=>ic (P:=P) h λE M h=>U (P:=P) h q) cs
theorem go(h:ws r G k n P P.next E M):Go G k n r E M P:=⟨nS.one (BO r) h⟩
theorem gT(i:Nat)(h:ws (r.take i) G k n P (λE M=>Go G k n (r.drop i) E M P) E M):Go G k n r E M P:=⟨by
 have h:=BO (r.take i) (r:=r.drop i) (Q:=P.next) h λ_ _ h=>h.h
 rwa [ci i r] at h⟩
end
theorem oI{α:Type}{Z:Prop}{K:α->Prop}{o:Option α}{x:α}(h:o=some x)(q:K x):Option.rec (motive:=λ_=>Prop) Z K o:=h▸q
theorem bB{A B:Prop}{c:Bool}(a:c=true->A)(b:c=false->B):Bool.rec (motive:=λ_=>Prop) B A c:=by
 cases c with
 |true=>exact a rfl
 |false=>exact b rfl
theorem bI{p:Prop}[Decidable p]{A B:Prop}(a:p->A)(b:¬p->B):Bool.rec (motive:=λ_=>Prop) B A (decide p):=bB (λh=>a (aD h)) λh=>b (of_decide_eq_false h)
theorem bN{p:Prop}[Decidable p]{A B:Prop}(a:¬p->A)(b:p->B):Bool.rec (motive:=λ_=>Prop) B A (!decide p):=bB (λh=>a λq=>by rw[aG q] at h;exact cX h) λh=>b (Decidable.byContradiction λq=>by rw[bu q] at h;exact I4 h)
theorem bT{p:Prop}[Decidable p]{A B:Prop}(h:p)(a:A):Bool.rec (motive:=λ_=>Prop) B A (decide p):=by rw[aG h];exact a
theorem bF{p:Prop}[Decidable p]{A B:Prop}(h:¬p)(b:B):Bool.rec (motive:=λ_=>Prop) B A (decide p):=by rw[bu h];exact b
structure Le(E₀ E:Ev):Prop where
len:E₀.length=E.length
at_:∀(i:Nat)(v:cJ),E₀[i]?=some (some v)->E[i]?=some (some v)
def xJ(is:LN)(E:Ev):Ev:=List.rec (motive:=λ_=>Ev) E (λi _ O=>O.set i none) is
theorem Le.rfl{E:Ev}:Le E E:=⟨Eq.refl _,λ_ _ h=>h⟩
theorem Le.set{E₀ E:Ev}(l:Le E₀ E)(i:Nat)(x:Option cJ):Le (E₀.set i x) (E.set i x):=by
 refine⟨by rw[bc,bc,l.len],λj v h=>?_⟩
 by_cases e:i=j
 ·subst e
  have hl:=(aO.mp h).1
  rw[bc] at hl
  rw[bd hl] at h
  rw[bd (l.len▸hl)];exact h
 ·rw[bX e] at h⊢;exact l.at_ j v h
theorem Le.drop{E₀ E:Ev}(l:Le E₀ E)(i:Nat):Le (E₀.set i none) E:=by
 refine⟨by rw[bc,l.len],λj v h=>?_⟩
 by_cases e:i=j
 ·subst e
  have hl:=(aO.mp h).1
  rw[bc] at hl
  rw[bd hl] at h;cases h
 ·rw[bX e] at h;exact l.at_ j v h
theorem Le.drp(is:LN){E:Ev}:Le (xJ is E) E:=by
 induction is with
 |nil=>exact .rfl
 |cons i is O=>exact O.drop i
theorem Le.setV{is:LN}:∀{xs:LD}{E₀ E:Ev},Le E₀ E->Le (i6 E₀ is xs) (i6 E is xs):=by
 induction is with
 |nil=>exactλl=>l
 |cons i is O=>intro xs E₀ E l;cases xs with
  |nil=>exact l
  |cons x xs=>exact O (l.set i _)
section
variable{G:Gd}{k n:Nat}{E E₀:Ev}{M:LB}{P:dX}{N:Ev->XT}{cs:List CS}
theorem Run.le(l:Le E₀ E)(h:Run G k n cs E₀ M P):Run G k n cs E M P:=λF A σ₀ s₀ outer p₀ p ρ m O a hk=>h m O ⟨⟨a.1.env,a.1.k,a.1.qh,a.1.st,l.len.trans a.1.er.len,λi v h=>a.1.er.at_ i v (l.at_ i v h)⟩,a.en,a.hn,a.g⟩ hk
structure LP(N:Ev->XT)(P:dX){S:Type}(e:S->Ev)(m:S->LB)(I:S->Prop)(P':dX):Prop where
nx:∀is s{E},I s->xJ is E=e s->P'.next E (m s)
bk:∀{E M},N E M->P'.brk E M
rt:∀{v M},P.ret v M->P'.ret v M
xc:∀{E M},P.exc E M->P'.exc E M
inductive nK{S:Type}(e:S->Ev)(m:S->LB)(I:S->Prop)(E:Ev):XT
|mk (s):I s->Le (e s) E->nK e m I E (m s)
theorem LP.of{S:Type}{e:S->Ev}{m:S->LB}{I:S->Prop}{O:Ev->XT}(h:∀{E M},N E M->O E M):LP N P e m I ⟨nK e m I,O,P.ret,P.exc⟩:=
 ⟨λis s E U he=>.mk s U (he▸.drp is),h,λh=>h,λh=>h⟩
section
variable{α S:Type}{l:List α}{ds:LD}{how:Nat}{b:List CS}(e:Nat->S->Ev)(m:Nat->S->LB)(I:Nat->S->Prop)(s0:S)
theorem dZ{f:Nat->α->D}{j:Nat}(h0:I 0 s0)(hd:∀i,ds[i]?=(l[i]?).map (f i))
 (hs:∀i x s P',l[i]?=some x->I i s->LP N P (e (i+1)) (m (i+1)) (I (i+1)) P'->Go G k n b ((e i s).set j (some (.sh (f i x)))) (m i s) P')
 (hr:∀s,I l.length s->N (e l.length s) (m l.length s)) (h3:Nat.beq how 3=false:=by rfl):ri G k n [j] false how b N P (e 0 s0) ds (m 0 s0):=⟨λr Q U=>by
 have hl:ds.length=l.length:=by
  rcases Nat.lt_trichotomy ds.length l.length with h|h|h
  ·have:=hd ds.length;rw[cB (ao _),aC h] at this;exact cR this
  ·exact h
  ·have:=hd l.length;rw[aC h,cB (ao _)] at this;exact iP this
 refine .mk (λi=>nK (e i) (m i) (I i)) ⟨λi x E' M' hx O=>?_,λE' M' O=>?_⟩ (.mk s0 h0 .rfl)
 ·refine O.casesOn λs O le=>?_
  rw[hd i] at hx
  obtain ⟨y,hy,rfl⟩:=oM hx
  refine⟨[f i y],by rw[h3];rfl,?_⟩
  exact((hs i y s _ hy O (LP.of λh=>U _ _ h)).h).le (le.set j _)
 ·refine O.casesOn λs O le=>?_
  exact(U _ _ (by rw[hl] at O⊢;exact hr s O)).le le⟩
theorem rV{g:Nat->α->LD}{is:LN}(h0:I 0 s0)(hd:∀i,ds[i]?=(l[i]?).map λx=>D.tup (g i x))(hg:∀i x,(g i x).length=is.length)
 (hs:∀i x s P',l[i]?=some x->I i s->LP N P (e (i+1)) (m (i+1)) (I (i+1)) P'->Go G k n b (i6 (e i s) is (g i x)) (m i s) P')
 (hr:∀s,I l.length s->N (e l.length s) (m l.length s)) (h3:Nat.beq how 3=false:=by rfl):ri G k n is true how b N P (e 0 s0) ds (m 0 s0):=⟨λr Q U=>by
 have hl:ds.length=l.length:=by
  rcases Nat.lt_trichotomy ds.length l.length with h|h|h
  ·have:=hd ds.length;rw[cB (ao _),aC h] at this;exact cR this
  ·exact h
  ·have:=hd l.length;rw[aC h,cB (ao _)] at this;exact iP this
 refine .mk (λi=>nK (e i) (m i) (I i)) ⟨λi x E' M' hx O=>?_,λE' M' O=>?_⟩ (.mk s0 h0 .rfl)
 ·refine O.casesOn λs O le=>?_
  rw[hd i] at hx
  obtain ⟨y,hy,rfl⟩:=oM hx
  refine⟨g i y,by rw[h3];exact al (hg i y),?_⟩
  exact((hs i y s _ hy O (LP.of λh=>U _ _ h)).h).le le.setV
 ·refine O.casesOn λs O le=>?_
  exact(U _ _ (by rw[hl] at O⊢;exact hr s O)).le le⟩
theorem kx{j z:Nat}(U:I 0 s0)(hs:∀i s P',i<z->I i s->LP N P (e (i+1)) (m (i+1)) (I (i+1)) P'->Go G k n b ((e i s).set j (some (.sh (.int (i:Int))))) (m i s) P')
 (hr:∀s,I z s->N (e z s) (m z s)):ri G k n [j] false 1 b N P (e 0 s0) ((List.range z).map λi:Nat=>D.int (i:Int)) (m 0 s0):=by
 refine dZ (l:=List.range z) (f:=λi _=>.int i) e m I s0 U (λi=>?_) (λi x s P' O hI L=>hs i s P' ?_ hI L) (by rw[aQ];exact hr)
 ·rw[aA]
  rcases Nat.lt_or_ge i z with q|q
  ·rw[cg q];rfl
  ·rw[cB (by rwa [aQ])];rfl
 ·have:=(aO.mp O).1;rwa [aQ] at this
end
theorem kB{M:LB}{z:Nat}(h:z<=mx):ji 1 M (.sh (.int (z:Int)))=some ((List.range z).map λi:Nat=>D.int (i:Int)):=by
 show(if _ then _ else _)=_
 rw[al ⟨bj z,b7.mpr h⟩,cq]
theorem dG{α:Type}{f:α->D}{l:List α}(i:Nat):(l.map f)[i]?=(l[i]?).map ((λ_=>f) i):=aA
theorem eJ.weak{c:CE}{K O:Bool->XT}{X X':XT}(l:Le E₀ E)(h:eJ kc G k c E₀ M K X)(q:∀v M,K v M->O v M)(U:∀M,X M->X' M):eJ kc G k c E M O X':=λF p ρ n e a hk=>
 (h n e ⟨a.env,a.k,a.qh,a.st,l.len.trans a.er.len,λi v h=>a.er.at_ i v (l.at_ i v h)⟩ hk).imp (λv σ y=>y.casesOn λg st r k=>.mk g st r (q _ _ k)) λσ x=>x.casesOn λg st k=>.mk g st (U _ k)
theorem qZ{S:Type}{t:CE}{b:List CS}(e:S->Ev)(m:S->LB)(I:S->Prop)(μ:S->Nat)(s0:S)(h0:I s0)
 (hs:∀s P',I s->LP N P e m (λs'=>μ s'<μ s/\I s') P'->(sm t).t G k (e s) (m s) (λc M₁=>bE (Go G k n b (e s) M₁ P') (N (e s) M₁) c) λ_=>False):CF G k n t b N P (e s0) (m s0):=⟨λr Q hN=>by
 refine TP (λz E=>nK e m (λs=>μ s=z/\I s) E) (m:=μ s0) (.mk s0 ⟨rfl,h0⟩ .rfl) λz E' M' hI=>?_
 refine hI.casesOn λs hI le=>?_
 refine((gc t).t (hs s ⟨λO U=>∃m',m'<z/\nK e m (λs=>μ s=m'/\I s) O U,λE M=>Run G k n r E M ⟨Q,P.brk,P.ret,P.exc⟩,P.ret,P.exc⟩ hI.2 ⟨λis s' E h he=>⟨μ s',hI.1▸h.1,.mk s' ⟨rfl,h.2⟩ (he▸.drp is)⟩,λh=>hN _ _ h,λh=>h,λh=>h⟩)).weak le (λc M h=>?_) λM h=>h.elim
 cases c with
 |true=>exact Run.le le h.h
 |false=>exact Run.le le (hN _ _ h)⟩
theorem jn{S:Type}(i:Nat)(e:S->Ev)(m:S->LB)(I:S->Prop)(h:∀U:Ev->XT,(∀is s{E},I s->xJ is E=e s->U E (m s))->ws (cs.take i) G k n P U E M)(q:∀s,I s->Go G k n (cs.drop i) (e s) (m s) P):Go G k n cs E M P:=⟨by
 have h:=BO (cs.take i) (r:=cs.drop i) (Q:=P.next) (h (nK e m I) λis s E O he=>.mk s O (he▸.drp is)) λE M O=>O.casesOn λs O le=>(q s O).h.le le
 rwa [ci i cs] at h⟩
theorem gF{i j:Nat}{ob:Ob}{d:D}(hi:E[i]?=some (some (.own j)))(hm:M[j]?=some ob)(hd:fR M ob=some d)(h:Go G k n cs (E.set i (some (.sh d))) (M.set j (.Z3 d)) P):Go G k n cs E M P:=⟨Tz hi hm hd h.h⟩
theorem gZ{j:Nat}{ob:Ob}{d:D}(hm:M[j]?=some ob)(hd:fR M ob=some d)(h:Go G k n cs E (M.set j (.Z3 d)) P):Go G k n cs E M P:=⟨G4 hm hd h.h⟩
end
noncomputable def wq(R:D->Prop):dX:=⟨λ_ _=>R .none,λ_ _=>False,λv M'=>∃d,c7 M' v=some d/\R d,λ_ _=>False⟩
noncomputable def Rk(R:D->Prop):dX:=⟨λ_ M'=>∃d,c7 M' (.own 0)=some d/\R d,λ_ _=>False,λ_ _=>False,λ_ _=>False⟩
section
variable{G:Gd}{k f:Nat}{M:LB}{K:KT}{X:XT}
theorem Bm{ds:LD}:(ds.map cJ.sh).all (cJ.lt 0)=true:=by
 induction ds with
 |nil=>rfl
 |cons d ds O=>exact O
theorem dj{cs:List CS}{na:Nat}{tail:List CV}(O:gg G f cs na tail){ds:LD}(hl:ds.length=na){R:D->Prop}{j:Nat}(hk:j+2<=k)(q:∀d,R d->K (.sh d) M)
 (h:Go G j 0 cs (ds.map (λd=>some (.sh d))++tail.map tv) [] (wq R)):Cl G k f (ds.map .sh) M K X:=⟨by
 refine Fn.up (k:=j+2) (Fn.pure (R:=R) (u2 O ((ag _).trans hl) ?_) Bm q) hk
 have e:(ds.map cJ.sh).map some=ds.map (λd=>some (.sh d)):=by rw[aJ];rfl
 rw[e]
 exact h.h.mono (λ_ _ q=>⟨_,rfl,q⟩) (λ_ _ q=>q) (λ_ _ q=>q) λ_ _ q=>q⟩
theorem lq{c:Nat}{cs:List CS}{na:Nat}{tail:List CV}(hm:mt c 0=some (some f))(O:gg G f cs na tail){ds:LD}(hl:ds.length+1=na){R:D->Prop}{j:Nat}(hk:j+2<=k)(q:∀d,R d->K (.sh d) M)
 (h:Go G j 1 cs (some (.own 0)::(ds.map (λd=>some (.sh d))++tail.map tv)) [.inst c []] (Rk R)):Nw G k c (ds.map .sh) M K X:=⟨by
 refine mC.pure (R:=R) (Am hm (Fn.up (k:=j+2) (u2 O ((aj Nat.succ (ag _)).trans hl) ?_) hk)) Bm q
 have e:(cJ.own ([]:LB).length::ds.map cJ.sh).map some++tail.map tv=some (.own 0)::(ds.map (λd=>some (.sh d))++tail.map tv):=by
  rw[aN,aJ];rfl
 rw[e]
 exact h.h.mono (λ_ _ q=>⟨rfl,q⟩) (λ_ _ q=>q) (λ_ _ q=>q.elim) λ_ _ q=>q⟩
end
section
variable{M:LB}{i j:Nat}
theorem gY{xs:LV}(hm:M[j]?=some (.list xs)):view M (.own j)=some (.list xs):=by
 show(M[j]?).bind _=_
 rw[hm];rfl
theorem SX(i n:Nat):lx (i:Int) n=i:=by unfold lx;rw[al (bj i)];rfl
theorem yr{v:cJ}{xs:LV}(h:xs[i]?=some v):lb xs (i:Int)=some v:=by
 unfold lb
 rw[al (Int.le_trans (Int.neg_nonpos_of_nonneg (bj _)) (bj i)),SX];exact h
theorem dJ{ds:LD}{d:D}(h:ds[i]?=some d):fX M (.sh (.list ds)) (.sh (.int (i:Int)))=some (.sh d):=yr (xs:=ds.map .sh) (by rw[aA,h];rfl)
theorem ES{ds:LD}{d:D}(h:ds[i]?=some d):fX M (.sh (.tup ds)) (.sh (.int (i:Int)))=some (.sh d):=yr (xs:=ds.map .sh) (by rw[aA,h];rfl)
theorem jP{v:cJ}{xs:LV}(hm:M[j]?=some (.list xs))(h:xs[i]?=some v):fX M (.own j) (.sh (.int (i:Int)))=some v:=by show(view M (.own j)).bind _=_;rw[gY hm];exact yr h
theorem lst{v:cJ}{xs:LV}(h:xs.getLast?=some v):lb xs (-1)=some v:=by
 cases xs with
 |nil=>exact cR h
 |cons x r=>
  unfold lb
  rw[al (by simp only[List.length_cons];lia)]
  rw[List.getLast?_eq_getElem?] at h
  have:lx (-1) (x::r).length=(x::r).length-1:=by unfold lx;rw[av dQ];simp only[List.length_cons];lia
  rw[this];exact h
theorem yo{v:cJ}{xs:LV}(hm:M[j]?=some (.list xs))(h:xs.getLast?=some v):fX M (.own j) (.sh (.int (-1)))=some v:=by show(view M (.own j)).bind _=_;rw[gY hm];exact lst h
variable{K:KT}
theorem qm{ds:LD}(h:ds.length<=mx)(q:K (.sh (.int ds.length)) M):fJ M K .len [.sh (.list ds)]:=.len (xs:=ds.map .sh) (.inl rfl) ((ag _).symm▸h) ((ag (f:=cJ.sh) (as:=ds)).symm▸q)
theorem QL{ds:LD}(h:ds.length<=mx)(q:K (.sh (.int ds.length)) M):fJ M K .len [.sh (.tup ds)]:=.len (xs:=ds.map .sh) (.inr rfl) ((ag _).symm▸h) ((ag (f:=cJ.sh) (as:=ds)).symm▸q)
theorem Fd{xs:LV}(hm:M[j]?=some (.list xs))(h:xs.length<=mx)(q:K (.sh (.int xs.length)) M):fJ M K .len [.own j]:=.len (.inl (gY hm)) h q
theorem ig{α:Type}(g:α->D):∀l:List α,data M (l.map λx=>.sh (g x))=some (l.map g)
 |[]=>rfl
 |x::l=>by
  show(some (g x)).bind (λd=>(data M (l.map λx=>.sh (g x))).map λds=>d::ds)=_
  rw[ig g l];rfl
theorem rQ(l:LD):data M (l.map .sh)=some l:=(ig (M:=M) id l).trans (by rw[List.map_id])
theorem u5{α:Type}(g:α->D){l:List α}(hm:M[j]?=some (.list (l.map λx=>.sh (g x)))):c7 M (.own j)=some (.list (l.map g)):=by
 show(M[j]?).bind (fR M)=_
 rw[hm]
 show(data M (l.map λx=>cJ.sh (g x))).map (D.con .list)=_
 rw[ig];rfl
theorem app{xs:LV}{x:cJ}(hm:M[j]?=some (.list xs))(hl:xs.length<=mx)(q:K (.sh .none) (M.set j (.list (xs++[x])))):MethP M K (.own j) 72 [x]:=.app rfl hm hl q
theorem JV{i j:Int}(h:IntMulOk i j):binI .Mult i j=some (i*j):=(al h)
theorem uL{i j:Int}(h:j≠0):binI .Mod i j=some (i.fmod j):=(al h)
theorem JU{i j:Int}(h:j≠0)(O:Builtin.divisionGoesByPylong i j=false):binI .FloorDiv i j=some (i.fdiv j):=(al ⟨h,O⟩)
theorem pU{j:Nat}(h:j<=2^26):binI .LShift 1 (j:Int)=some ((2^j:Nat):Int):=(by
 have e:(1:Int)*2^(j:Int).toNat=((2^j:Nat):Int):=by rw[Int.one_mul,cq,Int.natCast_pow];rfl
 rw[←e]
 refine al ⟨bj j,?_⟩
 have:Builtin.Int.intBits 1=1:=by decide
 rw[this];lia)
end
noncomputable def cS(l:LN):D:=.list (l.map λi:Nat=>D.int i)
noncomputable def cP(l:LQ):D:=.list (l.map .str)
noncomputable def Rl.d(r:Rl)(i:Nat):D:=.inst 653 [28,47,48,27,49,50,51] [.int i,.int r.left,.tup (r.right.map λi:Nat=>D.int i),.int r.level,.none,.int 0,.int 0]
noncomputable def cL.ZR(g:cL):LD:=g.rules.zipIdx.map λx=>x.1.d x.2
section
variable{turn:Nat->D->LB->(Option cJ->XT)->Prop}{α S:Type}{l:List α}{f:Nat->α->D}{ds:LD}
theorem xj(hd:∀i,ds[i]?=(l[i]?).map (f i)):ds.length=l.length:=by
 rcases Nat.lt_trichotomy ds.length l.length with h|h|h
 ·have:=hd ds.length;rw[cB (ao _),aC h] at this;exact cR this
 ·exact h
 ·have:=hd l.length;rw[aC h,cB (ao _)] at this;exact iP this
theorem xB{K:LV->XT}(I:Nat->LV->XT)(hb:∀i acc M,I i acc M->acc.length<=mx)
 (ht:∀i x acc M(R:Option cJ->XT),ds[i]?=some x->I i acc M->(∀v M₁,I (i+1) (acc++[v]) M₁->R (some v) M₁)->(∀M₁,I (i+1) acc M₁->R none M₁)->turn i x M R)
 (hK:∀acc M,I ds.length acc M->K acc M):∀{m i:Nat}{acc:LV}{M:LB},i+m=ds.length->I i acc M->jU turn K i (ds.drop i) acc M
 |0,i,acc,M,h,U=>by
  have h:i=ds.length:=h
  rw[List.drop_eq_nil_of_le (bn h.symm)]
  exact hK _ _ (h▸U)
 |m+1,i,acc,M,h,U=>by
  have O:i<ds.length:=h▸Nat.lt_add_of_pos_right (Nat.succ_pos m)
  rw[List.drop_eq_getElem_cons O]
  show jU turn K i (ds[i]::ds.drop (i+1)) acc M
  have h:i+1+m=ds.length:=(Nat.succ_add_eq_add_succ i m).trans h
  exact ht i _ acc M _ (aC O) U (λv M₁ q=>⟨hb _ _ _ U,xB I hb ht hK h q⟩) λM₁ q=>xB I hb ht hK h q
inductive B5(m:S->LB)(I:S->Prop):XT
|mk (s):I s->B5 m I (m s)
theorem uR{K:LV->XT}(m:S->LB)(I:Nat->LV->S->Prop)(s0:S)(O:I 0 [] s0)(hd:∀i,ds[i]?=(l[i]?).map (f i))(hb:∀i acc s,I i acc s->acc.length<=mx)
 (ht:∀i x acc s(R:Option cJ->XT),l[i]?=some x->I i acc s->(∀v s',I (i+1) (acc++[v]) s'->R (some v) (m s'))->(∀s',I (i+1) acc s'->R none (m s'))->turn i (f i x) (m s) R)
 (q:∀acc s,I l.length acc s->K acc (m s)):Cm turn K ds (m s0):=
 ⟨xB (λi acc M=>B5 m (I i acc) M) (λi acc M h=>h.casesOn λs h=>hb i acc s h) (λi x acc M R U h a b=>by
  rw[hd i] at U
  obtain ⟨y,hy,rfl⟩:=oM U
  exact h.casesOn (motive:=λM _=>turn i (f i y) M R) λs h=>ht i y acc s R hy h (λv s' h=>a v _ ⟨s',h⟩) λs' h=>b _ ⟨s',h⟩) (λacc M h=>by
  rw[xj hd] at h
  exact h.casesOn λs h=>q acc s h) (m:=ds.length) (i:=0) (bA _) ⟨s0,O⟩⟩
theorem xq{M:LB}{K:KT}{g:α->Option D}(hd:∀i,ds[i]?=(l[i]?).map (f i))(hl:l.length<=1000)
 (ht:∀i x(R:Option cJ->XT),l[i]?=some x->R ((g x).map .sh) M->turn i (f i x) M R) (q:K (.sh (.list (l.filterMap g))) M):Cm turn (λvs O=>gI vs O K) ds M:=
 uR (m:=λ(_:Unit)=>M) (I:=λi acc _=>acc=((l.take i).filterMap g).map .sh) () rfl hd (λi acc _ e=>by
  rw[e,ag]
  exact ae (List.length_filterMap_le ..) (ae (bK ..) (ae hl dQ))) (λi x acc _ R U e a b=>by
  refine ht i x R U ?_
  have es:l.take (i+1)=l.take i++[x]:=by rw[List.take_add_one,U];rfl
  cases h:g x with
  |none=>exact b () (by rw[e,es,List.filterMap_append,List.filterMap_cons_none h];exact(aj _ (aS _)).symm)
  |some d=>exact a _ () (by rw[e,es,List.filterMap_append,List.filterMap_cons_some h,ay];rfl)) λacc _ e=>.inl ⟨_,e▸rQ _,by rw[List.take_length];exact q⟩
theorem lP{M:LB}{K:KT}{g:α->D}(hd:∀i,ds[i]?=(l[i]?).map (f i))(hl:l.length<=1000)
 (ht:∀i x(R:Option cJ->XT),l[i]?=some x->R (some (.sh (g x))) M->turn i (f i x) M R) (q:K (.sh (.list (l.map g))) M):Cm turn (λvs O=>gI vs O K) ds M:=
 xq (g:=λx=>some (g x)) hd hl ht (by rw[List.filterMap_eq_map'];exact q)
end
def cL.d(g:cL):D:=.inst 735 [9,10,19,52,53,54,55,56,57,58] [cP g.names,.int g.tc,.list g.ZR,.Z7 [] [],.none,.int g.start,
 .list ((List.range g.names.length).map λs=>cS (g.ofLeft s)),cS ((List.range g.rules.length).map g.off),cS g.owners,.int g.owners.length]
theorem AB{g:cL}{r:Nat}(hr:r<g.rules.length):((List.range g.rules.length).map g.off)[r]?=some (g.off r):=by
 rw[aA,cg hr];rfl
theorem iw{l:LN}{i v:Nat}(h:l[i]?=some v):(l.map λi:Nat=>D.int i)[i]?=some (.int v):=by rw[aA,h];rfl
theorem tS{g:cL}{r:Nat}{x:Rl}(h:g.rules[r]?=some x):g.ZR[r]?=some (x.d r):=by
 unfold cL.ZR;rw[aA,List.getElem?_zipIdx,h];simp
theorem vA{g:cL}{r:Nat}{x:Rl}(h:g.rules[r]?=some x):g.len r=x.right.length:=by unfold cL.len;rw[h];rfl
theorem dc{α:Type}{l:List α}{i:Nat}{x:α}(h:l[i]?=some x):i<l.length:=(aO.mp h).1
section
variable{G:Gd}{k f n:Nat}{M:LB}{K:KT}{X:XT}(P:dO G)
 {g:cL} {r t:Nat} {x:Rl} (hk:2<=k)
include P hk
theorem ym(hr:r<g.rules.length)(q:K (.sh (.int (g.off r+t))) M):Cl G k 711 [.sh g.d,.sh (.int r),.sh (.int t)] M K X:=
 dj (P.g3 8) (ds:=[g.d,.int r,.int t]) rfl (R:=λd=>d=.int (g.off r+t)) hk (λd h=>h▸q)
  (go (oI (dJ (iw (AB hr))) ⟨_,rfl,rfl⟩))
theorem Hd(hr:g.rules[r]?=some x)(ht:t<=x.right.length)(q:K (.sh (.int r)) M):Cl G k 718 [.sh g.d,.sh (.int ((g.off r+t:Nat):Int))] M K X:=
 dj (P.g2 21) (ds:=[g.d,.int ((g.off r+t:Nat):Int)]) rfl (R:=λd=>d=.int r) hk (λd h=>h▸q)
  (go (oI (dJ (iw (cL.owners_at (by rw[vA hr];exact ht) (dc hr)))) ⟨_,rfl,rfl⟩))
theorem Nd(hr:g.rules[r]?=some x)(ht:t<=x.right.length)(q:K (.sh (.int t)) M):Cl G k 725 [.sh g.d,.sh (.int ((g.off r+t:Nat):Int))] M K X:=
 dj (P.g2 22) (ds:=[g.d,.int ((g.off r+t:Nat):Int)]) rfl (R:=λd=>d=.int t) hk (λd h=>h▸q)
  (go (oI (dJ (iw (cL.owners_at (by rw[vA hr];exact ht) (dc hr)))) (oI (dJ (iw (AB (dc hr)))) ⟨_,rfl,aj D.int (by lia)⟩)))
end
noncomputable def cV(l:LN):LV:=l.map λi:Nat=>.sh (.int i)
theorem Ws(l:LN)(i v:Nat):(cV l).set i (.sh (.int v))=cV (l.set i v):=by unfold cV;rw[List.map_set]
theorem Wr{l:LN}{i v:Nat}(h:l[i]?=some v):(cV l)[i]?=some (.sh (.int v)):=by unfold cV;rw[aA,h];rfl
theorem nr(l:LN):(cV l).length=l.length:=ag _
theorem BH(l:LN)(v:Nat):cV l++[.sh (.int v)]=cV (l++[v]):=by unfold cV;rw[ay];rfl
theorem mN{M:LB}{j:Nat}{l:LN}(hm:M[j]?=some (.list (cV l))):c7 M (.own j)=some (cS l):=u5 _ hm
theorem c3{n:Nat}(h:n<=1000):n<=mx:=ae h dQ
theorem Kd{a i:Nat}:((((a>>>i)&&&1:Nat):Int)=1)↔a.testBit i=true:=by rw[←US];lia
theorem CW{m n:Nat}:Builtin.bitAnd ((m/2^n:Nat):Int) 1=1↔m.testBit n=true:=by
 rw[show(1:Int)=((1:Nat):Int) from rfl,Ke,←Nat.shiftRight_eq_div_pow];exact Kd
theorem kY{M:LB}{K:KT}{j v:Nat}{l:LN}(hm:M[j]?=some (.list (cV l)))(hl:l.length<=1000)(q:K (.sh .none) (M.set j (.list (cV (l++[v]))))):MethP M K (.own j) 72 [.sh (.int v)]:=
 app hm (by rw[nr];exact c3 hl) (by rw[BH];exact q)
theorem Kg{a i:Nat}:Builtin.bitAnd ((a:Int).fdiv (2^(i:Int).toNat)) 1=1↔a.testBit i=true:=by
 rw[cq,Int.fdiv_eq_ediv_of_nonneg _ (Int.pow_nonneg dQ),←CW];norm_cast
theorem lsN{M:LB}{K:KT}{l:LN}(hl:l.length<=1000)(q:K (.own M.length) (M++[.list (cV l)])):fJ M K .list [.sh (cS l)]:=
 .list (.inl rfl) (by rw[ag];exact c3 hl) (.inr (by rw[aJ];exact q))
theorem vz{M:LB}{K:KT}{j:Nat}{l:LN}(hm:M[j]?=some (.list (cV l)))(hl:l.length<=1000)(q:K (.sh (.int l.length)) M):fJ M K .len [.own j]:=Fd hm (by rw[nr];exact c3 hl) (by rw[nr];exact q)
theorem vm{M:LB}{i j v:Nat}{l:LN}(hm:M[j]?=some (.list (cV l)))(h:l[i]?=some v):fX M (.own j) (.sh (.int (i:Int)))=some (.sh (.int (v:Int))):=jP hm (Wr h)
theorem stN{M:LB}{K:XT}{i j O:Nat}{v:Int}{l:LN}(hm:M[j]?=some (.list (cV l)))(hi:i<l.length)(hv:v=(O:Int))(q:K (M.set j (.list (cV (l.set i O))))):iS M K (.sh (.int v)) (.own j) (.sh (.int (i:Int))):=by
 refine .list hm (bj _) (by rw[nr];exact aV.mpr hi) ?_
 rw[cq,hv,Ws];exact q
theorem j9{l:LN}{i:Nat}(h:i<l.length):l[i]?=some l[i]:=aC h
structure kN(m n:Nat)(a:Int)(l:LN):Prop where
nn:n<=1000
aa:a=(m/2^n:Nat)
ll:l=kh m n
theorem kN.step{m n:Nat}{a:Int}{l:LN}(b:kN m n a l)(hm:m<2^1000)(h:0<a){O:LN}(hl:O=if m.testBit n then l++[n] else l):((a.fdiv (2^Int.toNat 1)).toNat<a.toNat)/\kN m (n+1) (a.fdiv (2^Int.toNat 1)) O:=by
 obtain ⟨hn,rfl,rfl⟩:=b
 have h:=Int.natCast_pos.mp h
 have e:(((m/2^n:Nat):Int)).fdiv (2^Int.toNat 1)=((m/2^(n+1):Nat):Int):=by
  rw[Int.fdiv_eq_ediv_of_nonneg _ dQ,Nat.pow_succ,←Nat.div_div_eq_div_mul];rfl
 rw[e]
 refine⟨?_,?_,rfl,?_⟩
 ·rw[Nat.pow_succ,←Nat.div_div_eq_div_mul];exact Nat.div_lt_self h dQ
 ·exact Nat.lt_of_not_le λq=>Nat.ne_of_gt h (Nat.div_eq_of_lt (aR hm (cF dQ q)))
 ·rw[hl,CY];split<;>simp
theorem kN.one{m n:Nat}{a:Int}{l:LN}(b:kN m n a l):Builtin.bitAnd a 1=1↔m.testBit n=true:=by rw[b.aa];exact CW
theorem kN.len{m n:Nat}{a:Int}{l:LN}(b:kN m n a l):l.length<=1000:=by rw[b.ll];exact ae (Ki m n) b.nn
theorem kN.fin{m n:Nat}{a:Int}{l:LN}(b:kN m n a l)(h:¬0<a):l=gP m:=by
 rw[b.ll];refine Kh ?_;rw[b.aa] at h;exact Nat.eq_zero_of_not_pos λq=>h (Int.natCast_pos.mpr q)
section
variable{G:Gd}{k f n:Nat}{M:LB}{K:KT}{X:XT}(P:dO G)
include P
theorem xk{m:Nat}(hk:2<=k)(hm:m<2^1000)(q:K (.sh (cS (gP m))) M):Cl G k 128 [.sh (.int m)] M K X:=
 dj (P.g1 0) (ds:=[.int m]) rfl (R:=λd=>d=cS (gP m)) hk (λd h=>h▸q) (go (.inr
  (qZ (λs:Nat×Int×LN=>[some (.sh (.int m)),some (.own 0),some (.sh (.int (s.1:Nat))),some (.sh (.int s.2.1))]) (λs=>[.list (cV s.2.2)]) (λs=>kN m s.1 s.2.1 s.2.2) (λs=>s.2.1.toNat) (0,m,[]) ⟨aL _,aj Int.ofNat (Nat.div_one m).symm,rfl⟩ λs P' b L=>
   bI (λh=>go (bI (λhb=>kY rfl b.len (L.nx [] (s.1+1,_,s.2.2++[s.1]) (b.step hm h (al (b.one.mp hb)).symm) rfl))
    λhb=>L.nx [] (s.1+1,s.2.1.fdiv (2^Int.toNat 1),s.2.2) (b.step hm h (av λq=>hb (b.one.mpr q)).symm) rfl))
    λh=>⟨_,mN rfl,aj cS (b.fin h)⟩)))
theorem Wg{R:LN}(hk:2<=k)(hn:R.length<=1000)(hb:∀(X m:Nat),R[X]?=some m->m<2^R.length)(q:∀F,kU R.length R F->K (.sh (cS F)) M):Cl G k 772 [.sh (cS R)] M K X:=
 dj (P.g1 15) (ds:=[cS R]) rfl (R:=λd=>∃F,d=cS F/\kU R.length R F) hk (λd h=>h.elim λF h=>h.1▸q F h.2)
  (go (lsN hn (vz rfl hn (oI (kB (c3 hn)) (kx (λ_ (F:LN)=>[some (.sh (cS R)),some (.own 0),none,none]) (λ_ F=>[.list (cV F)]) (λ_ F=>kU R.length R F) R (.start rfl hb)
   (λi F P' hi t L=>go (vz rfl (t.1▸hn) (oI (kB (c3 (t.1▸hn))) (kx (λ_ (F:LN)=>[some (.sh (cS R)),some (.own 0),some (.sh (.int i)),none]) (λ_ F=>[.list (cV F)]) (λ_ F=>kU R.length R F) F t
    (λj O P' U t' L=>have U:j<O.length:=by rw[t'.1,←t.1];exact U
     have hi:i<O.length:=t'.1.symm▸hi
     go (oI (vm rfl (j9 U)) (bI (λh=>oI (vm rfl (j9 U)) (oI (vm rfl (j9 hi)) (stN rfl U (uM _ _) (L.nx [3] _ (t'.step (j9 U) (j9 hi) (Kg.mp h)) rfl)))) λh=>L.nx [3] O t' rfl)))
    (λF t=>L.nx [2,3] F t rfl)))))
   (λF t=>⟨_,mN rfl,F,rfl,t⟩))))))
end
noncomputable def dH(l:LN):D:=.tup (l.map λi:Nat=>D.int i)
def jO(g:cL)(F:LN):D:=.inst 845 [2,62] [g.d,cS F]
theorem dz.rule{g:cL}(ok:dz g){r:Nat}{x:Rl}(U:g.rules[r]?=some x):x.right.length<=3/\x.left<g.names.length/\∀s∈x.right,s<g.names.length:=by
 by_cases O:r=0
 ·subst O
  obtain ⟨l,hl⟩:=ok.r0
  rw[hl] at U;cases U
  have:=ok.start
  refine⟨(by decide:2<=3),Nat.lt_trans this.1 this.2,λs hs=>?_⟩
  simp at hs;lia
 ·exact⟨(ok.right r x O U).1,(ok.left r x O U).2,λs hs=>((ok.right r x O U).2 s hs).2.2⟩
theorem dz.ZK{g:cL}(ok:dz g){n:Nat}(h:n<=g.names.length):n<=1000:=ae h (ae ok.names dQ)
theorem j8{g:cL}{c:Nat}(h:0<=dg g c):dg g c=((dg g c).toNat:Int):=(Int.toNat_of_nonneg h).symm
theorem o6{g:cL}(i:Nat):g.ZR[i]?=(g.rules[i]?).map ((λi x=>x.d i) i):=by
 unfold cL.ZR
 rw[aA,List.getElem?_zipIdx]
 cases g.rules[i]? with
 |none=>rfl
 |some x=>show some (x.d (0+i))=some (x.d i);rw[bA]
theorem JG{x:Rl}{t:Nat}(h:¬t<x.right.length):-1=kW x t:=by
 unfold kW;rw[cB (Nat.le_of_not_lt h)]
theorem RY{g:cL}(ok:dz g){s:Nat}:(g.ofLeft s).length<=1000:=by
 refine ae (br ..) ?_
 rw[aQ];exact ae ok.rules dQ
theorem jl{M:LB}{K:KT}{α:Type}{f:α->D}{l:List α}(h:l.length<=1000)(q:K (.sh (.int l.length)) M):fJ M K .len [.sh (.list (l.map f))]:=qm (by rw[ag];exact c3 h) (by rw[ag];exact q)
theorem se{M:LB}{K:KT}{α:Type}{f:α->D}{l:List α}(h:l.length<=1000)(q:K (.sh (.int l.length)) M):fJ M K .len [.sh (.tup (l.map f))]:=QL (by rw[ag];exact c3 h) (by rw[ag];exact q)
theorem yq{M:LB}{ds:LD}{d:D}{i:Nat}{z:Int}(e:z=i)(h:ds[i]?=some d):fX M (.sh (.tup ds)) (.sh (.int z))=some (.sh d):=e▸ES h
theorem Ug{M:LB}{K:KT}{n v:Nat}(h:n<=1000)(q:K (.own M.length) (M++[.list (cV (List.replicate n v))])):uA (n:Int) (.sh (.int v)) M K:=
 ⟨bj _,b7.mpr (ae h dQ),.inr (by rw[cq,←List.map_replicate (f:=λi:Nat=>cJ.sh (.int i))];exact q)⟩
theorem rP{M:LB}(l:LN):fR M (.list (cV l))=some (cS l):=by show(data M (cV l)).map D.list=_;unfold cV;rw[ig];rfl
section
variable{G:Gd}{k f n:Nat}{M:LB}{K:KT}{X:XT}(P:dO G){g:cL}(ok:dz g)
include P
theorem VC(hk:2<=k)(hz:g.names.length<=1000)(q:K (.sh (.int g.names.length)) M):Cl G k 676 [.sh g.d] M K X:=
 dj (P.g1 13) (ds:=[g.d]) rfl (R:=λd=>d=.int g.names.length) hk (λd h=>h▸q) (go (jl hz ⟨_,rfl,rfl⟩))
theorem OR(hk:2<=k){s:Nat}(q:K (.sh (.bool (decide (s<g.tc)))) M):Cl G k 683 [.sh g.d,.sh (.int s)] M K X:=
 dj (P.g2 18) (ds:=[g.d,.int s]) rfl (R:=λd=>d=.bool (decide (s<g.tc))) hk (λd h=>h▸q) (go ⟨_,rfl,aj D.bool (decide_eq_decide.mpr Int.ofNat_lt)⟩)
include ok
theorem Uu(hk:2<=k){s:Nat}(hs:s<g.names.length)(q:K (.sh (cS (g.ofLeft s))) M):Cl G k 704 [.sh g.d,.sh (.int s)] M K X:=
 dj (P.g2 20) (ds:=[g.d,.int s]) rfl (R:=λd=>d=cS (g.ofLeft s)) hk (λd h=>h▸q)
  (go (oI (dJ (d:=cS (g.ofLeft s)) (by rw[aA,cg hs];rfl)) (.list (.inl rfl) (by rw[ag];exact c3 (RY ok)) (.inl ⟨_,rfl,rfl⟩))))
theorem JH{r t:Nat}{x:Rl}(hk:2<=k)(hr:g.rules[r]?=some x)(ht:t<=x.right.length)(q:K (.sh (.int (kW x t))) M):Cl G k 732 [.sh g.d,.sh (.int ((g.off r+t:Nat):Int))] M K X:=
 have U:=cL.owners_at (g:=g) (t:=t) (by rw[vA hr];exact ht) (dc hr)
 have e:((g.off r+t:Nat):Int)-(g.off r:Int)=t:=by lia
 dj (P.g2 23) (ds:=[g.d,.int ((g.off r+t:Nat):Int)]) rfl (R:=λd=>d=.int (kW x t)) hk (λd h=>h▸q)
  (go (oI (dJ (iw U)) (oI (dJ (tS hr)) (oI (dJ (iw U)) (oI (dJ (iw (AB (dc hr)))) (se (ae (ok.rule hr).1 dQ) (bI
   (λh=>(xf (aV.mp (e▸h))).elim λs h=>oI (yq e (iw h.1)) ⟨_,rfl,aj D.int h.2.symm⟩)
   λh=>⟨_,rfl,aj D.int (JG λq=>h (e▸aV.mpr q))⟩)))))))
theorem xg(hk:2<=k){c:Nat}(hc:d9 g c)(q:K (.sh (.int (dg g c))) M):Cl G k 732 [.sh g.d,.sh (.int (c:Int))] M K X:=by
 obtain ⟨r,t,x,hr,O,rfl⟩:=hc
 exact JH P ok hk hr O (uJ hr O▸q)
omit ok in
theorem Hb(hk:2<=k){c:Nat}(hc:d9 g c)(q:K (.sh (.int (iy g c))) M):Cl G k 718 [.sh g.d,.sh (.int (c:Int))] M K X:=by
 obtain ⟨r,t,x,hr,O,rfl⟩:=hc
 exact Hd P hk hr O (qO hr O▸q)
omit ok in
theorem JF(hk:4<=k){c:Nat}(hc:d9 g c)(q:K (.sh (.int ((c+1:Nat):Int))) M):Cl G k 856 [.sh g.d,.sh (.int (c:Int))] M K X:=by
 obtain ⟨r,t,x,hr,O,rfl⟩:=hc
 exact dj (P.g2 31) (ds:=[g.d,.int ((g.off r+t:Nat):Int)]) rfl (R:=λd=>d=.int ((g.off r+t+1:Nat):Int)) hk (λd h=>h▸q)
  (go (Hd P dQ hr O (Nd P dQ hr O (ym (t:=t+1) P dQ (dc hr) ⟨_,rfl,rfl⟩))))
theorem Mu(hk:4<=k)(q:∀F,jy g F->K (.sh (jO g F)) M):Nw G k 845 [.sh g.d] M K X:=by
 have O:=ok.ZK (ao _)
 refine lq rfl (P.g2 27) (ds:=[g.d]) rfl (R:=λd=>∃F,d=jO g F/\jy g F) hk (λd h=>h.elim λF h=>h.1▸q F h.2)
  (gT 3 (VC P dQ O (Ug (v:=0) O
   (dZ (λ_ (R:LN)=>[some (.own 0),some (.sh g.d),some (.own 1),none]) (λ_ R=>[.inst 845 [(2,.sh g.d)],.list (cV R)]) (λ_ R=>pK g R) (List.replicate g.names.length 0) (Us g) o6 (λi x R P' hx U L=>?_) λR U=>?_))))
 ·have hr:=ok.rule hx
  refine go (se (ae hr.1 dQ) (bI (λh0=>?_) λh0=>L.nx [3] R U rfl))
  have hY:=j9 (aV.mp h0)
  have hl:x.left<R.length:=by rw[U.len];exact hr.2.1
  have hYl:=hr.2.2 _ (ax hY)
  exact oI (vm rfl (j9 hl)) (oI (ES (iw hY)) (oI (pU (ae (aH hYl) (ae O dQ))) (stN rfl hl (uM _ _) (L.nx [3] _ (U.step hx hY (j9 hl) hYl) rfl))))
 ·refine gF (i:=2) (j:=1) (d:=cS R) rfl rfl (rP R) (go (Wg P dQ (by rw[U.len];exact O) (λX m hm=>by rw[U.len];exact U.lt X m hm) λF hF=>⟨_,rfl,F,rfl,NI U hF⟩))
end
theorem IV{g:cL}{F l:LN}{c:Nat}:gf g F (l++[c])=if 0<=dg g c then gf g F l|||2^(dg g c).toNat|||F.getD (dg g c).toNat 0 else gf g F l:=by
 unfold gf;rw[List.foldl_append];rfl
theorem IU{g:cL}{F:LN}(ok:dz g)(hF:jy g F):∀l:LN,(∀c∈l,d9 g c)->gf g F l<2^g.names.length:=by
 intro l hl
 refine Nat.lt_pow_two_of_testBit _ λi hi=>?_
 cases hb:(gf g F l).testBit i with
 |false=>rfl
 |true=>
  obtain ⟨c,O,U,h⟩:=BN.mp hb
  have hA:=(kX (hl c O)).mp (j8 U)
  have hs:=(hA.sym ok).1
  rcases h with h|h
  ·exact(b8 _ (aX hi (h▸hs))).elim
  ·rw[cw] at h
   cases hm:F[(dg g c).toNat]? with
   |none=>rw[hm] at h;exact(Bool.false_ne_true ((Nat.zero_testBit i).symm.trans h)).elim
   |some m=>
    rw[hm] at h
    exact(b8 _ (aR (hF.lt _ _ hm) (ae (cF dQ hi) (Nat.ge_two_pow_of_testBit h)))).elim
theorem EI(l:LN):(l.map λi:Nat=>D.int i)=(l.map λi:Nat=>(i:Int)).map .int:=by rw[aJ];rfl
theorem VK{M:LB}{l:LN}:view M (.sh (dH l))=some (.tup (cV l)):=by show some (Ob.tup _)=_;unfold cV;rw[aJ];rfl
theorem xF{M:LB}{l:LN}:view M (.sh (cS l))=some (.list (cV l)):=by show some (Ob.list _)=_;unfold cV;rw[aJ];rfl
theorem JL{l:LN}{c:Nat}:(l.map λi:Nat=>(i:Int)).any (·==(c:Int))=decide (c∈l):=by
 refine Bool.eq_iff_iff.mpr ((List.any_eq_true).trans (Iff.trans ?_ decide_eq_true_iff.symm))
 exact⟨λh=>h.elim λx h=>(aB.mp h.1).elim λd e=>bC.mp (e.2.trans (eq_of_beq h.2))▸e.1,λh=>⟨c,aB.mpr ⟨c,h,rfl⟩,ck _⟩⟩
theorem OH{l:LN}{y:cJ}{c:Nat}{M:LB}(hv:view M y=some (.list (cV l))∨view M y=some (.tup (cV l))):j0 M y (.sh (.int (c:Int))) (decide (c∈l)):=by
 have h:j0 M y (.sh (.int (c:Int))) ((l.map λi:Nat=>(i:Int)).any (·==(c:Int))):=.Z0 hv (by rw[aJ];rfl)
 rwa [JL] at h
theorem Rn{l:LN}{y:cJ}{c:Nat}{M:LB}{K:Bool->Prop}(hv:view M y=some (.list (cV l))∨view M y=some (.tup (cV l)))(a:c∈l->K false)(b:c∉l->K true):fq M K (.sh (.int (c:Int))) y .NotIn:=
 .Zz (OH hv) (by
  by_cases h:c∈l
  ·rw[aG h];exact a h
  ·rw[bu h];exact b h)
theorem Gq{l:LN}{m:Nat}(hd:l.Nodup)(hl:∀c∈l,c<m):l.length<=m:=by
 have:=cG hd (l₂:=List.range m) λc O=>ch.mpr (hl c O)
 rwa [aQ] at this
theorem tX{x:cJ}{l:LN}{m:Nat}{M:LB}{K:KT}(U:c7 M x=some (cS l)∨c7 M x=some (dH l)∨∃es,view M x=some (.Z7 es)/\es.map (·.1)=l.map λi:Nat=>(i:Int))(hd:l.Nodup)(hl:∀c∈l,c<m)(hm:m<64)(q:K (.sh (cS (e7 m l))) M):fJ M K .sorted [x]:=by
 refine .sorted (is:=l.map λi:Nat=>(i:Int)) (by rw[ag];exact aX (Gq hd hl) hm) ?_ ?_
 ·unfold cS dH at U
  rw[EI] at U
  exact U
 ·rw[OS hd hl,←EI];exact .inl q
theorem take_snoc{α:Type}{l:List α}{i:Nat}{x:α}(h:l[i]?=some x):l.take (i+1)=l.take i++[x]:=by rw[List.take_add_one,h];rfl
theorem hH{α:Type}(l:List α):l.take l.length=l:=List.take_length
theorem JW{z:Int}{j:Nat}(e:z=j)(h:j<=2^26):binI .LShift 1 z=some ((2^j:Nat):Int):=e▸pU h
theorem vj{M:LB}{ds:LD}{d:D}{i:Nat}{z:Int}(e:z=i)(h:ds[i]?=some d):fX M (.sh (.list ds)) (.sh (.int z))=some (.sh d):=e▸dJ h
theorem Wx{g:cL}{F l:LN}{i c m:Nat}(hc:l[i]?=some c)(U:0<=dg g c)(hm:F[(dg g c).toNat]?=some m):gf g F (l.take (i+1))=gf g F (l.take i)|||(2^(dg g c).toNat)|||m:=by
 rw[take_snoc hc,IV,al U,cw,hm];rfl
noncomputable def jM(g:cL)(ker:LN)(X:Nat):LN:=((g.ofLeft X).map g.off).filter λc=>decide (c∉ker)
noncomputable def lM(g:cL)(ker:LN)(X j:Nat):LN:=(((g.ofLeft X).take j).map g.off).filter λc=>decide (c∉ker)
theorem JB{g:cL}{ker:LN}{X j r:Nat}(hr:(g.ofLeft X)[j]?=some r)(h:g.off r∈ker):lM g ker X (j+1)=lM g ker X j:=by
 unfold lM;rw[take_snoc hr,ay,bL];simp[h]
theorem JC{g:cL}{ker:LN}{X j r:Nat}(hr:(g.ofLeft X)[j]?=some r)(h:g.off r∉ker):lM g ker X (j+1)=lM g ker X j++[g.off r]:=by
 unfold lM;rw[take_snoc hr,ay,bL];simp[h]
structure wO(g:cL)(F ker B:LN)(i X j:Nat)(l:LN):Prop where
e:l=(B.take i).flatMap (jM g ker)++lM g ker X j
b:B=gP (gf g F ker)
theorem wO.len{g:cL}{F ker B:LN}{i X j:Nat}{l:LN}(a:wO g F ker B i X j l)(ok:dz g)(h:B[i]?=some X):l.length<=1000:=by
 have O:(lM g ker X j).length<=(jM g ker X).length:=by
  unfold lM jM
  rw[←ci j (g.ofLeft X),ci,←ci j (g.ofLeft X),ay,bL,ak]
  simp
 have U:((B.take i).flatMap (jM g ker)++jM g ker X).length<=(j7 g F ker).length:=by
  have e:j7 g F ker=((B.take i).flatMap (jM g ker)++jM g ker X)++(B.drop (i+1)).flatMap (jM g ker):=by
   rw[←List.flatMap_singleton (f:=jM g ker) (x:=X),←List.flatMap_append,←take_snoc h,←List.flatMap_append,ci,a.b];rfl
  rw[e,ak (as:=(B.take i).flatMap (jM g ker)++jM g ker X)];exact aW _ _
 have h4:=JD F ker ok
 rw[a.e]
 rw[ak] at U⊢
 lia
theorem Wz{g:cL}{F ker:LN}(ok:dz g)(hF:jy g F)(hi:∀c∈ker,d9 g c){X:Nat}(h:X∈gP (gf g F ker)):X<g.names.length:=
 Nat.lt_of_not_le λq=>b8 _ (aR (IU ok hF ker hi) (ae (cF dQ q) (Nat.ge_two_pow_of_testBit (yH.mp h))))
theorem Mt{g:cL}{a b:LN}(ok:dz g):((e7 (NN g) a).map λi:Nat=>D.int i).length+((e7 (NN g) b).map λi:Nat=>D.int i).length<=mx:=by
 rw[ag,ag]
 exact c3 (ae (bw (ae (qT _ _) (lI ok)) (ae (qT _ _) (lI ok))) dQ)
section
variable{G:Gd}{k f n:Nat}{M:LB}{K:KT}{X:XT}(P:dO G){g:cL}(ok:dz g){F ker:LN}(hF:jy g F)(hi:∀c∈ker,d9 g c)
include P ok hF hi
theorem WA(hk:4<=k)(q:K (.sh (.int (gf g F ker:Nat))) M):Cl G k 828 [.sh (jO g F),.sh (dH ker)] M K X:=
 dj (P.g2 28) (ds:=[jO g F,dH ker]) rfl (R:=λd=>d=.int (gf g F ker:Nat)) hk (λd h=>h▸q)
  (go (dZ (λ_ (m:Int)=>[some (.sh (jO g F)),some (.sh (dH ker)),some (.sh (.int m)),none,none]) (λ_ _=>[]) (λi m=>m=(gf g F (ker.take i):Nat)) 0 rfl dG (λi c m P' O e L=>
   have hI:=hi c (ax O)
   go (xg P ok dQ hI (bI (λU=>
    have hs:=(((kX hI).mp (j8 U)).sym ok).1
    have hm:=j9 (hF.len▸hs:(dg g c).toNat<F.length)
    oI (JW (j8 U) (ae (ok.ZK (aH hs)) dQ)) (oI (vj (j8 U) (iw hm)) (L.nx [3,4] _ (by rw[e,uM,uM,Wx O U hm]) rfl)))
    λU=>L.nx [3,4] m (by rw[e,take_snoc O,IV,av U]) rfl)))
   λm e=>⟨_,rfl,by rw[e,hH]⟩))
theorem JE(hk:6<=k)(q:K (.sh (cS (e7 (NN g) (j7 g F ker)))) M):Cl G k 835 [.sh (jO g F),.sh (dH ker)] M K X:=
 dj (P.g2 29) (ds:=[jO g F,dH ker]) rfl (R:=λd=>d=cS (e7 (NN g) (j7 g F ker))) hk (λd h=>h▸q)
  (go (.inr (WA P ok hF hi dQ (xk P dQ (aR (IU ok hF ker hi) (cF dQ (ok.ZK (ao _))))
   (dZ (l:=gP (gf g F ker)) (λ_ (l:LN)=>[some (.sh (jO g F)),some (.sh (dH ker)),some (.own 0),none,none,none]) (λ_ l=>[.list (cV l)]) (λi l=>l=((gP (gf g F ker)).take i).flatMap (jM g ker)) [] rfl dG
    (λi X l P' U e L=>have O:=Wz ok hF hi (ax U)
     go (Uu P ok dQ O (dZ (l:=g.ofLeft X) (λ_ (l:LN)=>[some (.sh (jO g F)),some (.sh (dH ker)),some (.own 0),some (.sh (.int (X:Int))),none,none]) (λ_ l=>[.list (cV l)]) (λj l=>wO g F ker (gP (gf g F ker)) i X j l) l ⟨e.trans (aS _).symm,rfl⟩ dG
      (λj r l P' hr a L=>(su.mp (ax hr)).elim λxr hx=>go (ym (t:=0) P dQ (dc hx.1) (Rn (.inr VK) (λh=>L.nx [4,5] l ⟨JB hr h▸a.e,rfl⟩ rfl)
       λh=>kY rfl (a.len ok U) (L.nx [4,5] _ ⟨by rw[JC hr h,←aP,←a.e];rfl,rfl⟩ rfl))))
      λl a=>L.nx [3,4,5] l (by rw[a.e,take_snoc U,List.flatMap_append,List.flatMap_singleton];exact aj _ (aj (λl=>(l.map g.off).filter λc=>decide (c∉ker)) (hH _))) rfl)))
    λl e=>tX (.inl (mN rfl)) (by rw[e,hH];exact CH F ker) (λc h=>by rw[e,hH] at h;exact(CG h).lt) (aX (lI ok) dQ) ⟨_,rfl,by rw[e,hH];rfl⟩)))))
theorem Ms(hk:8<=k)(hd:ker.Nodup)(q:K (.sh (cS (eh g F ker))) M):Cl G k 842 [.sh (jO g F),.sh (dH ker)] M K X:=
 dj (P.g2 30) (ds:=[jO g F,dH ker]) rfl (R:=λd=>d=cS (eh g F ker)) hk (λd h=>h▸q)
  (go (tX (.inr (.inl rfl)) hd (λc h=>(hi c h).lt) (aX (lI ok) dQ) (JE P ok hF hi dQ (.list rfl rfl (Mt ok) (.inl ⟨_,rfl,List.map_append.symm▸rfl⟩)))))
end
section
variable{κ:Type}[DecidableEq κ]{es:List (κ×cJ)}{k:κ}{v:cJ}{j:Nat}
theorem uY(h:∀x∈es,x.1≠k):c6 es k=none:=by
 unfold c6
 rw[List.find?_eq_none.mpr λx U=>by simpa using h x U];rfl
theorem lR(h:∀x∈es,x.1≠k):dq es k v=es++[(k,v)]:=by
 unfold dq
 rw[av]
 intro q
 obtain ⟨x,U,O⟩:=List.any_eq_true.mp q
 exact h x U (aD O)
theorem og:∀{es:List (κ×cJ)}{j:Nat},(es.map (·.1)).Nodup->es[j]?=some (k,v)->c6 es k=some v
 |[],_,_,h=>cR h
 |(O,U)::es,0,_,h=>by cases h;unfold c6;rw[List.find?_cons_of_pos (p:=λx:κ×cJ=>decide (x.1=k)) (aG rfl)];rfl
 |(O,U)::es,j+1,nd,h=>by
  have h:es[j]?=some (k,v):=h
  obtain ⟨h1,h2⟩:=bR.mp nd
  have ne:O≠k:=λe=>h1 (aB.mpr ⟨_,ax h,e.symm⟩)
  have:=og h2 h
  unfold c6 at this⊢
  rw[List.find?_cons_of_neg (by simpa using ne)];exact this
end
theorem Fs{α β:Type}{f f':α->β}{l:List α}{j:Nat}{x:α}(nd:l.Nodup)(U:l[j]?=some x)(h:∀y,y≠x->f' y=f y):(l.map f).set j (f' x)=l.map f':=by
 apply List.ext_getElem?
 intro i
 rw[List.getElem?_set,ag]
 split
 ·rename_i e;subst e
  rw[al (dc U),aA,U];rfl
 ·rename_i e
  rw[aA,aA]
  cases hi:l[i]? with
  |none=>rfl
  |some y=>
   refine aj some (h y λq=>e ?_).symm
   subst q
   exact(b9 (dc U) nd).mp (U.trans hi.symm)
theorem xI{M:LB}{α κ:Type}(f:α->κ)(g:α->D)(l:List α):data M ((l.map λx=>(f x,cJ.sh (g x))).map (·.2))=some (l.map g):=by
 rw[aJ];exact ig g l
noncomputable def ku(l:LN):List (Int×cJ):=l.zipIdx.map λx=>((x.1:Int),cJ.own (x.2+1))
theorem pZ(l:LN):(ku l).map (·.1)=l.map λi:Nat=>(i:Int):=by
 unfold ku
 rw[aJ]
 have:∀(l:LN)(n:Nat),(l.zipIdx n).map ((λx:Int×cJ=>x.1)∘λx=>((x.1:Int),cJ.own (x.2+1)))=l.map λi:Nat=>(i:Int):=by
  intro l
  induction l with
  |nil=>intro n;rfl
  |cons a l O=>intro n;rw[List.zipIdx_cons,aN,O,aN];rfl
 exact this l 0
theorem tG{l:LN}(h:l.Nodup):(l.map λi:Nat=>(i:Int)).Nodup:=by
 rw[List.Nodup,List.pairwise_map]
 exact h.imp λ{a b}q e=>q (bC.mp e)
theorem xO{l:LN}{j X:Nat}(h:l[j]?=some X):(ku l)[j]?=some ((X:Int),.own (j+1)):=by
 unfold ku;rw[aA,List.getElem?_zipIdx,h];simp
theorem NL(l:LN)(X:Nat):ku (l++[X])=ku l++[((X:Int),.own (l.length+1))]:=by
 unfold ku;rw[List.zipIdx_append,ay];simp
theorem D2{l:LN}{X:Nat}(h:X∉l):∀x∈ku l,x.1≠(X:Int):=λx U e=>by
 have:x.1∈(ku l).map (·.1):=aB.mpr ⟨x,U,rfl⟩
 rw[pZ,e] at this
 obtain ⟨y,O,h2⟩:=aB.mp this
 exact h (bC.mp h2▸O)
def rI(g:cL)(items:LN):D:=.Z7 ((eO g items).map λi:Nat=>(i:Int)) ((eO g items).map λX=>dH (fV g items X))
def gn(g:cL)(l:LN)(X:Nat):LN:=(l.filter λc=>decide (dg g c=(X:Int))).map (·+1)
theorem xy{g:cL}{l:LN}{c X:Nat}:gn g (l++[c]) X=gn g l X++if dg g c=(X:Int) then[c+1] else[]:=by
 unfold gn
 rw[bL,ay]
 by_cases h:dg g c=(X:Int)<;>simp[h]
theorem ME(g:cL)(l:LN)(X:Nat):(gn g l X).length<=l.length:=by unfold gn;rw[ag];exact br ..
def lr(g:cL)(l O:LN):LB:=O.map λX=>.list (cV (gn g l X))
theorem EO{g:cL}(ok:dz g){items:LN}(hi:∀c∈items,d9 g c)(nd:items.Nodup):items.length<=1000:=by
 have:=cG nd (l₂:=List.range (NN g)) λc O=>ch.mpr (hi c O).lt
 rw[aQ] at this
 exact ae this (ae (lI ok) dQ)
theorem T8{g:cL}{items:LN}(hi:∀c∈items,d9 g c)(nd:items.Nodup):((items.filter λc=>decide (dg g c<0/\iy g c≠0)).map (iy g)).Nodup:=by
 rw[List.Nodup,List.pairwise_map]
 refine List.Pairwise.imp_of_mem (λ{a b}ha hb q e=>q ?_) (List.Pairwise.filter _ nd)
 obtain ⟨h1,h2⟩:=aT.mp ha
 obtain ⟨h3,h4⟩:=aT.mp hb
 have h2:=(aD h2).1
 have h4:=(aD h4).1
 have key:∀{r t:Nat}{x:Rl},g.rules[r]?=some x->t<=x.right.length->dg g (g.off r+t)<0->t=x.right.length:=λ{r t x}hr O h=>by
  rw[uJ hr O] at h
  rcases Nat.lt_or_ge t x.right.length with q|q
  ·obtain ⟨s,_,e⟩:=xf q;rw[e] at h;exact absurd (bj s) (Int.not_le.mpr h)
  ·exact Nat.le_antisymm O q
 obtain ⟨r,t,x,hr,O,rfl⟩:=hi a h1
 obtain ⟨r',t',x',U,ht',rfl⟩:=hi b h3
 rw[qO hr O,qO U ht'] at e
 subst e
 rw[hr] at U;cases U
 rw[key hr O h2,key hr ht' h4]
theorem lN{M:LB}{j:Nat}{xs:LV}(hm:M[j]?=some (.list xs)):jR M (.own j) 72=some (.bi 0):=by
 show(view M (.own j)).bind _=_
 rw[gY hm];rfl
theorem Gw{es:List (Int×cJ)}{z:Int}{y:cJ}{M:LB}{K:Bool->Prop}(hv:view M y=some (.Z7 es))(a:∀v,c6 es z=some v->K false)(b:c6 es z=none->K true):fq M K (.sh (.int z)) y .NotIn:=
 .Zz (.di hv) (by
  cases h:c6 es z with
  |none=>exact b h
  |some v=>exact a v h)
structure Jw(g:cL)(l syms:LN):Prop where
nodup:syms.Nodup
mem:∀X:Nat,X∈syms↔∃c∈l,dg g c=(X:Int)
inductive jA(g:cL)(items:LN)(i:Nat)(l:LN):Prop
|mk:l=((items.take i).filter λc=>decide (dg g c<0/\iy g c≠0)).map (iy g)->jA g items i l
theorem jA.yes{g:cL}{items l:LN}{i c:Nat}(r:jA g items i l)(hc:items[i]?=some c)(U:dg g c<0)(O:¬(iy g c:Int)=0):jA g items (i+1) (l++[iy g c]):=r.casesOn λe=>⟨by
 rw[e,take_snoc hc,bL,ay,List.filter_cons_of_pos (p:=λc=>decide (dg g c<0/\iy g c≠0)) (aG ⟨U,λq=>O (aj Int.ofNat q)⟩)];rfl⟩
theorem jA.no{g:cL}{items l:LN}{i c:Nat}(r:jA g items i l)(hc:items[i]?=some c)(h:¬(dg g c<0/\iy g c≠0)):jA g items (i+1) l:=r.casesOn λe=>⟨by
 rw[e,take_snoc hc,bL,ay,cC (p:=λc=>decide (dg g c<0/\iy g c≠0)) λq=>h (aD q)];exact(aS _).symm⟩
section
variable{g:cL}{items l:LN}
theorem TX{i:Nat}(ok:dz g)(hi:∀c∈items,d9 g c)(nd:items.Nodup)(r:jA g items i l):l.length<=1000:=r.casesOn λe=>by
 rw[e,ag];exact ae (br ..) (ae (bK ..) (EO ok hi nd))
theorem AM(r:jA g items items.length l):l=(items.filter λc=>decide (dg g c<0/\iy g c≠0)).map (iy g):=r.casesOn λe=>by rw[e,hH]
theorem TZ(hi:∀c∈items,d9 g c)(nd:items.Nodup)(r:jA g items items.length l):l.Nodup:=AM r▸T8 hi nd
theorem TY(hi:∀c∈items,d9 g c)(r:jA g items items.length l)(z:Nat)(hm:z∈l):z<g.rules.length:=by
 rw[AM r] at hm
 obtain ⟨c,O,rfl⟩:=aB.mp hm
 obtain ⟨r,t,x,hr,U,rfl⟩:=hi c (aT.mp O).1
 rw[qO hr U];exact dc hr
theorem TV(r:jA g items items.length l):e7 g.rules.length l=o5 g items:=by rw[AM r];rfl
end
section
variable{G:Gd}{k f n:Nat}{M:LB}{K:KT}{X:XT}(P:dO G){g:cL}(ok:dz g){items:LN}(hi:∀c∈items,d9 g c)(nd:items.Nodup)
include P ok hi nd
theorem MO(hk:4<=k)(q:K (.sh (cS (o5 g items))) M):Cl G k 870 [.sh g.d,.sh (cS items)] M K X:=
 dj (P.g2 33) (ds:=[g.d,cS items]) rfl (R:=λd=>d=cS (o5 g items)) hk (λd h=>h▸q)
  (go (.inr (dZ (λ_ (l:LN)=>[some (.sh g.d),some (.sh (cS items)),some (.own 0),none]) (λ_ l=>[.list (cV l)]) (λi l=>jA g items i l) [] ⟨rfl⟩ dG
   (λi c l P' O r L=>have U:=hi c (ax O)
    go (xg P ok dQ U (bI (λh1=>Hb P dQ U (bN (λh2=>Hb P dQ U (kY rfl (TX ok hi nd r) (L.nx [3] _ (r.yes O h1 h2) rfl)))
     λh2=>L.nx [3] l (r.no O λq=>q.2 (bC.mp h2)) rfl)) λh1=>L.nx [3] l (r.no O λq=>h1 q.1) rfl)))
   λl r=>tX (m:=g.rules.length) (.inl (mN rfl)) (TZ hi nd r) (TY hi r) (aX ok.rules dQ) ⟨_,rfl,by rw[TV r]⟩)))
end
theorem RX{g:cL}{items O:LN}{i c:Nat}(hc:items[i]?=some c)(h:¬0<=dg g c):lr g (items.take (i+1)) O=lr g (items.take i) O:=by
 unfold lr
 refine cx λX _=>?_
 rw[take_snoc hc,xy,av (λq:dg g c=(X:Int)=>h (q▸bj X)),aS]
inductive hO(g:cL)(l:LN)(d:List (Int×cJ))(o:LB):Prop
|mk (syms:LN):d=ku syms->o=lr g l syms->Jw g l syms->hO g l d o
inductive pd(g:cL)(l:LN)(Y:Nat)(d:List (Int×cJ))(o:LB):Prop
|mk (syms:LN) (j:Nat):d=ku syms->o=lr g l syms->syms.Nodup->(∀X:Nat,X∈syms↔X=Y∨∃c∈l,dg g c=(X:Int))->syms[j]?=some Y->pd g l Y d o
inductive B1(g:cL)(items:LN)(i c Y:Nat)(d:List (Int×cJ))(o:LB):Prop
|mk (j:Nat):c6 d (Y:Int)=some (.own (j+1))->o[j]?=some (.list (cV (gn g (items.take i) Y)))->hO g (items.take (i+1)) d (o.set j (.list (cV (gn g (items.take i) Y++[c+1]))))->B1 g items i c Y d o
section
variable{g:cL}{items l:LN}{i c Y:Nat}{d:List (Int×cJ)}{o:LB}
theorem hO.skip(b:hO g (items.take i) d o)(hc:items[i]?=some c)(h:¬0<=dg g c):hO g (items.take (i+1)) d o:=b.casesOn λO U e2 so=>
 ⟨O,U,e2.trans (RX hc h).symm,so.nodup,λX=>by
  rw[so.mem,take_snoc hc]
  exact⟨λq=>q.imp λd q=>⟨bM _ q.1,q.2⟩,λq=>q.elim λd q=>⟨d,(aI.mp q.1).elim id λm=>(h (by rw[←aF.mp m,q.2];exact bj _)).elim,q.2⟩⟩⟩
theorem hO.len(ok:dz g)(hi:∀c∈l,d9 g c)(b:hO g l d o):d.length<=1000:=b.casesOn λO U e2 so=>by
 have:=aj List.length (pZ O)
 rw[ag,ag] at this
 rw[U,this]
 exact ok.ZK (Gq so.nodup λX hX=>((so.mem X).mp hX).elim λd q=>(((kX (hi d q.1)).mp q.2).sym ok).1)
theorem hO.old{v:cJ}(b:hO g l d o)(h:c6 d (Y:Int)=some v):pd g l Y d o:=b.casesOn λO U e2 so=>by
 have hY:Y∈O:=Decidable.byContradiction λq=>by rw[U,uY (D2 q)] at h;exact cR h
 obtain ⟨j,hj,e⟩:=bp.mp hY
 exact⟨O,j,U,e2,so.nodup,λX=>⟨λq=>.inr ((so.mem X).mp q),λq=>q.elim (λq=>q▸hY) (so.mem X).mpr⟩,by rw[aC hj,e]⟩
theorem hO.new(b:hO g l d o)(h:c6 d (Y:Int)=none):pd g l Y (dq d (Y:Int) (.own (o.length+1))) (o++[.list []]):=b.casesOn λO e1 e2 so=>by
 have U:Y∉O:=λq=>by
  obtain ⟨j,hj,e⟩:=bp.mp q
  rw[e1,og (by rw[pZ];exact tG so.nodup) (xO (by rw[aC hj,e]))] at h;exact iP h
 have emp:gn g l Y=[]:=by
  unfold gn
  rw[List.map_eq_nil_iff,List.filter_eq_nil_iff]
  exactλd hd q=>U ((so.mem Y).mpr ⟨d,hd,aD q⟩)
 refine⟨O++[Y],O.length,?_,?_,bH.mpr ⟨so.nodup,bR.mpr ⟨λh=>(dh h),bx⟩,λa ha b hb e=>U (by rw[←aF.mp hb,←e];exact ha)⟩,λX=>?_,by rw[ba (ao _),Nat.sub_self];rfl⟩
 ·rw[e1,lR (D2 U),NL,e2];unfold lr;rw[ag]
 ·rw[e2];unfold lr;rw[ay,List.map_singleton,emp];rfl
 ·rw[aI,aF,so.mem];exact Or.comm
theorem pd.done(b:pd g (items.take i) Y d o)(hc:items[i]?=some c)(U:dg g c=Y):B1 g items i c Y d o:=b.casesOn λO j e1 e2 nd mem hj=>by
 refine⟨j,by rw[e1];exact og (by rw[pZ];exact tG nd) (xO hj),by rw[e2];unfold lr;rw[aA,hj];rfl,O,e1,?_,nd,λX=>?_⟩
 ·rw[e2]
  have:=Fs (f:=λX=>Ob.list (cV (gn g (items.take i) X))) (f':=λX=>Ob.list (cV (gn g (items.take (i+1)) X))) nd hj λy hy=>by
   show Ob.list (cV (gn g (items.take (i+1)) y))=_
   rw[take_snoc hc,xy,av λq:dg g c=(y:Int)=>hy (bC.mp (q.symm.trans U)),aS]
  unfold lr
  rw[←this,take_snoc hc,xy,al U]
 ·rw[mem,take_snoc hc]
  exact⟨λq=>q.elim (λq=>⟨c,b6 _ (.head _),by rw[q];exact U⟩) λq=>q.imp λd q=>⟨bM _ q.1,q.2⟩,
   λq=>q.elim λd q=>(aI.mp q.1).elim (λm=>.inr ⟨d,m,q.2⟩) λm=>.inl (bC.mp ((aF.mp m▸q.2).symm.trans U))⟩
end
def mL(g:cL)(items l:LN):List (Int×cJ):=l.map λX:Nat=>((X:Int),cJ.sh (dH (fV g items X)))
inductive nE(g:cL)(items:LN)(o:LB)(i:Nat)(t:LB):Prop
|mk:t=o++[.Z7 (mL g items ((eO g items).take i))]->nE g items o i t
inductive B7(g:cL)(items:LN)(o:LB)(d:List (Int×cJ))(i Y:Nat)(t:LB):Prop
|mk (j:Nat) (es:List (Int×cJ)):c6 d (Y:Int)=some (.own (j+1))->t[j]?=some (.list (cV (gn g items Y)))->t[o.length]?=some (.Z7 es)->es.length<=1000->nE g items o (i+1) (t.set o.length (.Z7 (dq es (Y:Int) (.sh (dH (fV g items Y))))))->B7 g items o d i Y t
section
variable{g:cL}{items:LN}{i Y:Nat}{d:List (Int×cJ)}{o t:LB}
theorem nE.get(ok:dz g)(e:nE g items o i t)(b:hO g items d o)(hs:∀X∈eO g items,∃c∈items,dg g c=(X:Int))(hY:(eO g items)[i]?=some Y):B7 g items o d i Y t:=e.casesOn λe=>b.casesOn λO e1 e2 so=>by
 obtain ⟨j,hj,ej⟩:=bp.mp ((so.mem Y).mpr (hs Y (ax hY)))
 have hj:O[j]?=some Y:=by rw[aC hj,ej]
 have U:o[j]?=some (.list (cV (gn g items Y))):=by rw[e2];unfold lr;rw[aA,hj];rfl
 refine⟨j,mL g items ((eO g items).take i),by rw[e1];exact og (by rw[pZ];exact tG so.nodup) (xO hj),?_,?_,?_,?_⟩
 ·rw[e,bg (dc U)];exact U
 ·rw[e,ba (ao _),Nat.sub_self];rfl
 ·unfold mL;rw[ag];exact ae (bK ..) (ok.ZK (qT _ _))
 ·have new:∀x∈mL g items ((eO g items).take i),x.1≠(Y:Int):=λx hx e=>by
   obtain ⟨Z,hZ,rfl⟩:=aB.mp hx
   obtain rfl:Z=Y:=bC.mp e
   obtain ⟨m,hm,e2⟩:=bp.mp hZ
   rw[List.getElem_take] at e2
   rw[bb] at hm
   have hm2:m<(eO g items).length:=aR hm (Nat.min_le_right _ _)
   exact bz (aR hm (cr _ _)) ((b9 (i:=m) (j:=i) hm2 (nh _ _)).mp (by rw[aC hm2,e2];exact hY.symm))
  refine⟨?_⟩
  rw[e,lR new,List.set_append_right _ _ (ao _),Nat.sub_self,take_snoc hY]
  unfold mL
  rw[ay];rfl
end
theorem nE.fin{g:cL}{items:LN}{x:Ob}{o t:LB}(e:nE g items o (eO g items).length t):c7 (x::t) (.own (o.length+1))=some (rI g items):=e.casesOn λe=>by
 show((x::t)[o.length+1]?).bind (fR (x::t))=_
 rw[List.getElem?_cons_succ,e,ba (ao _),Nat.sub_self,hH]
 show(data _ ((mL g items (eO g items)).map (·.2))).map (D.con (.Z7 ((mL g items (eO g items)).map (·.1))))=_
 unfold mL
 rw[xI,aJ];rfl
theorem U6{x:cJ}{l O:LN}{m:Nat}{M:LB}{K:KT}(e:e7 m l=O)(U:c7 M x=some (cS l)∨c7 M x=some (dH l)∨∃es,view M x=some (.Z7 es)/\es.map (·.1)=l.map λi:Nat=>(i:Int))(hd:l.Nodup)(hl:∀c∈l,c<m)(hm:m<64)(q:K (.sh (cS O)) M):fJ M K .sorted [x]:=
 tX U hd hl hm (e▸q)
theorem VB{g:cL}{items:LN}(X:Nat)(h:X∈eO g items):∃c∈items,dg g c=(X:Int):=by
 obtain ⟨d,U,O⟩:=aB.mp (lh.mp h).2
 obtain ⟨h3,h4⟩:=aT.mp U
 exact⟨d,h3,by rw[j8 (aD h4),O]⟩
theorem MG{g:cL}{items:LN}{Y:Nat}(nd:items.Nodup):(gn g items Y).Nodup:=by
 unfold gn
 rw[List.Nodup,List.pairwise_map]
 exact(List.Pairwise.filter _ nd).imp λ{a b}q e=>q (bO e)
theorem MF{g:cL}{items:LN}{Y:Nat}(hi:∀c∈items,d9 g c)(c:Nat)(hc:c∈gn g items Y):c<NN g:=by
 unfold gn at hc
 obtain ⟨d,hd,rfl⟩:=aB.mp hc
 obtain ⟨U,O⟩:=aT.mp hd
 obtain ⟨r,t,x,hr,e,hx⟩:=(kX (hi d U)).mp (aD O)
 exact d9.lt ⟨r,t+1,x,hr,dc hx,by rw[e];rfl⟩
theorem hO.keys{g:cL}{items:LN}{d:List (Int×cJ)}{o:LB}(b:hO g items d o)(hi:∀c∈items,d9 g c)(ok:dz g):∃O:LN,d.map (·.1)=(O.map λi:Nat=>(i:Int))/\O.Nodup/\(∀X∈O,X<g.names.length)/\e7 g.names.length O=eO g items:=b.casesOn λO e1 e2 so=>by
 refine⟨O,by rw[e1,pZ],so.nodup,λX hX=>((so.mem X).mp hX).elim λd h=>(((kX (hi d h.1)).mp h.2).sym ok).1,?_⟩
 rw[←Bs]
 unfold eO
 refine(Bs _ _).trans (HJ λX _=>?_)
 rw[so.mem]
 simp only[List.mem_map,List.mem_filter,decide_eq_true_eq]
 exact⟨λ⟨d,h1,U⟩=>⟨d,⟨h1,by rw[U];exact bj _⟩,by rw[U];rfl⟩,λ⟨d,⟨h1,U⟩,h3⟩=>⟨d,h1,by rw[j8 U,h3]⟩⟩
section
variable{G:Gd}{k f n:Nat}{M:LB}{K:KT}{X:XT}(P:dO G){g:cL}(ok:dz g){items:LN}(hi:∀c∈items,d9 g c)(nd:items.Nodup)
include P ok hi nd
theorem CP{P':dX}{N:Ev->XT}{i c Y:Nat}{d:List (Int×cJ)}{o:LB}(hc:items[i]?=some c)(U:dg g c=Y)(b:pd g (items.take i) Y d o)
 (nx:∀o',hO g (items.take (i+1)) d o'->N [some (.sh g.d),some (.sh (cS items)),some (.own 0),some (.sh (.int (c:Int))),some (.sh (.int (dg g c))),none] (.Z7 d::o')):
 ws [CS.expr ((CE.idx (.loc 2) (.loc 4)).Z9 72 [CE.call 856 [CE.loc 0,CE.loc 3]])] G 4 0 P' N [some (.sh g.d),some (.sh (cS items)),some (.own 0),some (.sh (.int (c:Int))),some (.sh (.int (dg g c))),none] (.Z7 d::o):=
 (b.done hc U).casesOn λj h1 O h3=>oI (x:=.own (j+1)) (show(some (dg g c)).bind (c6 d)=_ by rw[U];exact h1) (oI (lN O) (JF P dQ (hi c (ax hc)) (kY (j:=j+1) O (ae (ME ..) (ae (bK ..) (EO ok hi nd))) (nx _ h3))))
theorem J4(hk:6<=k)(q:K (.sh (rI g items)) M):Cl G k 863 [.sh g.d,.sh (cS items)] M K X:=
 dj (P.g2 32) (ds:=[g.d,cS items]) rfl (R:=λd=>d=rI g items) hk (λd h=>h▸q)
  (go ⟨0,dZ (λ_ (_:List (Int×cJ)×LB)=>[some (.sh g.d),some (.sh (cS items)),some (.own 0),none,none,none]) (λ_ s=>.Z7 s.1::s.2) (λi s=>hO g (items.take i) s.1 s.2) ([],[])
   ⟨[],rfl,rfl,bx,λX=>⟨λh=>(dh h),λh=>h.elim λ_ h=>dh h.1⟩⟩ dG
   (λi c s P' O b L=>have hI:=hi c (ax O)
    go (xg P ok dQ hI (bI (λU=>Gw (es:=s.1) rfl (λv hv=>CP P ok hi nd O (j8 U) (b.old (j8 U▸hv)) λo' b=>L.nx [3,4] (s.1,o') b rfl)
     λhv=>.inr (.Z7 (es:=s.1) rfl (c3 (b.len ok λc h=>hi c (cD h))) (CP P ok hi nd O (j8 U) (j8 U▸b.new (j8 U▸hv)) λo' b=>L.nx [3,4] (dq s.1 (dg g c) (.own (s.2.length+1)),o') b rfl)))
     λU=>L.nx [3,4] s (b.skip O U) rfl)))
   λs b=>have b:hO g items s.1 s.2:=hH items▸b
    ⟨0,(b.keys hi ok).elim λsyms h=>U6 h.2.2.2 (.inr (.inr ⟨s.1,rfl,h.1⟩)) h.2.1 h.2.2.1 (aX ok.names dQ) (
     dZ (l:=eO g items) (λ_ (_:LB)=>[some (.sh g.d),some (.sh (cS items)),some (.own 0),none,none,some (.own (s.2.length+1))]) (λ_ t=>.Z7 s.1::t) (λi t=>nE g items s.2 i t) (s.2++[Ob.Z7 []]) ⟨rfl⟩ dG
      (λi Y t P' hY e L=>(e.get ok b VB hY).casesOn λj es h1 h2 h3 h4 h5=>go (oI (x:=.own (j+1)) (show(some (Y:Int)).bind (c6 s.1)=_ from h1) (tX (m:=NN g) (l:=gn g items Y) (.inl (mN (j:=j+1) h2)) (MG nd) (MF hi) (aX (lI ok) dQ)
       (.tuple rfl (by rw[ag];exact c3 (ae (qT _ _) (ae (lI ok) dQ))) (.Z7 (j:=s.2.length+1) h3 (c3 h4) (L.nx [4] _ h5 rfl))))))
      λt e=>⟨_,e.fin,rfl⟩)⟩⟩)
end
def kJ(i:Nat)(s:LS):Ob:=.inst 803 [(28,.sh (.int (i:Int))),(59,.sh (dH s.ker)),(60,.sh (.int s.sym)),(61,.sh (cS s.items)),(30,.own (2*i+4)),(32,.sh (cS s.ZZ))]
noncomputable def eu(l:LZ):List (Int×cJ):=l.map λx=>((x.1:Int),cJ.sh (.int (x.2:Int)))
noncomputable def gy:Nat->List LS->LB
|_,[]=>[]
|i,s::r=>kJ i s::.Z7 (eu s.moves)::gy (i+1) r
noncomputable def iV(l:LN):LJ:=l.map λi:Nat=>(i:Int)
noncomputable def gJ:Nat->List LS->List (LJ×cJ)
|_,[]=>[]
|i,s::r=>(iV s.ker,.sh (.int (i:Int)))::gJ (i+1) r
def BM(g:cL)(F:LN)(sts:List LS):LB:=
 .inst 964 [(2,.sh g.d),(64,.sh (jO g F)),(1,.own 1),(15,.own 2)]::.list ((List.range sts.length).map λi=>.own (2*i+3))::.Z2 (gJ 0 sts)::gy 0 sts
theorem HL:∀(k:Nat)(sts:List LS),(gy k sts).length=2*sts.length
 |_,[]=>rfl
 |k,s::r=>by show(gy (k+1) r).length+1+1=_;rw[HL (k+1) r];rfl
theorem Bu:∀{k:Nat}{sts:List LS}{i:Nat}{s:LS},sts[i]?=some s->(gy k sts)[2*i]?=some (kJ (k+i) s)/\(gy k sts)[2*i+1]?=some (.Z7 (eu s.moves))
 |_,[],_,_,h=>cR h
 |k,s::r,0,_,h=>by cases h;exact⟨rfl,rfl⟩
 |k,s::r,i+1,s',h=>by
  have:=Bu (k:=k+1) (show r[i]?=some s' from h)
  rw[show k+(i+1)=k+1+i by exact Eq.symm (Nat.succ_add_eq_add_succ k i)]
  exact this
theorem HM:∀{k:Nat}{sts:List LS}{i:Nat}{s s':LS},sts[i]?=some s->s'.moves=s.moves->(gy k sts).set (2*i) (kJ (k+i) s')=gy k (sts.set i s')
 |_,[],_,_,_,h,_=>cR h
 |k,s::r,0,_,s',h,e=>by cases h;show kJ k s'::.Z7 (eu s.moves)::_=kJ k s'::.Z7 (eu s'.moves)::_;rw[e]
 |k,s::r,i+1,s1,s',h,e=>by
  have:=HM (k:=k+1) (show r[i]?=some s1 from h) e
  rw[show k+(i+1)=k+1+i by lia]
  show _::_::(gy (k+1) r).set (2*i) _=_
  rw[this];rfl
theorem HN:∀{k:Nat}{sts:List LS}{i:Nat}{s:LS}{l:LZ},sts[i]?=some s->(gy k sts).set (2*i+1) (.Z7 (eu l))=gy k (sts.set i {s with moves:=l})
 |_,[],_,_,_,h=>cR h
 |k,s::r,0,_,l,h=>by cases h;rfl
 |k,s::r,i+1,s1,l,h=>by
  have:=HN (k:=k+1) (l:=l) (show r[i]?=some s1 from h)
  show _::_::(gy (k+1) r).set (2*i+1) _=_
  rw[this];rfl
theorem HO:∀(k:Nat)(sts:List LS)(s:LS),gy k (sts++[s])=gy k sts++[kJ (k+sts.length) s,.Z7 (eu s.moves)]
 |_,[],_=>rfl
 |k,s::r,s'=>by
  show _::_::gy (k+1) (r++[s'])=_
  rw[HO (k+1) r s',show k+(s::r).length=k+1+r.length by rw[bU];exact Eq.symm (Nat.succ_add_eq_add_succ k r.length)];rfl
theorem GG:∀(k:Nat)(sts:List LS)(s:LS),gJ k (sts++[s])=gJ k sts++[(iV s.ker,.sh (.int ((k+sts.length:Nat):Int)))]
 |_,[],_=>rfl
 |k,s::r,s'=>by
  show _::gJ (k+1) (r++[s'])=_
  rw[GG (k+1) r s',show k+(s::r).length=k+1+r.length by rw[bU];lia];rfl
theorem GF:∀{k:Nat}{sts:List LS}{i:Nat}{s:LS},sts[i]?=some s->(gJ k sts)[i]?=some (iV s.ker,.sh (.int ((k+i:Nat):Int)))
 |_,[],_,_,h=>cR h
 |k,s::r,0,_,h=>by cases h;rfl
 |k,s::r,i+1,s',h=>by
  rw[show k+(i+1)=k+1+i by lia]
  exact GF (k:=k+1) (show r[i]?=some s' from h)
theorem wc:∀(k:Nat)(sts:List LS),(gJ k sts).map (·.1)=sts.map λs=>iV s.ker
|_,[]=>rfl
|k,s::r=>aj _ (wc (k+1) r)
theorem Aw:∀{k:Nat}{sts:List LS}{i:Nat}{s s':LS},sts[i]?=some s->s'.ker=s.ker->gJ k (sts.set i s')=gJ k sts
 |_,[],_,_,_,h,_=>cR h
 |k,s::r,0,_,s',h,e=>by cases h;show(iV s'.ker,_)::_=_;rw[e];rfl
 |k,s::r,i+1,s1,s',h,e=>by
  have:=Aw (k:=k+1) (show r[i]?=some s1 from h) e
  show _::gJ (k+1) (r.set i s')=_
  rw[this];rfl
theorem Ex{a b:LN}(h:iV a=iV b):a=b:=by
 unfold iV at h
 exact List.map_inj_right (λ_ _=>bC.mp)|>.mp h
section
variable{g:cL}{F:LN}{sts:List LS}{i:Nat}{s s':LS}
theorem nB(h:sts[i]?=some s):(BM g F sts)[2*i+3]?=some (kJ i s):=by have:=(Bu (k:=0) h).1;rwa [bA] at this
theorem BY(h:sts[i]?=some s):(BM g F sts)[2*i+4]?=some (.Z7 (eu s.moves)):=(Bu (k:=0) h).2
theorem BZ(h:sts[i]?=some s)(e:s'.moves=s.moves)(O:s'.ker=s.ker):(BM g F sts).set (2*i+3) (kJ i s')=BM g F (sts.set i s'):=by
 have:=HM (k:=0) h e
 rw[bA] at this
 unfold BM
 rw[Aw h O,bc,←this];rfl
theorem I9{l:LZ}(h:sts[i]?=some s):(BM g F sts).set (2*i+4) (.Z7 (eu l))=BM g F (sts.set i {s with moves:=l}):=by
 have:=HN (k:=0) (l:=l) h
 unfold BM
 rw[Aw (s':={s with moves:=l}) h rfl,bc,←this];rfl
theorem I8:(BM g F sts).length=2*sts.length+3:=by show(gy 0 sts).length+1+1+1=_;rw[HL]
end
theorem oF{M:LB}(o:Ob)(r:LB):(M++o::r)[M.length]?=some o:=by rw[ba (ao _),Nat.sub_self];rfl
theorem E7{M:LB}(o p:Ob)(r:LB):(M++o::p::r)[M.length+1]?=some p:=by rw[ba (aU _),show M.length+1-M.length=1 from cI ..];rfl
theorem yy{M:LB}(o p:Ob)(r:LB):(M++o::r).set M.length p=M++p::r:=by rw[List.set_append_right _ _ (ao _),Nat.sub_self];rfl
theorem u4{M:LB}{l:LN}:c7 M (.sh (dH l))=some (.tup ((iV l).map .int)):=by show some (D.tup _)=_;unfold iV;rw[aJ];rfl
noncomputable def dU(sts:List LS):List LN:=sts.map (·.ker)
theorem Ax{sts:List LS}{j:Nat}{s:LS}(nd:(dU sts).Nodup)(h:sts[j]?=some s):c6 (gJ 0 sts) (iV s.ker)=some (.sh (.int (j:Int))):=by
 have:=GF (k:=0) h
 rw[bA] at this
 refine og ?_ this
 rw[wc]
 unfold dU at nd
 rw[List.Nodup,List.pairwise_map] at nd⊢
 exact nd.imp λ{a b}q e=>q (Ex e)
theorem GH{sts:List LS}{ker:LN}(h:ker∉dU sts):∀x∈gJ 0 sts,x.1≠iV ker:=λx U e=>by
 have:x.1∈(gJ 0 sts).map (·.1):=aB.mpr ⟨x,U,rfl⟩
 rw[wc,e] at this
 obtain ⟨s,O,h2⟩:=aB.mp this
 exact h (aB.mpr ⟨s,O,Ex h2⟩)
theorem RF(k:Nat)(sts:List LS):(gJ k sts).length=sts.length:=by
 have:=aj List.length (wc k sts)
 rwa [ag,ag] at this
theorem pV{n:Nat}(h:n<=2^20):n<=mx:=ae h dQ
theorem mS{M:LB}{K:KT}{j n:Nat}{xs:LV}(hm:M[j]?=some (.list xs))(e:xs.length=n)(h:n<=mx)(q:K (.sh (.int n)) M):fJ M K .len [.own j]:=Fd hm (e.symm▸h) (e.symm▸q)
theorem Ro{es:List (LJ×cJ)}{l:LJ}{x y:cJ}{M:LB}{K:Bool->Prop}(hv:view M y=some (.Z2 es))(hn:c7 M x=some (.tup (l.map .int)))(a:∀v,c6 es l=some v->K false)(b:c6 es l=none->K true):fq M K x y .NotIn:=
 .Zz (.dt hv hn) (by
  cases h:c6 es l with
  |none=>exact b h
  |some v=>exact a v h)
theorem r9(sts:List LS)(s:LS):dU (sts++[s])=dU sts++[s.ker]:=by unfold dU;rw[ay];rfl
theorem Pn{sts:List LS}{s:LS}(nd:(dU sts).Nodup)(h:s.ker∉dU sts):(dU (sts++[s])).Nodup:=by
 rw[r9]
 exact bH.mpr ⟨nd,bR.mpr ⟨λh=>(dh h),bx⟩,λa O b hb e=>h (by rw[←aF.mp hb,←e];exact O)⟩
theorem RH{sts:List LS}{ker:LN}{v:cJ}(nd:(dU sts).Nodup)(h:c6 (gJ 0 sts) (iV ker)=some v):∃(j:Nat)(s:LS),sts[j]?=some s/\s.ker=ker/\v=.sh (.int (j:Int)):=by
 have hk:ker∈dU sts:=Decidable.byContradiction λq=>by rw[uY (GH q)] at h;exact cR h
 obtain ⟨s,O,e⟩:=aB.mp hk
 obtain ⟨j,U,e2⟩:=bp.mp O
 have U:sts[j]?=some s:=by rw[aC U,e2]
 exact⟨j,s,U,e,aq (h.symm.trans (e▸Ax nd U))⟩
theorem RJ{sts:List LS}{ker:LN}(nd:(dU sts).Nodup)(h:c6 (gJ 0 sts) (iV ker)=none):ker∉dU sts:=λq=>by
 obtain ⟨s,U,e⟩:=aB.mp q
 obtain ⟨j,O,e2⟩:=bp.mp U
 have:=Ax nd (show sts[j]?=some s by rw[aC O,e2])
 rw[e,h] at this;exact cR this
theorem Ja{g:cL}{F:LN}{sts:List LS}{ker:LN}{sy:Int}(h:ker∉dU sts){a b:Nat}(ha:a=(BM g F sts).length+1)(hb:b=(BM g F sts).length):
 (((BM g F sts).set 2 (.Z2 (dq (gJ 0 sts) (iV ker) (.sh (.int (sts.length:Int)))))++[Ob.inst 803 [(28,.sh (.int (sts.length:Int))),(59,.sh (dH ker)),(60,.sh (.int sy)),(61,.sh (cS [])),(30,.own a),(32,.sh (cS []))],.Z7 []]).set 1
  (.list (((List.range sts.length).map λi=>cJ.own (2*i+3))++[.own b])))=BM g F (sts++[⟨sy,ker,[],[],[]⟩]):=by
 rw[lR (GH h),ha,hb,I8]
 unfold BM
 rw[HO,GG,bA,ak,show sts.length+[(⟨sy,ker,[],[],[]⟩:LS)].length=sts.length+1 from rfl,cn,ay];rfl
section
variable{G:Gd}{k f n:Nat}{M M' t t':LB}{K:KT}{X:XT}{E:Ev}{Q:dX}{r:List CS}
theorem gA{e:CE}{m c:Nat}{fs:List (Nat×cJ)}(ht:mt c m=some none)(hl:Nat.ble fs.length 900=true)(U:lk E 0=some (.own M.length))
 (h:(sm e).e G k E (M++.inst c fs::t) (λv M'=>∃t',M'=M++.inst c fs::t'/\Go G k n r E (M++.inst c (dq fs m v)::t') Q) (Q.exc E)):Go G k n (.assign (.attr (.loc 0) m) e::r) E (M++.inst c fs::t) Q:=
 ⟨G3 (((gc e).e h).imp λv M₁ h=>h.elim λt' h=>(gc (.loc 0)).e (show(oE False _ (lk E 0)) from U▸(h.1▸uC.mk (oF _ _) ht (Nat.le_of_ble_eq_true hl) ((yy (M:=M) _ _ t').symm▸h.2.h))))⟩
theorem eL{cs:List CS}{na:Nat}{tail:List CV}{vs:LV}(O:gg G f cs na tail)(hl:vs.length=na){j:Nat}(hk:j+2<=k)
 (h:Go G j M.length cs (vs.map some++tail.map tv) M ⟨λ_ M'=>K (.sh .none) M',λ_ _=>False,K,λ_ M'=>X M'⟩):Cl G k f vs M K X:=⟨Fn.up (u2 O hl h.h) hk⟩
theorem tH{c na:Nat}{cs:List CS}{tail:List CV}{vs:LV}(hm:mt c 0=some (some f))(O:gg G f cs na tail)(hl:vs.length+1=na){j:Nat}(hk:j+2<=k)
 (h:Go G j (M.length+1) cs (some (.own M.length)::(vs.map some++tail.map tv)) (M++[.inst c []]) ⟨λ_ M'=>K (.own M.length) M',λ_ _=>False,λ_ _=>False,λ_ M'=>X M'⟩):Nw G k c vs M K X:=
 ⟨Am hm (Fn.up (k:=j+2) (u2 O hl (by
  rw[ak]
  exact h.h.mono (λ_ _ q=>⟨rfl,q⟩) (λ_ _ q=>q) (λ_ _ q=>q.elim) λ_ _ q=>q)) hk)⟩
variable(P:dO G)
include P
theorem Q3{nu sy:Int}{ker:LN}(hk:2<=k)(q:K (.own M.length) (M++[.inst 803 [(28,.sh (.int nu)),(59,.sh (dH ker)),(60,.sh (.int sy)),(61,.sh (cS [])),(30,.own (M.length+1)),(32,.sh (cS []))],.Z7 []])):
 Nw G k 803 [.sh (.int nu),.sh (dH ker),.sh (.int sy)] M K X:=
 tH rfl (P.g4 3) rfl hk (gA rfl rfl rfl ⟨_,rfl,gA rfl rfl rfl ⟨_,rfl,gA rfl rfl rfl ⟨_,rfl,gA rfl rfl rfl (.inl ⟨_,rfl,_,rfl,gA rfl rfl rfl ⟨0,[.Z7 []],aP ..,gA rfl rfl rfl (.inl ⟨_,rfl,_,rfl,go (by rw[ak];exact q)⟩)⟩⟩)⟩⟩⟩)
theorem GJ{g:cL}{F:LN}{sts:List LS}{ker:LN}{sy:Int}(hk:4<=k)(nd:(dU sts).Nodup)(hl:sts.length<=2^20)(q1:∀(j:Nat)(s:LS),sts[j]?=some s->s.ker=ker->K (.sh (.int (j:Int))) (BM g F sts))
 (q2:ker∉dU sts->K (.sh (.int (sts.length:Int))) (BM g F (sts++[⟨sy,ker,[],[],[]⟩]))):Cl G k 947 [.own 0,.sh (dH ker),.sh (.int sy)] (BM g F sts) K X:=
 have qm:((List.range sts.length).map λi=>cJ.own (2*i+3)).length=sts.length:=by rw[ag,aQ]
 eL (P.g3 11) rfl hk (go (Ro (es:=gJ 0 sts) rfl u4 (λv U=>(RH nd U).elim λj h=>h.elim λs h=>lE.td rfl u4 U (by rw[h.2.2];exact q1 j s h.1 h.2.1))
  λhn=>have h:=RJ nd hn
   mS rfl qm (pV hl) (.Z2 (j:=2) (es:=gJ 0 sts) rfl u4 (by rw[RF];exact pV hl) (mS rfl qm (pV hl) (Q3 P dQ (app rfl (by rw[qm];exact pV hl)
    (by
     rw[Ja h (by rw[bc]) (by rw[bc])]
     exact lE.td rfl u4 (Ax (Pn (s:=⟨sy,ker,[],[],[]⟩) nd h) (List.getElem?_concat_length (l:=sts) (a:=⟨sy,ker,[],[],[]⟩))) (q2 h))))))))
end
structure jG(i:Nat)(a b:List LS):Prop where
ker:∀(q:Nat)(ker:LN),(dU a)[q]?=some ker->(dU b)[q]?=some ker
old:∀(q:Nat)(s:LS),q≠i->b[q]?=some s->a[q]?=some s∨(a.length<=q/\s.moves=[])
len:a.length<=b.length
theorem Pl{sts:List LS}{q:Nat}{ker:LN}:(dU sts)[q]?=some ker↔∃s,sts[q]?=some s/\s.ker=ker:=by unfold dU;rw[aA];exact Option.map_eq_some_iff
theorem yw(sts:List LS):(dU sts).length=sts.length:=ag _
theorem vq{sts:List LS}{i:Nat}{s s':LS}(h:sts[i]?=some s)(e:s'.ker=s.ker):dU (sts.set i s')=dU sts:=by
 apply List.ext_getElem?
 intro q
 unfold dU
 rw[aA,aA,List.getElem?_set]
 split
 ·rename_i O;subst O
  rw[al (dc h),h];exact aj some e
 ·rfl
theorem jG.refl{i:Nat}{a:List LS}:jG i a a:=⟨λ_ _ h=>h,λ_ _ _ h=>.inl h,ao _⟩
theorem jG.set{i:Nat}{a b:List LS}{s s':LS}(g:jG i a b)(h:b[i]?=some s)(e:s'.ker=s.ker):jG i a (b.set i s'):=
 ⟨λq ker U=>by rw[vq h e];exact g.ker q ker U,λq t U O=>g.old q t U (by rwa [bX (Ne.symm U)] at O),by rw[bc];exact g.len⟩
theorem jG.snoc{i:Nat}{a b:List LS}{s:LS}(g:jG i a b)(e:s.moves=[]):jG i a (b++[s]):=by
 refine⟨λq ker U=>?_,λq t U O=>?_,by rw[ak];exact ae g.len (aW _ _)⟩
 ·have h:=g.ker q ker U
  rw[r9,bg (dc h)];exact h
 ·rcases Nat.lt_or_ge q b.length with h|h
  ·rw[bg h] at O;exact g.old q t U O
  ·rw[ba h] at O
   refine .inr ⟨ae g.len h,?_⟩
   cases e2:q-b.length with
   |zero=>rw[e2] at O;cases O;exact e
   |succ n=>rw[e2] at O;exact cR O
theorem yJ(l:LZ):(eu l).length=l.length:=ag _
theorem J0{g:cL}{items:LN}{i Y:Nat}(h:(eO g items)[i]?=some Y){M:LB}:fX M (.sh (rI g items)) (.sh (.int (Y:Int)))=some (.sh (dH (fV g items Y))):=by
 let l:=eO g items
 have e:(l.map λi:Nat=>(i:Int)).zip ((l.map λX=>dH (fV g items X)).map cJ.sh)=l.map λX:Nat=>((X:Int),cJ.sh (dH (fV g items X))):=by
  rw[aJ];exact List.zip_map'
 show(some (Y:Int)).bind (c6 ((l.map λi:Nat=>(i:Int)).zip ((l.map λX=>dH (fV g items X)).map cJ.sh)))=_
 rw[e]
 refine og (j:=i) ?_ (by rw[aA,h];rfl)
 rw[aJ]
 exact tG (nh _ _)
theorem wh{M:LB}{j:Nat}{o:Ob}(hm:M[j]?=some o)(h:o.ZY=none):view M (.own j)=some o:=by
 show(M[j]?).bind (λob=>match ob.ZY with|some d=>qY d|none=>some ob)=_
 rw[hm]
 show(match o.ZY with|some d=>qY d|none=>some o)=_
 rw[h]
theorem pT{M:LB}{j c m:Nat}{fs:List (Nat×cJ)}{v:cJ}(hm:M[j]?=some (.inst c fs))(ht:mt c m=some none)(hl:fs.lookup m=some v):kb M (.own j) m=some v:=by
 have e:view M (.own j)=some (.inst c fs):=wh hm rfl
 show(view M (.own j)).bind _=_
 rw[e]
 show(if _ then _ else _)=_
 rw[al ht];exact hl
theorem vD{α β:Type}{f:α->β}{g:β->D}{l:List α}(i:Nat):((l.map f).map g)[i]?=(l[i]?).map ((λ_ x=>g (f x)) i):=by rw[aA,aA,Option.map_map];rfl
theorem gM{G:Gd}{k n:Nat}{cs:List CS}{E:Ev}{M M':LB}{P:dX}(e:M=M')(h:Go G k n cs E M' P):Go G k n cs E M P:=e▸h
def LS.w1(g:cL)(F:LN)(s:LS):LS:={s with items:=eh g F s.ker}
def LS.wI(g:cL)(F:LN)(s:LS):LS:={s with items:=eh g F s.ker,ZZ:=o5 g (eh g F s.ker)}
structure pv(g:cL)(F:LN)(sts:List LS)(i:Nat)(s:LS)(sts':List LS)(ms:LZ):Prop where
at_:sts'[i]?=some {s.wI g F with moves:=ms}
to:∀X q,(X,q)∈ms->(dU sts')[q]?=some (fV g (eh g F s.ker) X)
ok:iE g F (dU sts')
gr:jG i sts sts'
inductive pw(g:cL)(F:LN)(sts:List LS)(i:Nat)(s:LS)(j:Nat):XT
|mk (sts' ms):ms.map (·.1)=(eO g (eh g F s.ker)).take j->pv g F sts i s sts' ms->pw g F sts i s j (BM g F sts')
theorem pv.step{g:cL}{F:LN}{sts:List LS}{i j Y q:Nat}{s:LS}{O:List LS}{U:LZ}(x:pv g F sts i s O U)(hk:U.map (·.1)=(eO g (eh g F s.ker)).take j)(hY:(eO g (eh g F s.ker))[j]?=some Y)(hq:(dU O)[q]?=some (fV g (eh g F s.ker) Y)):
 pw g F sts i s (j+1) ((BM g F O).set (2*i+4) (.Z7 (dq (eu U) (Y:Int) (.sh (.int (q:Int)))))):=by
 have e:dq (eu U) (Y:Int) (.sh (.int (q:Int)))=eu (U++[(Y,q)]):=by
  rw[lR λx hx e=>?_]
  ·unfold eu;rw[ay];rfl
  ·obtain ⟨z,hz,rfl⟩:=aB.mp hx
   have hz1:z.1=Y:=bC.mp e
   have:z.1∈(eO g (eh g F s.ker)).take j:=hk▸aB.mpr ⟨z,hz,rfl⟩
   rw[hz1] at this
   obtain ⟨m,hm,e2⟩:=bp.mp this
   rw[List.getElem_take] at e2
   rw[bb] at hm
   exact bz (aR hm (cr _ _)) ((b9 (i:=m) (j:=j) (aR hm (Nat.min_le_right _ _)) (nh _ _)).mp (by rw[aC (aR hm (Nat.min_le_right _ _)),e2];exact hY.symm))
 rw[e,I9 x.at_]
 have ks:=vq (s':={s.wI g F with moves:=U++[(Y,q)]}) x.at_ rfl
 refine⟨_,U++[(Y,q)],by rw[ay,hk,take_snoc hY];rfl,bd (dc x.at_),λZ p hz=>?_,ks▸x.ok,x.gr.set x.at_ rfl⟩
 refine(aj (·[p]?) ks).trans ((aI.mp hz).elim (x.to Z p) λhz=>?_)
 cases aF.mp hz;exact hq
theorem pw.start{g:cL}{F:LN}{sts:List LS}{i:Nat}{s:LS}(hs:sts[i]?=some s)(hm:s.moves=[])(U:iE g F (dU sts)):pw g F sts i s 0 (BM g F ((sts.set i (s.w1 g F)).set i (s.wI g F))):=by
 have O:(sts.set i (s.w1 g F))[i]?=some (s.w1 g F):=bd (dc hs)
 have ks:dU ((sts.set i (s.w1 g F)).set i (s.wI g F))=dU sts:=(vq (s':=s.wI g F) O rfl).trans (vq (s':=s.w1 g F) hs rfl)
 refine⟨_,[],rfl,?_,λ_ _ h=>(dh h),ks▸U,(jG.refl.set (s':=s.w1 g F) hs rfl).set (s':=s.wI g F) O rfl⟩
 rw[bd (dc O)]
 show some (s.wI g F)=some {s.wI g F with moves:=[]}
 unfold LS.wI;rw[hm]
theorem FD{g:cL}{items:LN}{j:Nat}{U:LZ}(ok:dz g)(h:U.map (·.1)=(eO g items).take j):(eu U).length<=mx:=by
 have:=aj List.length h
 rw[ag] at this
 rw[yJ,this]
 exact c3 (ae (bK ..) (ok.ZK (qT _ _)))
theorem pv.snoc{g:cL}{F:LN}{sts:List LS}{i j Y:Nat}{s:LS}{O:List LS}{U:LZ}{sy:Int}(ok:dz g)(hF:jy g F)(x:pv g F sts i s O U)(hY:(eO g (eh g F s.ker))[j]?=some Y)(hn:fV g (eh g F s.ker) Y∉dU O):
 pv g F sts i s (O++[⟨sy,fV g (eh g F s.ker) Y,[],[],[]⟩]) U:=by
 refine⟨by rw[bg (dc x.at_)];exact x.at_,λZ p hz=>?_,?_,x.gr.snoc rfl⟩
 ·rw[r9,bg (dc (x.to Z p hz))];exact x.to Z p hz
 ·rw[r9];exact x.ok.snoc ok hF (aB.mpr ⟨_,ax x.at_,rfl⟩) (ax hY) hn
theorem Pm{sts:List LS}{s:LS}:(dU (sts++[s]))[sts.length]?=some s.ker:=by
 rw[r9,ba (by rw[yw];exact ao _),yw,Nat.sub_self];rfl
theorem iE.big{g:cL}{F:LN}{sts:List LS}(U:iE g F (dU sts))(ok:dz g):sts.length<=2^20:=by
 have:=U.size ok
 rw[yw] at this
 exact ae this dQ
section
variable{G:Gd}{k f n:Nat}{M:LB}{K:KT}{X:XT}(P:dO G){g:cL}(ok:dz g){F:LN}(hF:jy g F)
include P ok hF
theorem Nx{sts:List LS}{i:Nat}{s:LS}(hk:10<=k)(ko:iE g F (dU sts))(hs:sts[i]?=some s)(hm:s.moves=[])
 (q:∀O s',jG i sts O->O[i]?=some s'->iE g F (dU O)->um g F (dU O) s'->K (.sh .none) (BM g F O)):Cl G k 954 [.own 0,.own (2*i+3)] (BM g F sts) K X:=
 have hi:=ko.it ok (aB.mpr ⟨s,ax hs,rfl⟩)
 have hi2:∀c∈eh g F s.ker,d9 g c:=λc hc=>yn hi.1 hc
 have nd2:=O0 (g:=g) ok (F:=F) (ker:=s.ker)
 have U:(sts.set i (s.w1 g F))[i]?=some (s.w1 g F):=bd (dc hs)
 have hs2:((sts.set i (s.w1 g F)).set i (s.wI g F))[i]?=some (s.wI g F):=bd (dc U)
 eL (P.g2 35) rfl hk (gT 1 (oI (pT (nB hs) rfl rfl) (Ms P ok hF hi.1 dQ hi.2 (oI (nB hs) (gM (BZ (s':=s.w1 g F) hs rfl rfl)
  (gT 1 (oI (pT (nB U) rfl rfl) (MO P ok hi2 nd2 dQ (oI (nB U) (gM (BZ (s':=s.wI g F) U rfl rfl)
   (go (oI (pT (nB hs2) rfl rfl) (J4 P ok hi2 nd2 dQ
    (dZ (l:=eO g (eh g F s.ker)) (λ_ (_:LB)=>[some (.own 0),some (.own (2*i+3)),some (.sh (rI g (eh g F s.ker))),none]) (λ_ M=>M) (λj M=>pw g F sts i s j M) _
     (pw.start hs hm ko) vD
     (λj Y M P' hY h L=>h.casesOn λO ms h2 x=>go (oI (J0 hY) (GJ P dQ x.ok.nd (x.ok.big ok)
      (λq t ht e=>oI (pT (nB x.at_) rfl rfl) (.Z7 (BY x.at_) (FD ok h2) (L.nx [3] _ (x.step h2 hY (Pl.mpr ⟨t,ht,e⟩)) rfl)))
      λhn=>have x:=x.snoc ok hF (sy:=(Y:Int)) hY hn
       oI (pT (nB x.at_) rfl rfl) (.Z7 (BY x.at_) (FD ok h2) (L.nx [3] _ (x.step h2 hY Pm) rfl)))))
     λM h=>h.casesOn λO ms h2 x=>q O _ x.gr x.at_ x.ok ⟨rfl,rfl,by rw[←hH (eO g _)];exact h2,x.to⟩))))))))))))))
end
noncomputable def mV(s:LS):D:=.Z7 (s.moves.map λx=>(x.1:Int)) (s.moves.map λx=>D.int (x.2:Int))
def LS.d(i:Nat)(s:LS):D:=.inst 803 [28,59,60,61,30,32] [.int (i:Int),dH s.ker,.int s.sym,cS s.items,mV s,cS s.ZZ]
noncomputable def jV:Nat->List LS->LD
|_,[]=>[]
|i,s::r=>s.d i::jV (i+1) r
def fy(g:cL)(sts:List LS):D:=.inst 922 [2,1] [g.d,.list (jV 0 sts)]
noncomputable def rW:Nat->List LS->LB
|_,[]=>[]
|i,s::r=>.Z3 (s.d i)::.Z3 (mV s)::rW (i+1) r
theorem Bw:∀{k i:Nat}{sts:List LS}{s:LS},sts[i]?=some s->(jV k sts)[i]?=some (s.d (k+i))
 |_,_,[],_,h=>cR h
 |k,0,s::r,_,h=>by cases h;rfl
 |k,i+1,s::r,s',h=>by
  rw[show k+(i+1)=k+1+i by exact Eq.symm (Nat.succ_add_eq_add_succ k i)]
  exact Bw (k:=k+1) (show r[i]?=some s' from h)
theorem HV:∀(k:Nat)(sts:List LS),(jV k sts).length=sts.length
|_,[]=>rfl
|k,s::r=>aj (·+1) (HV (k+1) r)
theorem D3:∀{k:Nat}{sts:List LS}{i:Nat}{s:LS},sts[i]?=some s->(rW k sts)[2*i]?=some (.Z3 (s.d (k+i)))
 |_,[],_,_,h=>cR h
 |k,s::r,0,_,h=>by cases h;rfl
 |k,s::r,i+1,s',h=>by
  have:=D3 (k:=k+1) (show r[i]?=some s' from h)
  rw[show k+(i+1)=k+1+i by lia]
  exact this
theorem xH{M:LB}:∀{vs:LV}{ds:LD},vs.length=ds.length->(∀(i:Nat)(v:cJ),vs[i]?=some v->∃d,ds[i]?=some d/\iI M v=some d)->data M vs=some ds
 |[],[],_,_=>rfl
 |[],d::ds,h,_=>nA h
 |v::vs,[],h,_=>uh h
 |v::vs,d::ds,h,q=>by
  obtain ⟨d',U,O⟩:=q 0 v rfl
  cases U
  show(iI M v).bind (λd=>(data M vs).map λds=>d::ds)=_
  rw[O,xH (bO h) λi v hv=>q (i+1) v hv];rfl
structure lC(g:cL)(F:LN)(a:Nat)(sts:List LS):Prop where
ok:iE g F (dU sts)
le:a<=sts.length
old:∀(i:Nat)(s:LS),i<a->sts[i]?=some s->um g F (dU sts) s
new:∀(i:Nat)(s:LS),a<=i->sts[i]?=some s->s.moves=[]
theorem lC.start(g:cL)(F:LN):lC g F 0 [⟨-1,[0],[],[],[]⟩]:=by
 refine⟨⟨bR.mpr ⟨λh=>(dh h),bx⟩,rfl,λi ker O hi=>?_,λker hk h=>?_,λker hk h=>?_⟩,aL _,λi s h=>(Nat.not_lt_zero _ h).elim,λi s _ U=>?_⟩
 ·cases i with
  |zero=>exact(O rfl).elim
  |succ i=>exact cR hi
 ·cases aF.mp hk;exact absurd h dQ
 ·cases aF.mp hk;exact absurd h dQ
 ·cases i with
  |zero=>cases U;rfl
  |succ i=>exact cR U
theorem lC.step{g:cL}{F:LN}{a:Nat}{sts O:List LS}{s':LS}(b:lC g F a sts)(hlt:a<sts.length)
 (gr:jG a sts O) (U:O[a]?=some s') (ko:iE g F (dU O)) (ex:um g F (dU O) s'):lC g F (a+1) O:=by
 refine⟨ko,dc U,λi t hi ht=>?_,λi t hi ht=>?_⟩
 ·rcases Nat.lt_or_eq_of_le (Nat.le_of_lt_succ hi) with h|h
  ·exact(gr.old i t (bz h) ht).elim (λh2=>(b.old i t h h2).casesOn λe1 e2 e3 e4=>⟨e1,e2,e3,λX q hX=>gr.ker _ _ (e4 X q hX)⟩) λh2=>(b8 _ (aR (Nat.lt_trans h hlt) h2.1)).elim
  ·rw[h,U] at ht;cases ht;exact ex
 ·exact(gr.old i t (Nat.ne_of_gt hi) ht).elim (b.new i t (aH hi)) And.right
theorem lC.auto{g:cL}{F:LN}{a:Nat}{sts:List LS}(b:lC g F a sts)(ok:dz g)(hF:jy g F)(h:¬a<sts.length):kM g sts:=JT ok hF b.ok λs U=>by
 obtain ⟨i,hi,e⟩:=bp.mp U
 exact b.old i s (aR hi (Nat.le_of_not_lt h)) (by rw[aC hi,e])
theorem Vm{sts:List LS}{a:Nat}(h:a<sts.length):((List.range sts.length).map λi=>cJ.own (2*i+3))[a]?=some (.own (2*a+3)):=by rw[aA,cg h];rfl
theorem Fe(sts:List LS):((List.range sts.length).map λi=>cJ.own (2*i+3)).length=sts.length:=by rw[ag,aQ]
theorem qa{M:LB}{j:Nat}{d:D}(h:M[j]?=some (.Z3 d)):iI M (.own j)=some d:=by
 show(M[j]?).bind Ob.ZY=_
 rw[h];rfl
theorem NU(sts:List LS){a b:Ob}:fR ([a,.list ((List.range sts.length).map λi=>cJ.own (2*i+3)),b]++rW 0 sts) (.list ((List.range sts.length).map λi=>cJ.own (2*i+3)))=some (.list (jV 0 sts)):=by
 show(data _ ((List.range sts.length).map λi=>cJ.own (2*i+3))).map _=_
 rw[xH (ds:=jV 0 sts) (by rw[Fe,HV]) λi v hv=>?_]
 ·rfl
 ·rw[aA] at hv
  obtain ⟨i',U,rfl⟩:=oM hv
  have O:=dc U
  rw[aQ] at O
  rw[cg O] at U;cases U
  have hs:=aC O
  refine⟨_,Bw (k:=0) hs,?_⟩
  exact qa (M:=[a,.list ((List.range sts.length).map λi=>cJ.own (2*i+3)),b]++rW 0 sts) (j:=2*i+3) (D3 (k:=0) hs)
theorem JR{g:cL}{sts:List LS}{a b:Ob}:∀{r:LB},c7 (a::.Z3 (.list (jV 0 sts))::b::r++[.inst 922 [(2,.sh g.d),(1,.own 1)]]) (.own (a::.Z3 (.list (jV 0 sts))::b::r).length)=some (fy g sts):=λ{r}=>by
 show((a::.Z3 (.list (jV 0 sts))::b::r++[.inst 922 [(2,.sh g.d),(1,.own 1)]])[(a::.Z3 (.list (jV 0 sts))::b::r).length]?).bind _=_
 rw[oF];rfl
section
variable{G:Gd}{k f n:Nat}{M:LB}{E:Ev}{Q:dX}{cs:List CS}{K:KT}{X:XT}
theorem D5:∀{r:List LS}{i:Nat}{pre:LB},pre.length=2*i+3->Go G k n cs E (pre++rW i r) Q->Go G k n cs E (pre++gy i r) Q
 |[],_,_,_,h=>h
 |s::r,i,pre,hl,h=>by
  refine gZ (j:=pre.length+1) (E7 _ _ _) (d:=mV s) (by show(data _ ((eu s.moves).map (·.2))).map _=_;unfold eu;rw[xI];show some (D.Z7 ((List.map _ s.moves).map _) _)=_;rw[aJ];rfl) ?_
  rw[List.set_append_right _ _ (aU _),show pre.length+1-pre.length=1 from cI ..]
  show Go G k n cs E (pre++kJ i s::.Z3 (mV s)::gy (i+1) r) Q
  refine gZ (j:=pre.length) (oF _ _) (d:=s.d i) ?_ ?_
  ·have e:iI (pre++kJ i s::.Z3 (mV s)::gy (i+1) r) (.own (2*i+4))=some (mV s):=qa (by
    have:=E7 (M:=pre) (kJ i s) (.Z3 (mV s)) (gy (i+1) r)
    rwa [hl] at this)
   show(data _ [_,_,_,_,.own (2*i+4),_]).map _=_
   unfold data data data data data data
   rw[e];rfl
  ·rw[yy]
   have:=D5 (r:=r) (i:=i+1) (pre:=pre++[.Z3 (s.d i),.Z3 (mV s)]) (by rw[ak,hl];rfl) (by rw[aP];exact h)
   rw[aP] at this
   exact this
variable(P:dO G){g:cL}(ok:dz g)
include P
theorem JS{v:cJ}(hk:2<=k)(q:K (.own M.length) (M++[.inst 922 [(2,.sh g.d),(1,v)]])):Nw G k 922 [.sh g.d,v] M K X:=
 tH rfl (P.g3 9) rfl hk (gA rfl rfl rfl ⟨_,rfl,gA rfl rfl rfl ⟨_,rfl,go q⟩⟩)
include ok
theorem Kp{F:LN}(hF:jy g F)(hk:12<=k)(q:∀sts M' v,kM g sts->c7 M' v=some (fy g sts)->K v M'):Cl G k 961 [.own 0] (BM g F []) K X:=
 eL (vs:=[.own 0]) (P.g1 16) rfl hk (gT 3 (ym (r:=0) (t:=0) P dQ (ok.r0.elim λl h=>dc h) (GJ (ker:=[0]) (sts:=[]) P dQ bx (aL _) (λj s h=>(cR h)) λ_=>
  qZ (λs:Nat×List LS=>[some (.own 0),some (.sh (.int (s.1:Nat)))]) (λs=>BM g F s.2) (λs=>lC g F s.1 s.2) (λs=>2^20-s.1) (0,_) (lC.start g F) λs P' b L=>
   mS rfl (Fe s.2) (pV (b.ok.big ok)) (bI (λh=>have h:=aV.mp h
    go (oI (jP rfl (Vm h)) (Nx P ok hF dQ b.ok (aC h) (b.new _ _ (ao _) (aC h)) λO s' gr U ko ex=>L.nx [] (s.1+1,O) ⟨Nat.sub_lt_sub_left (aR h (b.ok.big ok)) (bP _),b.step h gr U ko ex⟩ rfl)))
    λh=>D5 (r:=s.2) (i:=0) (pre:=[_,_,_]) rfl (gZ (j:=1) rfl (NU s.2) (go (JS P dQ (q s.2 _ _ (b.auto ok hF λq=>h (aV.mpr q)) JR))))))))
theorem Ko(hk:16<=k)(q:∀sts,kM g sts->K (.sh (fy g sts)) M):Cl G k 975 [.sh g.d] M K X:=
 dj (P.g1 17) (ds:=[g.d]) rfl (R:=λd=>∃sts,d=fy g sts/\kM g sts) hk (λd h=>h.elim λsts h=>h.1▸q sts h.2)
  (go (tH rfl (P.g2 34) rfl (by decide:10+2<=14) (go (Mu P ok dQ λF hF=>.inr ⟨2,Kp P ok hF dQ λsts M' v au O=>⟨_,O,sts,rfl,au⟩⟩))))
end
structure dD where
rows:List LJ
ZO:List LZ
defs:LN
cf:LD
noncomputable def e6(l:LJ):D:=.list (l.map .int)
noncomputable def jh(l:LZ):D:=.Z7 (l.map λx=>(x.1:Int)) (l.map λx=>D.int (x.2:Int))
def dF(g:cL)(T:dD):D:=.inst 292 [9,10,11,12,13,14,15,2,21,22,23,24,25] [cP g.names,.int g.tc,.list (g.rules.map λx=>.int x.left),.list (g.rules.map λx=>.int x.right.length),.list (g.rules.map λ_=>.int 0),cS T.defs,
 .Z4 (g.names.take g.tc) ((List.range g.tc).map λi:Nat=>.int i),g.d,.list (T.rows.map e6),.list (T.ZO.map jh),.list T.cf,.list [],.str "lalr"]
noncomputable def iA:Nat->LQ->List (Str×cJ)
|_,[]=>[]
|i,s::r=>(s,.sh (.int (i:Int)))::iA (i+1) r
theorem wA:∀(k:Nat)(l:LQ),(iA k l).map (·.1)=l
|_,[]=>rfl
|k,s::r=>aj _ (wA (k+1) r)
theorem HT:∀(k:Nat)(l:LQ)(s:Str),iA k (l++[s])=iA k l++[(s,.sh (.int ((k+l.length:Nat):Int)))]
 |_,[],_=>rfl
 |k,s::r,s'=>by
  show _::iA (k+1) (r++[s'])=_
  rw[HT (k+1) r s',show k+(s::r).length=k+1+r.length by rw[bU];lia];rfl
theorem Vg{M:LB}(l:LQ):data M ((iA 0 l).map (·.2))=some ((List.range l.length).map λi:Nat=>.int i):=by
 have:∀(l:LQ)(k:Nat),(iA k l).map (·.2)=(List.range' k l.length).map λi:Nat=>cJ.sh (.int (i:Int)):=by
  intro l
  induction l with
  |nil=>intro k;rfl
  |cons s r O=>intro k;show _::(iA (k+1) r).map _=_;rw[O,bU,List.range'_succ];rfl
 rw[this,←List.range_eq_range',ig]
def HD(cs:List CE):Sl:=List.rec (motive:=λ_=>Sl) vx (λc cs O=>vw c cs (sm c) O) cs
theorem U5(cs:List CE):w3 cs (HD cs):=by
 induction cs with
 |nil=>exactλ{G k E M K X}h=>h
 |cons c cs O=>exactλ{G k E M K X}h=>((gc c).e h).imp λv M h=>O h
theorem Vp{G:Gd}{k n f2 i j:Nat}{ces:List CE}{r:List CS}{P:dX}{E:Ev}{M:LB}{fs:List (Nat×cJ)}(U:E[i]?=some (some (.own j)))(hM:M[j]?=some (.inst 292 fs))
 (h:HD ces G k E M (λvs M₁=>Cl G k f2 (.own j::vs) M₁ (λ_ O=>Go G k n r E O P) (P.exc E)) (P.exc E)):rD G k n f2 i ces r P E M:=
 .mk U hM (fS.imp (λvs M h p cs st rv=>(h.h p cs st rv).mono (λv σ' y=>y.casesOn λa b c d=>.mk a b c d.h) λσ' x=>x) (U5 ces h))
theorem dz.Zk{g:cL}(ok:dz g):g.tc<=g.names.length:=aH (Nat.lt_trans ok.start.1 ok.start.2)
theorem Vr{G:Gd}{k c f f2 i na j:Nat}{cpre cpost:List CS}{ces:List CE}{tail:List CV}{ds:LD}{R:D->Prop}{M:LB}{K:KT}{X:XT}(hm:mt c 0=some (some f))(O:rh G f cpre f2 i ces cpost na tail)(hl:(ds.map cJ.sh).length+1=na)(hk:j+2<=k)(q:∀d,R d->K (.sh d) M)
 (h:Go G j 1 cpre ((cJ.own 0::ds.map cJ.sh).map some++tail.map tv) [.inst c []] ⟨rD G j 1 f2 i ces cpost ⟨λ_ M'=>cJ.sh .none=.sh .none/\∃d,c7 M' (.own 0)=some d/\R d,λ_ _=>False,λv M'=>v=.sh .none/\∃d,c7 M' (.own 0)=some d/\R d,λ_ _=>False⟩,λ_ _=>False,λv M'=>v=.sh .none/\∃d,c7 M' (.own 0)=some d/\R d,λ_ _=>False⟩):Nw G k c (ds.map .sh) M K X:=
 ⟨mC.pure (R:=R) (Am hm (Fn.up (O hl h.h) hk)) Bm q⟩
theorem Vj{l:LQ}{i:Nat}{x:Str}(hn:l.Nodup)(U:l[i]?=some x):∀y∈iA 0 (l.take i),y.1≠x:=λy hy e=>by
 have:y.1∈(iA 0 (l.take i)).map (·.1):=aB.mpr ⟨y,hy,rfl⟩
 rw[wA,e] at this
 obtain ⟨m,hm,O⟩:=bp.mp this
 rw[List.getElem_take] at O
 rw[bb] at hm
 exact bz (aR hm (cr _ _)) ((b9 (i:=m) (j:=i) (aR hm (Nat.min_le_right _ _)) hn).mp (by rw[aC (aR hm (Nat.min_le_right _ _)),O];exact U.symm))
theorem Vk{l:LQ}{i:Nat}{x:Str}(hn:l.Nodup)(U:l[i]?=some x):dq (iA 0 (l.take i)) x (.sh (.int (i:Int)))=iA 0 (l.take (i+1)):=by
 rw[lR (Vj hn U),take_snoc U,HT,bA,bb,cu (aH (dc U))]
theorem Vh{l:LQ}{i n:Nat}(h:l.length<=n):(iA 0 (l.take i)).length<=n:=by
 have:=aj List.length (wA 0 (l.take i))
 rw[ag] at this
 rw[this];exact ae (bK ..) h
section
variable{G:Gd}{k f n:Nat}{M:LB}{K:KT}{X:XT}(P:dO G){g:cL}(ok:dz g)
include P ok
theorem VV(hk:2<=k){le O U:D}(q:K (.sh .none) [.inst 292 [(9,.sh (cP g.names)),(10,.sh (.int g.tc)),(11,.sh le),(12,.sh O),(13,.sh U),(14,.sh (.list [])),(15,.own 1)],.Z4 (iA 0 (g.names.take g.tc))]):
 Cl G k 142 [.own 0,.sh (cP g.names),.sh (.int g.tc),.sh le,.sh O,.sh U] [.inst 292 []] K X:=
 eL (P.g6 0) rfl hk (go (.inl ⟨[],rfl,1,oI (kB (c3 (ok.ZK ok.Zk)))
  (kx (λ_ (_:List (Str×cJ))=>[some (.own 0),some (.sh (cP g.names)),some (.sh (.int g.tc)),some (.sh le),some (.sh O),some (.sh U),none]) (λ_ s=>[.inst 292 [(9,.sh (cP g.names)),(10,.sh (.int g.tc)),(11,.sh le),(12,.sh O),(13,.sh U),(14,.sh (.list [])),(15,.own 1)],.Z4 s]) (λi s=>s=iA 0 (g.names.take i)) [] rfl
   (λi s P' hi e L=>have hx:=aC (aR hi ok.Zk)
    go (oI (dJ (d:=.str _) ((aA).trans (aj _ hx))) (.Z4 (j:=1) (es:=s) rfl (e▸c3 (Vh (ok.ZK (ao _)))) (L.nx [6] _ (e▸Vk ok.nodup hx) rfl))))
   λs e=>e▸q)⟩))
theorem Td(hk:4<=k){T:dD}(q:K (.sh (dF g T)) M):Nw G k 292 [.sh g.d,.sh (.list (T.rows.map e6)),.sh (.list (T.ZO.map jh)),.sh (cS T.defs),.sh (.list T.cf),.sh (.list []),.sh (.str "lalr")] M K X:=
 have O:g.rules.length<=1000:=ae ok.rules dQ
 Vr (R:=λd=>d=dF g T) (ds:=[g.d,.list (T.rows.map e6),.list (T.ZO.map jh),cS T.defs,.list T.cf,.list [],.str "lalr"]) rfl P.sup rfl hk (λd h=>h▸q) (go (lP (g:=λx:Rl=>.int (x.left:Nat)) o6 O (λi x R U h=>h) (lP (g:=λx:Rl=>.int (x.right.length:Nat)) o6 O (λi x R U h=>se (ae (ok.rule U).1 dQ) h) (lP (g:=λ_:Rl=>.int 0) o6 O (λi x R U h=>h)
  (Vp (j:=0) rfl rfl (VV P ok dQ (gT 7 (gZ (j:=1) (d:=.Z4 (g.names.take g.tc) ((List.range g.tc).map λi:Nat=>.int i)) rfl (by
   show(data _ ((iA 0 (g.names.take g.tc)).map (·.2))).map (D.con (.Z4 ((iA 0 (g.names.take g.tc)).map (·.1))))=_
   rw[Vg,wA,bb,cu ok.Zk];rfl) (go ⟨rfl,_,rfl,rfl⟩)))))))))
end
noncomputable def gj(x:Str):D:=.inst 117 [6,7,5,8] [.str x,.str x,.none,.str x]
section
variable{G:Gd}{k f n:Nat}{M:LB}{K:KT}{X:XT}(P:dO G)
include P
theorem V6{x:Str}(hk:2<=k)(q:K (.sh (gj x)) M):Nw G k 117 [.sh (.str x),.sh (.str x),.sh .none] M K X:=
 lq rfl (P.g4 0) (ds:=[.str x,.str x,.none]) rfl (R:=λd=>d=gj x) hk (λd h=>h▸q) (go ⟨_,rfl,rfl⟩)
theorem Dm{a b c d e:D}(hk:2<=k)(q:K (.sh (.inst 250 [16,17,18,19,20] [a,b,c,d,e])) M):Nw G k 250 [.sh a,.sh b,.sh c,.sh d,.sh e] M K X:=
 lq rfl (P.g6 1) (ds:=[a,b,c,d,e]) rfl (R:=λx=>x=.inst 250 [16,17,18,19,20] [a,b,c,d,e]) hk (λd h=>h▸q) (go ⟨_,rfl,rfl⟩)
theorem NC{a b c d:D}(hk:2<=k)(q:K (.sh (.inst 435 [34,16,35,36] [a,b,c,d])) M):Nw G k 435 [.sh a,.sh b,.sh c,.sh d] M K X:=
 lq rfl (P.g5 0) (ds:=[a,b,c,d]) rfl (R:=λx=>x=.inst 435 [34,16,35,36] [a,b,c,d]) hk (λd h=>h▸q) (go ⟨_,rfl,rfl⟩)
theorem R4{a b c d:D}(hk:2<=k)(q:K (.sh (.inst 463 [37,3,38,30] [a,b,c,d])) M):Nw G k 463 [.sh a,.sh b,.sh c,.sh d] M K X:=
 lq rfl (P.g5 1) (ds:=[a,b,c,d]) rfl (R:=λx=>x=.inst 463 [37,3,38,30] [a,b,c,d]) hk (λd h=>h▸q) (go ⟨_,rfl,rfl⟩)
theorem Hc{nu left:Nat}{right:LN}{lv:Int}(hk:2<=k)(q:K (.sh (Rl.d ⟨left,right,lv⟩ nu)) M):Nw G k 653 [.sh (.int nu),.sh (.int left),.sh (dH right),.sh (.int lv)] M K X:=
 lq rfl (P.g5 2) (ds:=[.int nu,.int left,dH right,.int lv]) rfl (R:=λx=>x=Rl.d ⟨left,right,lv⟩ nu) hk (λd h=>h▸q) (go ⟨_,rfl,rfl⟩)
end
noncomputable def lg(ks:List LJ)(U:LN):D:=.Z2 ks (U.map λi:Nat=>.int i)
structure rk(g:cL)(ks:List LJ)(ms:LN):Prop where
len:ks.length=ms.length
lt:∀m∈ms,m<2^g.tc
theorem Q5{g:cL}{ks:List LJ}{U:LN}(h:rk g ks U)(key:LJ):∃m:Nat,m<2^g.tc/\(c6 (ks.zip ((U.map λi:Nat=>D.int i).map cJ.sh)) key).getD (.sh (.int 0))=.sh (.int m):=by
 obtain ⟨hl,hm⟩:=h
 induction ks generalizing U with
 |nil=>exact⟨0,Nat.two_pow_pos _,rfl⟩
 |cons k ks O=>
  cases U with
  |nil=>exact uh hl
  |cons m U=>
   by_cases e:k=key
   ·refine⟨m,hm m List.mem_cons_self,?_⟩
    unfold c6
    rw[aN,aN,List.zip_cons_cons,List.find?_cons_of_pos (p:=λx:LJ×cJ=>decide (x.1=key)) (aG e)];rfl
   ·obtain ⟨m',h1,h2⟩:=O (bO hl) λx hx=>hm x (cA _ hx)
    refine⟨m',h1,?_⟩
    rw[←h2]
    unfold c6
    rw[aN,aN,List.zip_cons_cons,List.find?_cons_of_neg (p:=λx:LJ×cJ=>decide (x.1=key)) (λq=>e (aD q))]
noncomputable def jr(g:cL)(l:LZ):LZ:=(l.filter λx=>decide (x.1<g.tc)).map λx=>(x.1,if x.1=0 then 2^20 else x.2)
noncomputable def jC(g:cL)(l:LZ):LZ:=l.filter λx=>decide (g.tc<=x.1)
theorem Hw{g:cL}{l:LZ}{x:Nat×Nat}:jr g (l++[x])=jr g l++if x.1<g.tc then[(x.1,if x.1=0 then 2^20 else x.2)] else[]:=by
 unfold jr
 rw[bL,ay]
 by_cases h:x.1<g.tc<;>simp[h]
theorem Er{g:cL}{l:LZ}{x:Nat×Nat}:jC g (l++[x])=jC g l++if g.tc<=x.1 then[x] else[]:=by
 unfold jC
 rw[bL]
 by_cases h:g.tc<=x.1<;>simp[h]
theorem UN{g:cL}{l:LZ}{x:Nat×Nat}(h:x∈jr g l):x.1∈l.map (·.1):=by
 obtain ⟨y,U,rfl⟩:=aB.mp h
 exact aB.mpr ⟨y,(aT.mp U).1,rfl⟩
theorem UO(g:cL)(l:LZ):(jr g l).length<=l.length:=by unfold jr;rw[ag];exact br ..
theorem Fy{l:LZ}{X:Nat}(h:X∉l.map (·.1)):∀x∈eu l,x.1≠(X:Int):=λx U e=>by
 obtain ⟨y,O,rfl⟩:=aB.mp U
 exact h (aB.mpr ⟨y,O,bC.mp e⟩)
theorem FA(l:LZ)(x:Nat×Nat):eu (l++[x])=eu l++[((x.1:Int),.sh (.int (x.2:Int)))]:=by unfold eu;rw[ay];rfl
theorem Rc{l:LZ}(h:(l.map (·.1)).Nodup):((eu l).map (·.1)).Nodup:=by
 unfold eu
 rw[aJ]
 have:=tG h
 rwa [aJ] at this
theorem Rb{l:LZ}{i:Nat}{x:Nat×Nat}(h:l[i]?=some x):(eu l)[i]?=some ((x.1:Int),.sh (.int (x.2:Int))):=by unfold eu;rw[aA,h];rfl
theorem FC(l:LZ):(l.map λx=>(x.1:Int)).zip ((l.map λx=>D.int (x.2:Int)).map cJ.sh)=eu l:=by
 rw[aJ];exact List.zip_map'
theorem Fz{M:LB}(l:LZ):fR M (.Z7 (eu l))=some (jh l):=by
 show(data _ ((eu l).map (·.2))).map (D.con (.Z7 ((eu l).map (·.1))))=_
 unfold eu jh
 rw[xI,aJ];rfl
theorem E1{a b:Nat}{l:LN}(e:a=b)(h:a∈l):b∈l:=e▸h
noncomputable def jD(x:Nat×Nat):D:=.list [.int (x.1:Int),.int (x.2:Int)]
def hG(g:cL)(i:Nat)(sh gt looks:LZ):D:=.inst 344 [2,28,29,22,31,33,24] [g.d,.int (i:Int),jh sh,jh gt,.list (looks.map jD),.int 0,.list []]
theorem yL{M:LB}{l:LZ}{j:Nat}{y:Nat×Nat}(nd:(l.map (·.1)).Nodup)(U:l[j]?=some y):fX M (.sh (jh l)) (.sh (.int (y.1:Int)))=some (.sh (.int (y.2:Int))):=by
 show(some (y.1:Int)).bind (c6 ((l.map λx=>(x.1:Int)).zip ((l.map λx=>D.int (x.2:Int)).map cJ.sh)))=_
 rw[FC]
 exact og (Rc nd) (Rb U)
theorem Gu{l:LZ}{j:Nat}{y:Nat×Nat}(nd:(l.map (·.1)).Nodup)(hy:l[j]?=some y):y.1∉(l.take j).map (·.1):=λhm=>by
 rw[List.map_take] at hm
 obtain ⟨m,hm,U⟩:=bp.mp hm
 rw[List.getElem_take] at U
 rw[bb] at hm
 have O:=aR hm (Nat.min_le_right _ _)
 exact bz (aR hm (cr _ _)) ((b9 (i:=m) (j:=j) O nd).mp (by rw[aC O,U,aA,hy];rfl))
structure j5(g:cL)(l:LZ)(j:Nat)(a b:List (Int×cJ)):Prop where
sh:a=eu (jr g (l.take j))
gt:b=eu (jC g (l.take j))
section
variable{g:cL}{l:LZ}{j:Nat}{y:Nat×Nat}{a b:List (Int×cJ)}
theorem j5.Y8(r:j5 g l j a b)(hl:l.length<=1000):a.length<=mx:=by rw[r.sh,yJ];exact c3 (ae (UO ..) (ae (bK ..) hl))
theorem j5.YQ(r:j5 g l j a b)(hl:l.length<=1000):b.length<=mx:=by rw[r.gt,yJ];exact c3 (ae (br ..) (ae (bK ..) hl))
theorem j5.Y4(r:j5 g l j a b)(nd:(l.map (·.1)).Nodup)(U:l[j]?=some y)(ht:y.1<g.tc){v:Int}(hv:v=((if y.1=0 then 2^20 else y.2:Nat):Int)):j5 g l (j+1) (dq a (y.1:Int) (.sh (.int v))) b:=by
 refine⟨?_,?_⟩
 ·rw[r.sh,hv,lR (Fy λh=>Gu nd U ((aB.mp h).elim λz h=>E1 h.2 (UN h.1))),take_snoc U,Hw,al ht,FA]
 ·rw[r.gt,take_snoc U,Er,av (Nat.not_le.mpr ht),aS]
theorem j5.put2(r:j5 g l j a b)(nd:(l.map (·.1)).Nodup)(U:l[j]?=some y)(ht:¬y.1<g.tc):j5 g l (j+1) a (dq b (y.1:Int) (.sh (.int (y.2:Int)))):=by
 refine⟨?_,?_⟩
 ·rw[r.sh,take_snoc U,Hw,av ht,aS]
 ·rw[r.gt,lR (Fy (l:=jC g (l.take j)) λh=>Gu nd U ((aB.mp h).elim λz h=>E1 h.2 (aB.mpr ⟨z,(aT.mp h.1).1,rfl⟩))),take_snoc U,Er,al (Nat.le_of_not_lt ht),FA]
end
structure mA(g:cL)(s:LS)(j:Nat)(looks:LZ):Prop where
ks:looks.map (·.1)=s.ZZ.take j
lt:∀x∈looks,x.2<2^g.tc
theorem mA.len{g:cL}{s:LS}{j:Nat}{looks:LZ}(h:mA g s j looks)(hr:s.ZZ.length<=7):(looks.map λx=>cJ.sh (jD x)).length<=mx:=by
 have:=aj List.length h.ks
 rw[ag] at this
 rw[ag,this]
 exact c3 (ae (bK ..) (ae hr dQ))
theorem mA.put{g:cL}{s:LS}{j r m:Nat}{looks:LZ}(h:mA g s j looks)(hr:s.ZZ[j]?=some r)(hm:m<2^g.tc):mA g s (j+1) (looks++[(r,m)]):=
 ⟨by rw[ay,h.ks,take_snoc hr];rfl,λx U=>(aI.mp U).elim (h.lt x) λU=>aF.mp U▸hm⟩
inductive uu(g:cL)(s:LS)(j:Nat):LV->Prop
|mk (looks:LZ):mA g s j looks->uu g s j (looks.map λx=>.sh (jD x))
theorem mA.pu{g:cL}{s:LS}{j r m:Nat}{looks:LZ}(h:mA g s j looks)(hr:s.ZZ[j]?=some r)(hm:m<2^g.tc):uu g s (j+1) ((looks.map λx=>.sh (jD x))++[.sh (.list [.int (r:Int),.int (m:Int)])]):=by
 have:=uu.mk _ (h.put hr hm)
 rwa [ay] at this
theorem QW{M:LB}(looks:LZ):fR M (.list (looks.map λx=>.sh (jD x)))=some (.list (looks.map jD)):=by
 show(data M (looks.map λx=>.sh (jD x))).map D.list=_
 rw[ig];rfl
section
variable{G:Gd}{k f n:Nat}{M:LB}{K:KT}{X:XT}(P:dO G){g:cL}(ok:dz g)
include P ok
theorem Ur{i:Nat}{s:LS}{ks:List LJ}{U:LN}(hk:2<=k)(ho:rk g ks U)(nd:(s.moves.map (·.1)).Nodup)(hl:s.moves.length<=1000)(hr:s.ZZ.length<=7)
 (q:∀looks:LZ,looks.map (·.1)=s.ZZ->(∀x∈looks,x.2<2^g.tc)->K (.sh (hG g i (jr g s.moves) (jC g s.moves) looks)) M):Nw G k 344 [.sh g.d,.sh (s.d i),.sh (lg ks U)] M K X:=
 lq rfl (P.g4 1) (ds:=[g.d,s.d i,lg ks U]) rfl (R:=λd=>∃looks:LZ,d=hG g i (jr g s.moves) (jC g s.moves) looks/\looks.map (·.1)=s.ZZ/\∀x∈looks,x.2<2^g.tc) hk (λd h=>h.elim λl h=>h.1▸q l h.2.1 h.2.2)
  (gT 9 ⟨0,0,dZ (l:=s.moves) (λ_ (_:List (Int×cJ)×List (Int×cJ))=>[some (.own 0),some (.sh g.d),some (.sh (s.d i)),some (.sh (lg ks U)),none,none]) (λ_ t=>[.inst 344 [(2,.sh g.d),(28,.sh (.int (i:Int))),(29,.own 1),(22,.own 2)],.Z7 t.1,.Z7 t.2])
   (λj t=>j5 g s.moves j t.1 t.2) ([],[]) ⟨rfl,rfl⟩ vD
   (λj y t P' O r L=>go (bI (λh0=>.Z7 (j:=1) (es:=t.1) rfl (r.Y8 hl) (L.nx [4] (_,t.2) (r.Y4 nd O (bC.mp h0▸aR dQ ok.tc) (by rw[al (bC.mp h0)];rfl)) rfl))
    λh0=>bI (λh1=>oI (yL nd O) (.Z7 (j:=1) (es:=t.1) rfl (r.Y8 hl) (L.nx [4] (_,t.2) (r.Y4 nd O (aV.mp h1) (by rw[av λe=>h0 (aj Int.ofNat e)])) rfl)))
     λh1=>oI (yL nd O) (.Z7 (j:=2) (es:=t.2) rfl (r.YQ hl) (L.nx [4] (t.1,dq t.2 (y.1:Int) (.sh (.int (y.2:Int)))) (r.put2 nd O λe=>h1 (aV.mpr e)) rfl))))
   λt r=>.inr (dZ (l:=s.ZZ) (λ_ (_:LV)=>[some (.own 0),some (.sh g.d),some (.sh (s.d i)),some (.sh (lg ks U)),none,none]) (λ_ vs=>[.inst 344 [(2,.sh g.d),(28,.sh (.int (i:Int))),(29,.own 1),(22,.own 2),(31,.own 3)],.Z7 t.1,.Z7 t.2,.list vs])
    (λj vs=>uu g s j vs) [] ⟨[],rfl,λx h=>(dh h)⟩ dG
    (λj r vs P' hr' h L=>h.casesOn λlooks h=>(Q5 ho [(i:Int),(r:Int)]).elim λm hm=>go (.Zc rfl rfl (by
     rw[hm.2]
     exact .inl ⟨_,rfl,app (j:=3) rfl (h.len hr) (L.nx [5] _ (h.pu hr' hm.1) rfl)⟩)))
    λvs h=>h.casesOn λlooks h=>.inl ⟨[],rfl,gZ (j:=1) rfl (by rw[r.sh,hH];exact Fz _) (gZ (j:=2) rfl (by rw[r.gt,hH];exact Fz _) (gZ (j:=3) rfl (QW looks) (go ⟨_,rfl,looks,rfl,by rw[h.ks,hH],h.lt⟩)))⟩)⟩)
end
theorem C0(i n:Nat):mI (i:Int) n=min i n:=by unfold mI;rw[av (Int.not_lt.mpr (bj i)),cq]
theorem MW{α:Type}(xs:List α)(i:Nat):lQ xs (some (i:Int)) none=xs.drop i:=by
 show(xs.drop (mI (i:Int) xs.length)).take (xs.length-mI (i:Int) xs.length)=_
 rw[C0]
 rcases Nat.le_total i xs.length with h|h
 ·rw[cu h]
  exact cz (by rw[cb];exact ao _)
 ·rw[Nat.min_eq_right h,List.drop_eq_nil_of_le (ao _),List.drop_eq_nil_of_le h,List.take_nil]
theorem MX{α:Type}(xs:List α)(i:Nat):lQ xs none (some (i:Int))=xs.take i:=by
 show(xs.drop 0).take (mI (i:Int) xs.length-0)=_
 rw[C0,Nat.sub_zero,List.drop_zero]
 rcases Nat.le_total i xs.length with h|h
 ·rw[cu h]
 ·rw[Nat.min_eq_right h,List.take_length,cz h]
noncomputable def jX(l:LJ):LV:=l.map λi=>.sh (.int i)
theorem Wp(l:LJ):(jX l).length=l.length:=ag _
theorem Wq(l:LJ)(i:Nat)(v:Int):(jX l).set i (.sh (.int v))=jX (l.set i v):=by unfold jX;rw[List.map_set]
theorem NW{M:LB}{j:Nat}{l:LJ}(hm:M[j]?=some (.list (jX l))):c7 M (.own j)=some (e6 l):=u5 _ hm
theorem qg{l:LJ}{i:Nat}{v:Int}(h:l[i]?=some v):(l.map D.int)[i]?=some (.int v):=by rw[aA,h];rfl
def xa(looks sh:LZ)(t:Nat)(v:Int):Prop:=v=0∨(∃x∈looks,v=-(x.1:Int))∨∃q,(t,q)∈sh/\v=(q:Int)
def kR(looks sh:LZ)(n:Nat)(row:LJ):Prop:=row.length=n/\∀(t:Nat)(v:Int),row[t]?=some v->xa looks sh t v
theorem kR.set{looks sh:LZ}{n t:Nat}{row:LJ}{v:Int}(h:kR looks sh n row)(hv:xa looks sh t v):kR looks sh n (row.set t v):=by
 refine⟨by rw[bc];exact h.1,λu z U=>?_⟩
 rw[List.getElem?_set] at U
 split at U
 ·rename_i e;subst e
  split at U
  ·cases U;exact hv
  ·exact cR U
 ·exact h.2 u z U
theorem Kj{m n b:Nat}(h:m<2^n)(hb:b∈gP m):b<n:=Nat.lt_of_not_le λq=>by
 have:=Nat.ge_two_pow_of_testBit (yH.mp hb)
 have:=cF (n:=2) dQ q
 lia
theorem Fk{looks:LZ}(i:Nat):(looks.map jD)[i]?=(looks[i]?).map ((λ_ x=>jD x) i):=aA
theorem Un{looks:LZ}(i:Nat):(looks.map jD).reverse[i]?=(looks.reverse[i]?).map ((λ_ x=>jD x) i):=by rw[←List.map_reverse];exact aA
theorem Ue{M:LB}{K:KT}{n:Nat}{v:Int}(h:n<=1000)(q:K (.own M.length) (M++[.list (jX (List.replicate n v))])):uA (n:Int) (.sh (.int v)) M K:=
 ⟨bj _,b7.mpr (ae h dQ),.inr (by rw[cq,←List.map_replicate (f:=λi:Int=>cJ.sh (.int i))];exact q)⟩
theorem stI{M:LB}{K:XT}{i j:Nat}{v:Int}{l:LJ}(hm:M[j]?=some (.list (jX l)))(hi:i<l.length)(q:K (M.set j (.list (jX (l.set i v))))):iS M K (.sh (.int v)) (.own j) (.sh (.int (i:Int))):=by
 refine .list hm (bj _) (by rw[Wp];exact aV.mpr hi) ?_
 rw[cq,Wq];exact q
theorem Ez{es:List (Int×cJ)}{z:Int}{y:cJ}{M:LB}{K:Bool->Prop}(hv:view M y=some (.Z7 es))(a:K true)(b:K false):fq M K (.sh (.int z)) y .In:=
 .has (.di hv) (by
  cases (c6 es z).isSome with
  |true=>exact a
  |false=>exact b)
theorem kR.start{looks sh:LZ}{n:Nat}:kR looks sh n (List.replicate n 0):=⟨bv,λt v h=>by rw[List.getElem?_replicate] at h;split at h<;>cases h;exact .inl rfl⟩
section
variable{G:Gd}{k f n:Nat}{M:LB}{K:KT}{X:XT}(P:dO G){g:cL}(ok:dz g)
include P
theorem UK{r t:Nat}{x:Rl}(hk:2<=k)(hr:g.rules[r]?=some x)(q:K (.sh .none) M):Cl G k 301 [.sh g.d,.sh (.int (r:Int)),.sh (.int (t:Int))] M K X:=
 dj (P.g3 3) (ds:=[g.d,.int (r:Int),.int (t:Int)]) rfl (R:=λd=>d=.none) hk (λd h=>h▸q)
  (go (oI (dJ (tS hr)) (.Zn (es:=[]) rfl (.Zn (es:=[]) rfl ⟨_,rfl,rfl⟩))))
include ok
variable{i:Nat}{sh gt looks:LZ}(hm:∀x∈looks,x.2<2^g.tc)
include hm
theorem CZ{x:Nat×Nat}{K:KT}{M:LB}{X:XT}(hk:2<=k)(U:x∈looks)(q:K (.sh (cS (gP x.2))) M):Cl G k 128 [.sh (.int (x.2:Int))] M K X:=
 xk P hk (aR (hm x U) (cF dQ (ae ok.ZN dQ))) q
theorem UL(hk:6<=k)(hr:∀x∈looks,x.1<g.rules.length)(q:K (.sh .none) M):Cl G k 322 [.sh (hG g i sh gt looks)] M K X:=
 dj (P.g1 1) (ds:=[hG g i sh gt looks]) rfl (R:=λd=>d=.none) hk (λd h=>h▸q)
  (go (dZ (l:=looks) (λ_ (_:Unit)=>[some (.sh (hG g i sh gt looks)),none,none,none]) (λ_ _=>[]) (λ_ _=>True) () trivial Fk
   (λj x _ P' U _ L=>go (CZ P ok hm dQ (ax U) (dZ (l:=gP x.2) (λ_ (_:Unit)=>[some (.sh (hG g i sh gt looks)),some (.sh (jD x)),none,none]) (λ_ _=>[]) (λ_ _=>True) () trivial dG
    (λj t _ P' O _ L=>go (Ez (es:=(sh.map λx=>(x.1:Int)).zip ((sh.map λx=>D.int (x.2:Int)).map cJ.sh)) rfl (UK P dQ (aC (hr x (ax U))) (L.nx [2,3] () trivial rfl)) (L.nx [2,3] () trivial rfl)))
    λ_ _=>L.nx [1,2,3] () trivial rfl)))
   λ_ _=>rfl))
theorem Uq(hk:6<=k)(hs:∀x∈sh,x.1<g.tc)(nd:(sh.map (·.1)).Nodup)(q:∀row,kR looks sh g.tc row->K (.sh (e6 row)) M):Cl G k 336 [.sh (hG g i sh gt looks)] M K X:=
 dj (P.g1 2) (ds:=[hG g i sh gt looks]) rfl (R:=λd=>∃row,d=e6 row/\kR looks sh g.tc row) hk (λd h=>h.elim λrow h=>h.1▸q row h.2)
  (go (Ue (ae ok.ZN dQ) (dZ (l:=looks.reverse) (λ_ (_:LJ)=>[some (.sh (hG g i sh gt looks)),some (.own 0),none,none]) (λ_ row=>[.list (jX row)]) (λ_ row=>kR looks sh g.tc row) _ .start Un
   (λj x row P' hx h L=>have O:=List.mem_reverse.mp (ax hx)
    go (CZ P ok hm dQ O (dZ (l:=gP x.2) (λ_ (_:LJ)=>[some (.sh (hG g i sh gt looks)),some (.own 0),some (.sh (jD x)),none]) (λ_ row=>[.list (jX row)]) (λ_ row=>kR looks sh g.tc row) row h dG
     (λj t row P' ht h L=>go (stI rfl (by rw[h.1];exact Kj (hm x O) (ax ht)) (L.nx [3] _ (h.set (.inr (.inl ⟨x,O,rfl⟩))) rfl)))
     λrow h=>L.nx [2,3] row h rfl)))
   λrow h=>dZ (l:=sh) (λ_ (_:LJ)=>[some (.sh (hG g i sh gt looks)),some (.own 0),none,none]) (λ_ row=>[.list (jX row)]) (λ_ row=>kR looks sh g.tc row) row h vD
    (λj y row P' hy h L=>have U:=ax hy
     go (oI (yL nd hy) (stI rfl (by rw[h.1];exact hs y U) (L.nx [3] _ (h.set (.inr (.inr ⟨y.2,U,rfl⟩))) rfl))))
    λrow h=>xk (m:=0) P dQ (Nat.two_pow_pos _) (dZ (l:=([]:LN)) (f:=λ_ i=>.int (i:Int)) (λ_ (_:Unit)=>[some (.sh (hG g i sh gt looks)),some (.own 0),none,none]) (λ_ _=>[.list (jX row)]) (λ_ _=>True) () trivial (λ_=>rfl)
     (λj x _ P' hx=>(cR hx)) λ_ _=>⟨_,NW rfl,row,rfl,h⟩))))
end
noncomputable def oz(es:List (Int×Int))(k v:Int):List (Int×Int):=if es.any λx=>decide (x.1=k) then es.map (λx=>if x.1=k then(x.1,v) else x) else es++[(k,v)]
noncomputable def ju(es:List (Int×Int)):List (Int×cJ):=es.map λx=>(x.1,.sh (.int x.2))
theorem Wo(es:List (Int×Int))(k v:Int):dq (ju es) k (.sh (.int v))=ju (oz es k v):=by
 unfold dq oz ju
 rw[List.any_map]
 show(if(es.any λx=>decide (x.1=k))=true then _ else _)=_
 split
 ·rw[aJ,aJ]
  refine cx λx _=>?_
  show(if x.1=k then(x.1,cJ.sh (.int v)) else _)=_
  show _=(λx:Int×Int=>(x.1,cJ.sh (.int x.2))) (if x.1=k then(x.1,v) else x)
  split<;>rfl
 ·rw[ay];rfl
theorem BG{es:List (Int×Int)}{k:Int}(h:k∈es.map (·.1)):∃v,c6 (ju es) k=some (.sh (.int v)):=by
 induction es with
 |nil=>exact dh h
 |cons x es O=>
  by_cases e:x.1=k
  ·exact⟨x.2,by unfold c6 ju;rw[aN,List.find?_cons_of_pos (p:=λy:Int×cJ=>decide (y.1=k)) (aG e)];rfl⟩
  ·obtain ⟨v,U⟩:=O ((aM.mp h).resolve_left (Ne.symm e))
   exact⟨v,by unfold c6 ju at U⊢;rw[aN,List.find?_cons_of_neg (p:=λy:Int×cJ=>decide (y.1=k)) (λq=>e (aD q))];exact U⟩
theorem Wn(es:List (Int×Int))(k:Int):∃v,(c6 (ju es) k).getD (.sh (.int 0))=.sh (.int v):=by
 by_cases h:k∈es.map (·.1)
 ·obtain ⟨v,U⟩:=BG h
  exact⟨v,by rw[U];rfl⟩
 ·rw[uY λx O e=>?_]
  ·exact⟨0,rfl⟩
  ·obtain ⟨y,hy,rfl⟩:=aB.mp O
   exact h (aB.mpr ⟨y,hy,e⟩)
theorem EL{es:List (Int×Int)}{k v:Int}:(k∈es.map (·.1)->(oz es k v).map (·.1)=es.map (·.1))/\(k∉es.map (·.1)->(oz es k v).map (·.1)=es.map (·.1)++[k]):=by
 unfold oz
 refine⟨λh=>?_,λh=>?_⟩
 ·obtain ⟨x,U,e⟩:=aB.mp h
  rw[al (List.any_eq_true.mpr ⟨x,U,aG e⟩),aJ]
  refine cx λy _=>?_
  show(if y.1=k then(y.1,v) else y).1=_
  split<;>rfl
 ·rw[av λq=>?_,ay]
  ·rfl
  ·obtain ⟨x,U,e⟩:=List.any_eq_true.mp q
   exact h (aB.mpr ⟨x,U,aD e⟩)
theorem wx{M:LB}{K:KT}{x:cJ}{i:Nat}{ds:LD}(U:c7 M x=some (.list ds))(hl:ds.length<=mx)(q:iY (ds.drop i) M K):fU M K x (some (.sh (.int (i:Int)))) none:=
 .list (l:=some (i:Int)) (h:=none) rfl rfl U hl (by rw[MW];exact q)
theorem HB{M:LB}{K:KT}{x:cJ}{i:Nat}{ds:LD}(U:c7 M x=some (.list ds))(hl:ds.length<=mx)(q:iY (ds.take i) M K):fU M K x none (some (.sh (.int (i:Int)))):=
 .list (l:=none) (h:=some (i:Int)) rfl rfl U hl (by rw[MX];exact q)
theorem UZ{M:LB}{K:KT}{i:Nat}{l:LN}(hl:l.length<=1000)(q:K (.sh (cS (l.drop i))) M):fU M K (.sh (cS l)) (some (.sh (.int (i:Int)))) none:=
 wx rfl (by rw[ag];exact c3 hl) (.inl (by rw[←List.map_drop];exact q))
noncomputable def m8(t:Nat)(looks:LZ):LN:=(looks.filter λx=>decide (Builtin.bitAnd (x.2:Int) ((2^t:Nat):Int)≠0)).map (·.1)
noncomputable def qR(t:Nat)(x:Nat×Nat):Option D:=if Builtin.bitAnd (x.2:Int) ((2^t:Nat):Int)≠0 then some (.int (x.1:Int)) else none
theorem Ux(t:Nat)(looks:LZ):looks.filterMap (qR t)=(m8 t looks).map λi:Nat=>D.int i:=by
 unfold m8
 induction looks with
 |nil=>rfl
 |cons x r U=>
  by_cases O:Builtin.bitAnd (x.2:Int) ((2^t:Nat):Int)≠0
  ·rw[List.filterMap_cons_some (show qR t x=some (.int (x.1:Int)) from al O),List.filter_cons_of_pos (p:=λx:Nat×Nat=>decide (Builtin.bitAnd (x.2:Int) ((2^t:Nat):Int)≠0)) (aG O),U];rfl
  ·rw[List.filterMap_cons_none (show qR t x=none from av O),cC (p:=λx:Nat×Nat=>decide (Builtin.bitAnd (x.2:Int) ((2^t:Nat):Int)≠0)) (λq=>O (aD q)),U]
theorem Uw(t:Nat)(looks:LZ):(m8 t looks).length<=looks.length:=by unfold m8;rw[ag];exact br ..
noncomputable def oh(row:LJ)(r:Int):LJ:=row.map λn=>if n=-r then 0 else n
inductive jw(m:Nat):LV->Prop
|mk (ds:LD):ds.length<=m->jw m (ds.map .sh)
theorem jw.snoc{m O:Nat}{vs:LV}(c:jw m vs)(d:D)(h:m+1<=O):jw O (vs++[.sh d]):=c.casesOn λds hl=>by
 have:=jw.mk (m:=O) (ds++[d]) (by rw[ak];exact ae (aK hl) h)
 rwa [ay] at this
theorem jw.mono{m O:Nat}{vs:LV}(c:jw m vs)(h:m<=O):jw O vs:=c.casesOn λds hl=>⟨ds,ae hl h⟩
theorem jw.len{m:Nat}{vs:LV}(c:jw m vs)(h:m<=1000):vs.length<=mx:=c.casesOn λds hl=>by rw[ag];exact c3 (ae hl h)
inductive jF(row:LJ)(j:Nat):List (Int×cJ)->Prop
|mk (es:List (Int×Int)):(es.map (·.1)).Nodup->es.length<=j->(∀k∈es.map (·.1),0<k/\-k∈row)->jF row j (ju es)
theorem jF.skip{row:LJ}{j:Nat}{d:List (Int×cJ)}(h:jF row j d):jF row (j+1) d:=h.casesOn λes a b c=>⟨es,a,bW b,c⟩
theorem jF.len{row:LJ}{j:Nat}{d:List (Int×cJ)}(h:jF row j d)(U:j<=1000):d.length<=mx:=h.casesOn λes a b c=>by unfold ju;rw[ag];exact c3 (ae b U)
theorem jF.put{row:LJ}{j:Nat}{d:List (Int×cJ)}{n v:Int}(h:jF row j d)(h3:n<0)(hn:n∈row):jF row (j+1) (dq d (-n) (.sh (.int v))):=h.casesOn λes nd U hin=>by
 rw[Wo]
 have kl:(oz es (-n) v).length=((oz es (-n) v).map (·.1)).length:=(ag _).symm
 by_cases hk:-n∈es.map (·.1)
 ·have e:=EL (v:=v)|>.1 hk
  exact⟨_,e▸nd,by rw[kl,e,ag];exact bW U,λk O=>hin k (e▸O)⟩
 ·have e:=EL (v:=v)|>.2 hk
  refine⟨_,e▸bH.mpr ⟨nd,bR.mpr ⟨λh=>(dh h),bx⟩,λa ha b hb e=>hk (by rw[←aF.mp hb,←e];exact ha)⟩,by rw[kl,e,ak,ag];exact aK U,λk O=>?_⟩
  rw[e] at O
  exact(aI.mp O).elim (hin k) λh=>by rw[aF.mp h,Int.neg_neg];exact⟨Int.neg_pos_of_neg h3,hn⟩
theorem jF.get{row:LJ}{j:Nat}{d:List (Int×cJ)}(h:jF row j d)(k:Int):∃v,(c6 d k).getD (.sh (.int 0))=.sh (.int v):=h.casesOn λes _ _ _=>Wn es k
theorem Mo{t:Nat}{l:LN}(h:l.length<=7):7*t+1+(l.drop 1).length<=7*(t+1):=by
 rw[cb]
 exact bq (Nat.sub_le_sub_right h 1) (7*t+1)
section
variable{G:Gd}{k f n:Nat}{M:LB}{K:KT}{X:XT}(P:dO G){g:cL}(ok:dz g)
include P
theorem WC{row:LJ}{r:Int}(hk:2<=k)(hl:row.length<=1000)(q:K (.sh (e6 (oh row r))) M):Cl G k 360 [.sh (e6 row),.sh (.int r)] M K X:=
 dj (P.g2 8) (ds:=[e6 row,.int r]) rfl (R:=λd=>d=e6 (oh row r)) hk (λd h=>h▸q)
  (go (lP (l:=row) (g:=λn=>.int (if n=-r then 0 else n)) dG hl (λi n R hn h=>bI (λe=>by rw[al e] at h;exact h) λe=>by rw[av e] at h;exact h) ⟨_,rfl,aj D.list (by unfold oh;rw[aJ];rfl)⟩))
theorem M8{row:LJ}(hk:2<=k)(h2:2<=row.length)(hl:row.length<=40)(q:∀r:Int,r=0∨(0<r/\-r∈row)->K (.sh (.int r)) M):Cl G k 355 [.sh (e6 row)] M K X:=
 dj (P.g1 3) (ds:=[e6 row]) rfl (R:=λd=>∃r,d=.int r/\(r=0∨(0<r/\-r∈row))) hk (λd h=>h.elim λr h=>h.1▸q r h.2)
  (go (oI (dJ (i:=1) (qg (aC h2))) (bI (λ_=>⟨_,rfl,0,rfl,.inl rfl⟩) λ_=>⟨0,
   dZ (l:=row) (λ_ (_:List (Int×cJ))=>[some (.sh (e6 row)),some (.own 0),none,none,none]) (λ_ d=>[.Z7 d]) (λj d=>jF row j d) [] ⟨[],bx,ao _,λk h=>(dh h)⟩ dG
    (λj n d P' hn h L=>go (bI (λh1=>bI (λh3=>(h.get (-n)).elim λv U=>.Zo rfl (by
     rw[U]
     exact .Z7 (j:=0) (es:=d) rfl (h.len (ae (aH (dc hn)) (ae hl dQ))) (L.nx [2] _ (h.put h3 (ax hn)) rfl)))
     λ_=>L.nx [2] d h.skip rfl) λ_=>L.nx [2] d h.skip rfl))
    λd h=>h.casesOn λes nd hle hin=>.sorted (is:=es.map (·.1)) (by rw[ag];exact aX hle (aX hl dQ)) (.inr (.inr ⟨ju es,rfl,by unfold ju;rw[aJ];rfl⟩)) (.inl
     (dZ (l:=lW (es.map (·.1))) (λ_ (b:Int)=>[some (.sh (e6 row)),some (.own 0),none,some (.sh (.int b)),none]) (λ_ _=>[.Z7 (ju es)]) (λ_ b=>b=0∨b∈es.map λx:Int×Int=>x.1) 0 (.inl rfl) dG
      (λj n b P' hn hb L=>have O:=(vg _).mem_iff.mp (ax hn)
       go (bI (λh0=>L.nx [4] n (.inr O) rfl) λh0=>(BG O).elim λv U=>(BG (hb.resolve_left h0)).elim λu hu=>
        oI (show(some n).bind (c6 (ju es))=_ from U) (oI (show(some b).bind (c6 (ju es))=_ from hu) (bI (λ_=>L.nx [4] n (.inr O) rfl) λ_=>L.nx [4] b hb rfl))))
      λb hb=>⟨_,rfl,b,rfl,hb.imp id λh=>hin b h⟩))⟩)))
include ok
theorem MR{i:Nat}{sh gt looks:LZ}{row:LJ}(hk:4<=k)(hr:row.length=g.tc)(hl:looks.length<=7)(q:∀ds:LD,ds.length<=56->K (.sh (.list ds)) M):Cl G k 341 [.sh (hG g i sh gt looks),.sh (e6 row)] M K X:=
 have U:=ok.ZN
 dj (P.g2 7) (ds:=[hG g i sh gt looks,e6 row]) rfl (R:=λd=>∃ds:LD,d=.list ds/\ds.length<=56) hk (λd h=>h.elim λds h=>h.1▸q ds h.2)
  (go (.inr (oI (kB (c3 (ae U dQ))) (kx (λ_ (_:LV)=>[some (.sh (hG g i sh gt looks)),some (.sh (e6 row)),some (.own 0),none,none,none,none]) (λ_ vs=>[.list vs]) (λt vs=>jw (7*t) vs) [] (.mk [] (aL _))
   (λt vs P' ht c L=>have hv:=aC (hr▸ht:t<row.length)
    have O:7*t<=49:=bS 7 (Nat.le_of_lt_succ (aR ht U))
    have hs:=ae (Uw t looks) hl
    jn 2 (λ(_:LV)=>[some (.sh (hG g i sh gt looks)),some (.sh (e6 row)),some (.own 0),some (.sh (.int (t:Int))),some (.sh (cS (m8 t looks))),none,none]) (λvs=>[.list vs]) (λvs=>jw (7*t+1) vs)
     (λN nx=>xq (l:=looks) (g:=qR t) Fk (ae hl dQ) (λj x R hx h=>oI (pU (ae (aH ht) (ae U dQ))) (bI (λe=>by rw[show qR t x=_ from al e] at h;exact h) λe=>by rw[show qR t x=_ from av e] at h;exact h))
      (by
       rw[Ux]
       exact bB (λ_=>Ez (es:=(sh.map λx=>(x.1:Int)).zip ((sh.map λx=>D.int (x.2:Int)).map cJ.sh)) rfl
        (.tuple rfl (by rw[ag];exact c3 (ae hs dQ)) (oI (dJ (qg hv)) (Dm P dQ (app rfl (c.len (ae O dQ)) (nx [] _ (c.snoc _ (ao _)) rfl)))))
        (nx [] _ (c.mono (aU _)) rfl)) λ_=>nx [] _ (c.mono (aU _)) rfl))
     λvs c=>go (UZ (i:=1) (ae hs dQ) (dZ (l:=(m8 t looks).drop 1) (λ_ (_:LV)=>[some (.sh (hG g i sh gt looks)),some (.sh (e6 row)),some (.own 0),some (.sh (.int (t:Int))),some (.sh (cS (m8 t looks))),none,none]) (λ_ vs=>[.list vs]) (λj vs=>jw (7*t+1+j) vs) vs c dG
      (λj r vs P' hr' c L'=>have hj:j<(m8 t looks).length-1:=by have:=dc hr';rwa [cb] at this
       go (oI (dJ (i:=0) (iw (j9 (aR (aX (aL _) hj) (Nat.sub_le _ _))))) (oI (dJ (qg hv)) (Dm P dQ (app rfl (c.len (ae (bw (aK O) (ae (aH hj) (ae (Nat.sub_le _ _) hs))) dQ)) (L'.nx [5,6] _ (c.snoc _ (ao _)) rfl))))))
      λvs c=>L.nx [3,4] vs (c.mono (Mo hs)) rfl)))
   λvs c=>c.casesOn λds hl=>⟨_,by show(data _ (ds.map .sh)).map D.list=_;rw[rQ];rfl,ds,rfl,ae hl (bS 7 U)⟩))))
end
def EV(s:LS)(t:Nat)(v:Int):Prop:=v=0∨(∃r∈s.ZZ,v=-(r:Int))∨(t=0/\v=2^20/\∃q,s.moves.lookup 0=some q)∨(t≠0/\∃q:Nat,s.moves.lookup t=some q/\v=(q:Int))
structure Cz(g:cL)(s:LS)(row:LJ)(gt:LZ)(d:Nat):Prop where
len:row.length=g.tc
ev:∀(t:Nat)(v:Int),row[t]?=some v->EV s t v
gt:gt=jC g s.moves
df:d=0∨d∈s.ZZ
structure uE(g:cL)(sts:List LS)(T:dD):Prop where
l1:T.rows.length=sts.length
l2:T.ZO.length=sts.length
l3:T.defs.length=sts.length
at_:∀(i:Nat)(s:LS)(row:LJ)(gt:LZ)(d:Nat),sts[i]?=some s->T.rows[i]?=some row->T.ZO[i]?=some gt->T.defs[i]?=some d->Cz g s row gt d
theorem QY{l:LZ}{x:Nat×Nat}(nd:(l.map (·.1)).Nodup)(h:x∈l):l.lookup x.1=some x.2:=by
 induction l with
 |nil=>exact dh h
 |cons y l O=>
  obtain ⟨U,h2⟩:=bR.mp nd
  rw[bQ]
  rcases aM.mp h with e|h
  ·rw[←e,ck]
  ·have:(x.1==y.1)=false:=by
    simp only[beq_eq_false_iff_ne]
    exactλe=>U (by show y.1∈_;rw[←e];exact aB.mpr ⟨x,h,rfl⟩)
   rw[this];exact O h2 h
theorem Nt{g:cL}{s:LS}{looks:LZ}{t:Nat}{v:Int}(nd:(s.moves.map (·.1)).Nodup)(hl:looks.map (·.1)=s.ZZ)(h:xa looks (jr g s.moves) t v):EV s t v:=by
 rcases h with h|⟨x,hx,e⟩|⟨q,hq,e⟩
 ·exact .inl h
 ·exact .inr (.inl ⟨x.1,by rw[←hl];exact aB.mpr ⟨x,hx,rfl⟩,e⟩)
 ·obtain ⟨y,hy,e2⟩:=aB.mp hq
  have O:=QY nd (aT.mp hy).1
  cases e2
  by_cases U:y.1=0
  ·rw[al U] at e
   exact .inr (.inr (.inl ⟨U,by rw[e];rfl,y.2,by rw[←O,U]⟩))
  ·rw[av U] at e
   exact .inr (.inr (.inr ⟨U,y.2,O,e⟩))
theorem m9{α:Type}{l:List α}{x y:α}{j:Nat}(h:(l++[x])[j]?=some y):l[j]?=some y∨(j=l.length/\y=x):=by
 rcases Nat.lt_or_ge j l.length with q|q
 ·rw[bg q] at h;exact .inl h
 ·rw[ba q] at h
  cases e:j-l.length with
  |zero=>rw[e] at h;cases h;exact .inr ⟨Nat.le_antisymm (Nat.le_of_sub_eq_zero e) q,rfl⟩
  |succ n=>rw[e] at h;exact cR h
theorem Good.YO{g:cL}{sts:List LS}{s:LS}(ok:dz g)(h:Good g sts s):s.moves.length<=20:=by
 have:=cG h.keys (l₂:=List.range g.names.length) λX U=>ch.mpr (by
  obtain ⟨q,O⟩:=FH U
  obtain ⟨_,⟨c,_,hc⟩,_⟩:=h.to X q O
  exact(hc.sym ok).1)
 rw[ag,aQ] at this
 exact ae this ok.names
theorem HX:∀(sts:List LS)(k i:Nat),(jV k sts)[i]?=(sts[i]?).map λs=>s.d (k+i)
 |[],_,_=>rfl
 |s::r,k,0=>rfl
 |s::r,k,i+1=>(HX r (k+1) i).trans (by rw[Nat.succ_add_eq_add_succ];rfl)
theorem HW{sts:List LS}(i:Nat):(jV 0 sts)[i]?=(sts[i]?).map ((λi s=>s.d i) i):=(HX sts 0 i).trans (by rw[bA])
theorem UP{g:cL}{l:LZ}(x:Nat×Nat)(U:x∈jr g l):x.1<g.tc:=by
 obtain ⟨y,O,rfl⟩:=aB.mp U
 exact aD (aT.mp O).2
theorem UQ{g:cL}{l:LZ}(h:(l.map (·.1)).Nodup):((jr g l).map (·.1)).Nodup:=by
 unfold jr
 rw[aJ]
 exact List.Nodup.sublist (List.Sublist.map (λx:Nat×Nat=>x.1) b0) h
structure my(g:cL)(s:LS)(row:LJ)(r:Int)(d:Nat):Prop where
len:row.length=g.tc
ev:∀(t:Nat)(v:Int),row[t]?=some v->EV s t v
rd:r=(d:Int)
df:d=0∨d∈s.ZZ
theorem my.drop{g:cL}{s:LS}{row:LJ}{r:Int}{d:Nat}(h:my g s row r d):my g s (oh row r) r d:=by
 refine⟨by unfold oh;rw[ag];exact h.len,λt v U=>?_,h.rd,h.df⟩
 unfold oh at U
 rw[aA] at U
 obtain ⟨u,O,e⟩:=oM U
 split at e
 ·exact .inl e.symm
 ·exact e▸h.ev t u O
theorem my.of{g:cL}{s:LS}{row:LJ}{r:Int}(h1:row.length=g.tc)(ev:∀(t:Nat)(v:Int),row[t]?=some v->EV s t v)(hr:r=0∨(0<r/\-r∈row)):∃d,my g s row r d:=by
 rcases hr with O|⟨O,h2⟩
 ·exact⟨0,h1,ev,O,.inl rfl⟩
 ·obtain ⟨t,ht,e⟩:=bp.mp h2
  have ng:-r<0:=Int.neg_neg_of_pos O
  rcases ev t (-r) (by rw[aC ht,e]) with U|⟨m,hm,U⟩|⟨_,U,_⟩|⟨_,q,_,U⟩
  ·exact absurd ng (U▸Int.lt_irrefl 0)
  ·exact⟨m,h1,ev,Int.neg_inj.mp U,.inr hm⟩
  ·exact absurd ng (U▸by decide)
  ·exact absurd ng (U▸Int.not_lt.mpr (bj q))
inductive nF(g:cL)(sts:List LS)(j:Nat)(s:LV×LV×LV×LV):Prop
|mk (T:dD):s.1=(T.rows.map λx=>.sh (e6 x))->s.2.1=(T.ZO.map λx=>.sh (jh x))->s.2.2.1=cV T.defs->s.2.2.2=T.cf.map .sh->uE g (sts.take j) T->T.cf.length<=56*j->nF g sts j s
structure Jg(s:LV×LV×LV×LV)(j:Nat):Prop where
a:s.1.length=j
b:s.2.1.length=j
c:s.2.2.1.length=j
d:s.2.2.2.length<=56*j
section
variable{g:cL}{sts:List LS}{j:Nat}{s:LV×LV×LV×LV}
theorem nF.len(f:nF g sts j s)(U:j<=sts.length):Jg s j:=f.casesOn λT O e2 e3 e4 tk hc=>by
 have hl:(sts.take j).length=j:=by rw[bb];exact cu U
 exact⟨by rw[O,ag,tk.l1,hl],by rw[e2,ag,tk.l2,hl],by rw[e3,nr,tk.l3,hl],by rw[e4,ag];exact hc⟩
theorem nF.step{x:LS}{row:LJ}{d:Nat}{r:Int}{cs:LD}(f:nF g sts j s)(hs:sts[j]?=some x)(hr:my g x row r d)(hcs:cs.length<=56):
 nF g sts (j+1) (s.1++[.sh (e6 row)],s.2.1++[.sh (jh (jC g x.moves))],s.2.2.1++[.sh (.int r)],s.2.2.2++cs.map cJ.sh):=f.casesOn λT e1 e2 e3 e4 tk hc=>by
 refine⟨⟨T.rows++[row],T.ZO++[jC g x.moves],T.defs++[d],T.cf++cs⟩,?_,?_,?_,?_,⟨?_,?_,?_,λi s' O gt d' a1 a2 a3 a4=>?_⟩,by rw[ak];exact bw hc hcs⟩
 ·rw[e1,ay];rfl
 ·rw[e2,ay];rfl
 ·rw[e3,hr.rd,BH]
 ·rw[e4,ay]
 ·rw[take_snoc hs,ak,ak,tk.l1];rfl
 ·rw[take_snoc hs,ak,ak,tk.l2];rfl
 ·rw[take_snoc hs,ak,ak,tk.l3];rfl
 ·rw[take_snoc hs] at a1
  have no:∀{i n:Nat},i=n->n=(sts.take j).length->i<(sts.take j).length->False:=λe e2 h=>b8 _ (e2▸e▸h)
  rcases m9 a1 with b1|⟨i1,b1⟩
  ·have hi:=dc b1
   exact(m9 a2).elim (λb2=>(m9 a3).elim (λb3=>(m9 a4).elim (λb4=>tk.at_ i s' O gt d' b1 b2 b3 b4) λe=>(no e.1 tk.l3 hi).elim) λe=>(no e.1 tk.l2 hi).elim) λe=>(no e.1 tk.l1 hi).elim
  ·have U:∀{n:Nat},n=(sts.take j).length->i<n->False:=λe h=>b8 _ (i1▸e▸h)
   refine(m9 a2).elim (λb2=>(U tk.l1 (dc b2)).elim) λb2=>(m9 a3).elim (λb3=>(U tk.l2 (dc b3)).elim) λb3=>(m9 a4).elim (λb4=>(U tk.l3 (dc b4)).elim) λb4=>?_
   rw[b1,b2.2,b3.2,b4.2]
   exact⟨hr.len,hr.ev,rfl,hr.df⟩
end
theorem Ay{M:LB}{α:Type}(f:α->D)(l:List α):fR M (.list (l.map λx=>.sh (f x)))=some (.list (l.map f)):=by
 show(data M (l.map λx=>.sh (f x))).map D.list=_
 rw[ig];rfl
section
variable{G:Gd}{k f n:Nat}{M:LB}{K:KT}{X:XT}(P:dO G){g:cL}(ok:dz g)
include P ok
theorem NF{sts:List LS}{ks:List LJ}{ms:LN}{wd:Bool}(hk:8<=k)(au:kM g sts)(ho:rk g ks ms)(q:∀T,uE g sts T->K (.sh (dF g T)) M):Cl G k 368 [.sh (fy g sts),.sh (lg ks ms),.sh (.bool wd)] M K X:=
 dj (P.g3 4) (ds:=[fy g sts,lg ks ms,.bool wd]) rfl (R:=λd=>∃T,d=dF g T/\uE g sts T) hk (λd h=>h.elim λT h=>h.1▸q T h.2)
  (gT 6 (.inr (.inr (.inr (.inr (.inr (dZ (l:=sts) (λ_ (_:LV×LV×LV×LV)=>[some (.sh (fy g sts)),some (.sh (lg ks ms)),some (.sh (.bool wd)),some (.sh (.str "lalr")),some (.own 0),some (.own 1),some (.own 2),some (.own 3),some (.own 4),none,none,none,none])
   (λ_ s=>[.list s.1,.list s.2.1,.list s.2.2.1,.list s.2.2.2,.list []]) (λj s=>nF g sts j s) ([],[],[],[]) ⟨⟨[],[],[],[]⟩,rfl,rfl,rfl,rfl,⟨rfl,rfl,rfl,λi s row gt d h=>(cR h)⟩,ao _⟩ HW
   (λj x s P' hx f L=>have U:=au.good j x hx
    have hj:=dc hx
    have fl:=f.len (aH hj)
    have hb:56*j+56<=mx:=ae (bf (bS 56 (ae (aH hj) au.size)) 56) dQ
    have hjx:j<=mx:=pV (ae (aH hj) (ae au.size dQ))
    gT 6 (Ur P ok dQ ho U.keys (ae (U.YO ok) dQ) U.rl λlooks hl1 hl2=>
     have hrd:∀y∈looks,y.1<g.rules.length:=λy hy=>(U.red y.1 (hl1▸aB.mpr ⟨y,hy,rfl⟩)).2.elim λz hz=>dc hz.1
     UL P ok hl2 dQ hrd (Uq P ok hl2 dQ UP (UQ U.keys) λrow O=>have ev:∀(t:Nat)(v:Int),row[t]?=some v->EV x t v:=λt v h=>Nt U.keys hl1 (O.2 t v h)
      MR P ok dQ O.1 (by have:=U.rl;rwa [←hl1,ag] at this) λcs hcs=>.ext (ys:=cs.map .sh) rfl rfl rfl (λh=>nomatch h) (by rw[ag];exact ae (bw fl.d hcs) hb) (.ext (j:=4) (ys:=[]) rfl rfl rfl (λh=>nomatch h) dQ
       (jn 2 (λt:LJ×Int=>[some (.sh (fy g sts)),some (.sh (lg ks ms)),some (.sh (.bool wd)),some (.sh (.str "lalr")),some (.own 0),some (.own 1),some (.own 2),some (.own 3),some (.own 4),some (.sh (x.d j)),some (.sh (hG g j (jr g x.moves) (jC g x.moves) looks)),some (.sh (e6 t.1)),some (.sh (.int t.2))])
        (λ_=>[.list s.1,.list s.2.1,.list s.2.2.1,.list (s.2.2.2++cs.map cJ.sh),.list []]) (λt=>∃d,my g x t.1 t.2 d)
        (λN nx=>bB (λ_=>M8 P dQ (by rw[O.1];exact ae dQ ok.tc) (by rw[O.1];exact ae ok.ZN dQ) λr hr=>(my.of O.1 ev hr).elim λd h=>
         bN (λ_=>WC P dQ (by rw[O.1];exact ae ok.ZN dQ) (nx [] (oh row r,r) ⟨d,h.drop⟩ rfl)) λ_=>nx [] (row,r) ⟨d,h⟩ rfl)
         λ_=>nx [] (row,0) ⟨0,O.1,ev,rfl,.inl rfl⟩ rfl)
        λt h=>h.elim λd h=>go (app (j:=0) rfl (fl.a.symm▸hjx) (app (j:=1) rfl (fl.b.symm▸hjx) (app (j:=2) rfl (fl.c.symm▸hjx) (L.nx [9,10,11,12] _ (f.step hx h hcs) rfl)))))))))
   λs f=>f.casesOn λT e1 e2 e3 e4 tk hc=>gF (i:=4) (j:=0) (d:=.list (T.rows.map e6)) rfl rfl (by rw[e1];exact Ay e6 _) (gF (i:=5) (j:=1) (d:=.list (T.ZO.map jh)) rfl rfl (by rw[e2];exact Ay jh _)
    (gF (i:=6) (j:=2) (d:=cS T.defs) rfl rfl (by rw[e3];exact rP _) (gF (i:=7) (j:=3) (d:=.list T.cf) rfl rfl (by rw[e4];exact(Ay id _).trans (by rw[List.map_id])) (gF (i:=8) (j:=4) (d:=.list []) rfl rfl rfl
     (go (Td P ok dQ ⟨_,rfl,T,rfl,by rw[←hH sts];exact tk⟩)))))))))))))
end
def eZ(l:LJ)(s:Nat)(a:Int):Ob:=.list [.sh (e6 l),.sh (.int (s:Int)),.sh (.int a)]
theorem pY{a:Int}{m:Nat}(h:0<m):∃d:Nat,d<m/\a.fmod (m:Int)=(d:Int):=by
 have U:=Int.fmod_nonneg_of_pos a (aV.mpr h)
 have O:=Int.fmod_lt_of_pos a (aV.mpr h)
 exact⟨(a.fmod m).toNat,(Int.toNat_lt U).mpr O,(Int.toNat_of_nonneg U).symm⟩
theorem xl{d m:Nat}(h:d<2^m):Builtin.Int.intBits (d:Int)<=m:=intBits_le_iff.mpr h
theorem GY{i:Int}(h:Builtin.Int.intBits i<=200):binI .Pow i 3=some (i^3):=
 al ⟨by decide,Int.le_trans (Int.mul_le_mul_of_nonneg_right (b7.mpr h) dQ) dQ⟩
theorem RA{x s:Nat}(U:x<2147483579)(O:s<2^41):x+92711*s+4651<2^64:=aX (bf (bw (aH U) (bS 92711 (aH O))) 4651) dQ
theorem RD{y s:Nat}(U:y<2147483647)(O:s<2^41):y*(2*s+369)+69117*s+5867<2^100:=by
 exact aX (bf (bw (Nat.mul_le_mul (aH U) (bf (bS 2 (aH O)) 369)) (bS 69117 (aH O))) 5867) dQ
structure Jd(c:Int)(s:Nat)(y:Int):Prop where
a:Builtin.Int.intBits (c.fmod 2147483579+92711*(s:Int)+4651)<=200
b:Builtin.Int.intBits y<=40
c:Builtin.Int.intBits (y*(2*(s:Int)+369)+69117*(s:Int)+5867)<=200
theorem Nf{c:Int}{s:Nat}(hs:s<=2^40):Jd c s (((c.fmod 2147483579+92711*(s:Int)+4651)^3).fmod 2147483647):=by
 have hS:s<2^41:=aX hs dQ
 obtain ⟨x,hx,ex⟩:=pY (a:=c) (m:=2147483579) dQ
 obtain ⟨y,hy,ey⟩:=pY (a:=(c.fmod 2147483579+92711*(s:Int)+4651)^3) (m:=2147483647) dQ
 have U:c.fmod 2147483579=(x:Int):=ex
 have O:((c.fmod 2147483579+92711*(s:Int)+4651)^3).fmod 2147483647=(y:Int):=ey
 refine⟨?_,?_,?_⟩
 ·rw[U];exact ae (xl (d:=x+92711*s+4651) (m:=64) (RA hx hS)) dQ
 ·rw[O];exact ae (xl (m:=31) (Nat.lt_trans hy dQ)) dQ
 ·rw[O];exact ae (xl (d:=y*(2*s+369)+69117*s+5867) (RD hy hS)) dQ
section
variable{G:Gd}{k f n:Nat}{M:LB}{K:KT}{X:XT}(P:dO G)
include P
theorem SS(hk:2<=k)(q:K (.own M.length) (M++[eZ (G.ZS.take 24) 0 0])):Cl G k 1140 [.sh (.raw G.sa)] M K X:=
 eL (P.g1 25) rfl hk (go ⟨rfl,.inl (.list (.inl rfl) (by rw[ag,bb];exact c3 (ae (cr _ _) dQ)) (.inl (.inr q)))⟩)
omit P in
theorem Dt{l:LJ}{s j m:Nat}{a:Int}{O x3 x4 x5:Option cJ}{P':dX}{N:Ev->XT}(hm:M[j]?=some (eZ l s a))(U:0<m)(h1:m<=1000)(q:∀(d:Nat)a',d<m->P'.ret (.sh (.int (d:Int))) (M.set j (eZ l s a'))):
 ws [.assign (.loc 2) (.bin .Mod (.idx (.loc 0) (.const (.int 2))) (.loc 1)),.assign (.idx (.loc 0) (.const (.int 2))) (.bin .FloorDiv (.idx (.loc 0) (.const (.int 2))) (.loc 1)),.ret (.loc 2)] G 0 n P' N [some (.own j),some (.sh (.int (m:Int))),O,x3,x4,x5] M:=
 (pY (a:=a) U).elim λd hd=>oI (jP (i:=2) hm rfl) (oI (uL (Int.ne_of_gt (aV.mpr U))) (oI (jP (i:=2) hm rfl) (oI (JU (Int.ne_of_gt (aV.mpr U)) (PyProof.noPylong_small (by rw[Int.natAbs_natCast];exact aX h1 dQ)))
  (.list hm dQ (by decide:(2:Int)<3) (by rw[hd.2];exact q d _ hd.1)))))
omit P in
theorem Ds{s j m:Nat}{c:Int}{O x5:Option cJ}{P':dX}{N:Ev->XT}(hs:s<=2^40)(U:0<m)(q:∀d:Nat,d<m->P'.ret (.sh (.int (d:Int))) M):
 ws (C3.drop 6) G 0 n P' N [some (.own j),some (.sh (.int (m:Int))),O,some (.sh (.int (s:Int))),some (.sh (.int c)),x5] M:=
 have w:=Nf (c:=c) hs
 oI (GY w.a) (oI (JV (IntMulOk.of_left (ae w.b dQ))) (oI (GY w.c) (oI (uL (Int.ne_of_gt (aV.mpr U))) ((pY U).elim λd hd=>by
  rw[hd.2];exact q d hd.1))))
theorem k8{l:LJ}{s j m:Nat}{a:Int}(hk:2<=k)(hm:M[j]?=some (eZ l s a))(hl:l.length<=24)(hs:s<=2^40)(h0:0<m)(h1:m<=1000)
 (q:∀(d:Nat)s' a',d<m->s'<=s+1->K (.sh (.int (d:Int))) (M.set j (eZ l s' a'))):Cl G k 1147 [.own j,.sh (.int (m:Int))] M K X:=
 have U:l.length<=1000:=ae hl dQ
 have O:(M.set j (eZ l (s+1) a))[j]?=some (eZ l (s+1) a):=bd (dc hm)
 eL (P.g2 39) rfl hk (gT 4 (oI (jP (i:=2) hm rfl) (bI (λ_=>Dt hm h0 h1 λd a' hd=>q d s a' hd (aU s)) λ_=>
  oI (jP (i:=1) hm rfl) (.list hm dQ (by decide:(1:Int)<3) (
   (jn 1 (λc:Int=>[some (.own j),some (.sh (.int (m:Int))),none,some (.sh (.int (s:Int))),some (.sh (.int c)),none]) (λ_=>M.set j (eZ l (s+1) a)) (λ_=>True)
    (λN nx=>oI (jP (i:=0) O rfl) (jl U (bI (λc0=>(pY (a:=(s:Int)) (aV.mp c0)).elim λd hd=>oI (jP (i:=0) O rfl) (oI (jP (i:=0) O rfl) (jl U (oI (uL (Int.ne_of_gt c0)) (oI (vj hd.2 (qg (aC hd.1))) (nx [] _ trivial rfl)))))) λ_=>nx [] (7919*(s:Int)+4127) trivial rfl)))
    λc _=>go (oI (jP (i:=0) O rfl) (jl U (bI (λ_=>.abs (bI (λ_=>.abs (.int (.list O dQ (by decide:(2:Int)<3) (Dt (l:=l) (s:=s+1) (bd (by rw[bc];exact dc hm)) h0 h1 λd a' hd=>by
     rw[List.set_set,List.set_set];exact q d (s+1) a' hd (ao _))))) λ_=>Ds hs h0 λd hd=>q d (s+1) a hd (ao _))) λ_=>Ds hs h0 λd hd=>q d (s+1) a hd (ao _))))))))))
end
noncomputable def gR:LQ:=["s","t","u"]
noncomputable def eK:LQ:=["a","b","c","s","t","u"]
structure e9(ps:List (Str×LQ)):Prop where
left:∀p∈ps,p.1∈gR
right:∀p∈ps,p.2.length<=3/\∀x∈p.2,x∈eK
hd:∀p,ps.head?=some p->p.1="s"
def pairD(p:Str×LQ):D:=.tup [.str p.1,cP p.2]
def dP(ps:List (Str×LQ)):D:=.list (ps.map pairD)
noncomputable def dy(l:LQ):LV:=l.map λx=>.sh (.str x)
theorem ly{l:LQ}{i:Nat}{x:Str}(h:l[i]?=some x):(l.map D.str)[i]?=some (.str x):=by rw[aA,h];rfl
theorem uW{M:LB}(l:LQ):data M (dy l)=some (l.map .str):=ig _ l
theorem xQ{M:LB}{j:Nat}{l:LQ}(hm:M[j]?=some (.list (dy l))):c7 M (.own j)=some (cP l):=u5 _ hm
theorem uP{G:Gd}{k f:Nat}{vs:LV}{M:LB}{K:KT}{X:XT}(h:Cl G k f vs M (λv M'=>∃d,c7 M' v=some d/\(∀j,v=.own j->M.length<=j)/\qo M.length (M'.take M.length)=true/\K (.sh d) (M'.take M.length)) X):Cl G k f vs M K X:=⟨Fn.own h.h⟩
theorem Bo{M:LB}{K:KT}{x:cJ}{i:Nat}{z:Int}{ds:LD}(e:z=i)(U:c7 M x=some (.list ds))(hl:ds.length<=mx)(q:iY (ds.take i) M K):fU M K x none (some (.sh (.int z))):=e▸HB U hl q
theorem TR{M:LB}{z:Int}{i:Nat}(e:z=i)(h:i<=mx):ji 1 M (.sh (.int z))=some ((List.range i).map λi:Nat=>D.int (i:Int)):=e▸kB h
inductive lK(b:Prop)(m t s':Nat)(vs:LV):Prop
|mk (ps):vs=ps.map (λp=>.sh (pairD p))->e9 ps->(b->ps≠[])->ps.length<=m->s'<=t->lK b m t s' vs
theorem lK.imp{b O:Prop}{m U t t' s' s'':Nat}{vs:LV}(h:lK b m t s' vs)(hb:O->b)(hm:m<=U)(ht:s'<=t->s''<=t'):lK O U t' s'' vs:=h.casesOn λps e po ne le hs=>⟨ps,e,po,λq=>ne (hb q),ae le hm,ht hs⟩
theorem lK.snoc{b b':Prop}{m m' t t' s' s'':Nat}{vs:LV}{lf:Str}{xs:LQ}(h:lK b m t s' vs)(hl:lf∈gR)(h0:¬b->lf="s")(hx:xs.length<=3/\∀x∈xs,x∈eK)(hm:m+1<=m')(ht:s''<=t'):lK b' m' t' s'' (vs++[.sh (.tup [.str lf,cP xs])]):=h.casesOn λps e po ne le hs=>by
 refine⟨ps++[(lf,xs)],by rw[e,ay];rfl,⟨λp O=>?_,λp O=>?_,λp O=>?_⟩,λ_ h=>?_,by rw[ak];exact ae (aK le) hm,ht⟩
 ·exact(aI.mp O).elim (po.left p) λO=>by rw[aF.mp O];exact hl
 ·exact(aI.mp O).elim (po.right p) λO=>by rw[aF.mp O];exact hx
 ·cases U:ps with
  |nil=>
   rw[U] at O;cases O
   exact h0 λh=>ne h U
  |cons z zs=>rw[U] at O;exact po.hd p (by rw[U];exact O)
 ·exact absurd (aj List.length h) (by rw[ak];exact Nat.succ_ne_zero _)
structure uG(sz s5 i:Nat)(acc:LV)(s':Nat)(xs:LQ):Prop where
e:acc=dy xs
l:xs.length=i
le:i<=sz
m:∀x∈xs,x∈eK
s:s'<=s5+i
theorem uG.snoc{sz s5 i O s' s7:Nat}{acc:LV}{xs:LQ}(h:uG sz s5 i acc s' xs)(hi:i<sz){hd:O<eK.length}(hs:s7<=s'+1):uG sz s5 (i+1) (acc++[.sh (.str eK[O])]) s7 (xs++[eK[O]]):=by
 refine⟨by rw[h.e];unfold dy;rw[ay];rfl,by rw[ak,h.l];rfl,hi,λx U=>(aI.mp U).elim (h.m x) λU=>by rw[aF.mp U];exact List.getElem_mem _,?_⟩
 exact ae hs (aK h.s)
theorem QO{n:Nat}(i:Nat):((gR.map D.str).take n)[i]?=((gR.take n)[i]?).map ((λ_=>D.str) i):=by rw[←List.map_take];exact dG i
theorem QP{n j:Nat}{x:Str}(h:(gR.take n)[j]?=some x):j<n/\x∈gR/\(¬0<j->x="s"):=by
 rw[List.getElem?_take] at h
 split at h
 ·rename_i U
  refine⟨U,ax h,λO=>?_⟩
  obtain rfl:j=0:=Nat.eq_zero_of_not_pos O
  exact(aq h).symm
 ·exact cR h
theorem wb{s m:Nat}(h:s<=m)(hm:m<=2000):s<=2^40:=ae h (ae hm dQ)
section
variable{G:Gd}{k f n:Nat}{M:LB}{K:KT}{X:XT}(P:dO G){l:LJ}(hl:l.length<=24)
include P hl
theorem SN{s:Nat}{a:Int}(hk:6<=k)(hs:s<=1000)(q:∀ps s' a',e9 ps->ps≠[]->ps.length<=6->s'<=s+60->K (.sh (dP ps)) [eZ l s' a']):Cl G k 1152 [.own 0] [eZ l s a] K X:=
 uP (eL (P.g1 26) rfl hk (go (.inr (.inl ⟨_,rfl,k8 (m:=2) P dQ rfl hl (wb hs dQ) dQ dQ λd s1 a1 hd O=>Bo (i:=2+d) (Int.natCast_add 2 d).symm rfl dQ (.inl
  (dZ (l:=gR.take (2+d)) (λ_ (_:Nat×Int×LV)=>[some (.own 0),some (.own 1),none,none,none]) (λ_ t=>[eZ l t.1 t.2.1,.list t.2.2]) (λj t=>lK (0<j) (2*j) (s+1+9*j) t.1 t.2.2) (s1,a1,[])
   ⟨[],rfl,⟨λp h=>(dh h),λp h=>(dh h),λp h=>(cR h)⟩,λh=>absurd h (b8 _),ao _,O⟩ QO
   (λj lf t P' U r L=>have hj:=QP U
    have hj3:j<=3:=ae (aH hj.1) (by lia)
    have eR:=r.casesOn (motive:=λ_=>t.1<=s+1+9*j) λ_ _ _ _ _ h=>h
    go (k8 (m:=2) P dQ rfl hl (wb eR (by lia)) dQ dQ λd2 s3 a3 hd2 hs3=>oI (TR (i:=1+d2) (Int.natCast_add 1 d2).symm (c3 (by lia)))
     (kx (λ_ (_:Nat×Int×LV)=>[some (.own 0),some (.own 1),some (.sh (.str lf)),none,none]) (λ_ t=>[eZ l t.1 t.2.1,.list t.2.2]) (λi t=>lK (0<j∨0<i) (2*j+i) (s+2+9*j+4*i) t.1 t.2.2) (s3,a3,t.2.2)
      (r.imp (λh=>h.resolve_right (b8 _)) (ao _) λh=>by lia)
      (λi t P' hi r L=>have eR:=r.casesOn (motive:=λ_=>t.1<=s+2+9*j+4*i) λ_ _ _ _ _ h=>h
       have hll:=r.casesOn (motive:=λ_=>t.2.2.length<=2*j+i) λps e _ _ h _=>by rw[e,ag];exact h
       go (k8 (m:=4) P dQ rfl hl (wb eR (by lia)) dQ dQ λsz s5 a5 hsz hs5=>oI (kB (c3 (by exact ae (aH (by assumption)) dQ)))
        (uR (l:=List.range sz) (λu:Nat×Int×LQ=>[eZ l u.1 u.2.1,.list t.2.2]) (λi acc u=>uG sz s5 i acc u.1 u.2.2) (s5,a5,[]) ⟨rfl,rfl,aL _,λx h=>(dh h),ao _⟩ dG
         (λi acc u h=>by rw[h.e];unfold dy;rw[ag,h.l];exact c3 (ae h.le (by exact ae (aH (by assumption)) dQ)))
         (λi x acc u R hx h a _=>have hi:i<sz:=by have:=dc hx;rwa [aQ] at this
          .inl ⟨_,rfl,k8 (m:=6) P dQ rfl hl (wb (ae h.s (bw hs5 (aH hi))) (by lia)) dQ dQ λd6 s7 a7 hd6 hs7=>
           oI (dJ (ds:=eK.map .str) (ly (aC hd6))) (a _ (s7,a7,u.2.2++[eK[d6]]) (h.snoc hi hs7))⟩)
         λacc u h=>.inl ⟨u.2.2.map .str,h.e▸uW u.2.2,app (j:=1) rfl (c3 (ae hll (by lia))) (L.nx [3,4] (u.1,u.2.1,t.2.2++[cJ.sh (D.tup [D.str lf,cP u.2.2])]) (r.snoc hj.2.1 (λq=>hj.2.2 λq2=>q (.inl q2)) ⟨by rw[h.l,aQ];exact Nat.le_of_lt_succ hsz,h.m⟩ (ao _) (by have:=h.s;rw[aQ] at this;lia)) rfl)⟩)))
      λt r=>L.nx [2,3,4] t (r.imp (λ_=>.inr (aR dQ (aW 1 d2))) (by lia) λh=>by lia) rfl)))
   λt r=>r.casesOn λps e po ne le hs'=>⟨_,by rw[e];exact u5 pairD rfl,λj e=>by cases e;exact ao _,rfl,have ht:(gR.take (2+d)).length=2+d:=by rw[bb];exact cu (bq (Nat.le_of_lt_succ hd) 2)
    q ps t.1 t.2.1 po (ne (by rw[ht];exact aR dQ (aW 2 d))) (by rw[ht] at le;lia) (by rw[ht] at hs';lia)⟩))⟩))))
end
noncomputable def iq(ps:List (Str×LQ)):LQ:=ps.map (·.1)
structure h7(ps:List (Str×LQ))(row:LQ):Prop where
len:row.length<=6
mem:∀x∈row,x∈eK/\x∉iq ps
theorem nZ{M:LB}{l:LQ}:view M (.sh (cP l))=some (.list (dy l)):=by show some (Ob.list _)=_;unfold dy;rw[aJ];rfl
theorem JM{l:LQ}{c:Str}:l.any (·==c)=decide (c∈l):=by
 refine Bool.eq_iff_iff.mpr ((List.any_eq_true).trans (Iff.trans ?_ decide_eq_true_iff.symm))
 exact⟨λh=>h.elim λx h=>eq_of_beq h.2▸h.1,λh=>⟨c,h,ck _⟩⟩
theorem EA{l:LQ}{y:cJ}{c:Str}{M:LB}(hv:view M y=some (.list (dy l))∨view M y=some (.tup (dy l))):j0 M y (.sh (.str c)) (decide (c∈l)):=JM▸.Za hv rfl
theorem r5{l:LQ}{y:cJ}{c:Str}{M:LB}{K:Bool->Prop}(hv:view M y=some (.list (dy l))∨view M y=some (.tup (dy l)))(a:c∈l->K true)(b:c∉l->K false):fq M K (.sh (.str c)) y .In:=
 .has (EA hv) (by
  by_cases h:c∈l
  ·rw[aG h];exact a h
  ·rw[bu h];exact b h)
theorem jT{l:LQ}{y:cJ}{c:Str}{M:LB}{K:Bool->Prop}(hv:view M y=some (.list (dy l))∨view M y=some (.tup (dy l)))(a:c∈l->K false)(b:c∉l->K true):fq M K (.sh (.str c)) y .NotIn:=
 .Zz (EA hv) (by
  by_cases h:c∈l
  ·rw[aG h];exact a h
  ·rw[bu h];exact b h)
theorem Aj{x:cJ}{xs:LV}{M:LB}{K:Bool->Prop}(U:view M x=some (.list xs))(a:xs≠[]->K true)(b:xs=[]->K false):fq M K x (.sh (.list [])) .NotEq:=.ne (.emp U rfl) (by
 cases xs with
 |nil=>exact b rfl
 |cons=>exact a λh=>jE h)
theorem Bn{M:LB}{K:KT}{i:Nat}{z:Int}{l:LQ}(e:z=i)(hl:l.length<=1000)(q:K (.sh (cP (l.take i))) M):fU M K (.sh (cP l)) none (some (.sh (.int z))):=
 Bo e rfl (by rw[ag];exact c3 hl) (.inl (by rw[←List.map_take];exact q))
theorem Hz{M:LB}{K:KT}{i:Nat}{z:Int}{l:LQ}(e:z=i)(hl:l.length<=1000)(q:K (.sh (cP (l.drop i))) M):fU M K (.sh (cP l)) (some (.sh (.int z))) none:=by
 subst e
 exact wx rfl (by rw[ag];exact c3 hl) (.inl (by rw[←List.map_drop];exact q))
theorem jN{M:LB}{K:KT}{x y:cJ}{a b:LQ}(U:c7 M x=some (cP a))(O:c7 M y=some (cP b))(hl:a.length+b.length<=1000)(q:K (.sh (cP (a++b))) M):i9 M K .Add x y:=
 .list U O (by rw[ag,ag];exact c3 hl) (.inl (by rw[←ay];exact q))
theorem NG{α β:Type}{p:α->Bool}{f:α->β}(l:List α):(l.filterMap λx=>if p x then some (f x) else none)=(l.filter p).map f:=by
 induction l with
 |nil=>rfl
 |cons x r O=>
  by_cases h:p x=true
  ·rw[List.filterMap_cons_some (by rw[al h]),List.filter_cons_of_pos h,O];rfl
  ·rw[List.filterMap_cons_none (by rw[av h]),cC h,O]
theorem uQ{turn:Nat->D->LB->(Option cJ->XT)->Prop}{α:Type}{l:List α}{f:Nat->α->D}{ds:LD}{M:LB}{K:KT}(g:α->Str)(hd:∀i,ds[i]?=(l[i]?).map (f i))(hl:l.length<=1000)
 (ht:∀i x(R:Option cJ->XT),l[i]?=some x->R (some (.sh (.str (g x)))) M->turn i (f i x) M R) (q:K (.sh (cP (l.map g))) M):Cm turn (λvs O=>gI vs O K) ds M:=
 lP (g:=λx=>.str (g x)) hd hl ht (by unfold cP at q;rw[aJ] at q;exact q)
theorem nY{turn:Nat->D->LB->(Option cJ->XT)->Prop}{α:Type}{l:List α}{f:Nat->α->D}{ds:LD}{M:LB}{K:KT}(p:α->Bool)(g:α->D)(hd:∀i,ds[i]?=(l[i]?).map (f i))(hl:l.length<=1000)
 (ht:∀i x(R:Option cJ->XT),l[i]?=some x->(p x=true->R (some (.sh (g x))) M)->(p x=false->R none M)->turn i (f i x) M R) (q:K (.sh (.list ((l.filter p).map g))) M):Cm turn (λvs O=>gI vs O K) ds M:=
 xq (g:=λx=>if p x then some (g x) else none) hd hl (λi x R U h=>ht i x R U (λe=>by rw[al e] at h;exact h) λe=>by rw[av (by rw[e];exact Bool.false_ne_true)] at h;exact h) (by rw[NG];exact q)
structure nJ(row:LQ)(j:Nat):Prop where
len:row.length<=1+2*j
mem:∀x∈row,x∈eK
theorem nJ.skip{row:LQ}{j:Nat}(h:nJ row j):nJ row (j+1):=⟨ae h.len (bq (bS 2 (aU j)) 1),h.mem⟩
theorem nJ.put{row O:LQ}{i j:Nat}(h:nJ row j)(hi:i<row.length)(h3:O.length<=3)(hs:∀x∈O,x∈eK):nJ (row.take i++O++row.drop (i+1)) (j+1):=by
 refine⟨?_,λx U=>?_⟩
 ·have:=h.len
  rw[ak,ak,bb,cb]
  exact ae (bf (bw (cr _ _) h3) _) (by rw[show i+3=i+1+2 from rfl,Nat.add_right_comm,Nat.add_sub_cancel' hi];exact bf this 2)
 ·exact(aI.mp U).elim (λU=>(aI.mp U).elim (λU=>h.mem x (cD U)) (hs x)) λU=>h.mem x (List.mem_of_mem_drop U)
def vf(ps:List (Str×LQ))(row:LQ)(i:Nat):Bool:=(row[i]?).any λx=>decide (x∈iq ps)
def tY(ps:List (Str×LQ))(row:LQ):LN:=(List.range row.length).filter (vf ps row)
noncomputable def tV(ps:List (Str×LQ))(c:Str):List (Str×LQ):=ps.filter λp=>decide (p.1=c)
inductive Cv(ps:List (Str×LQ))(row:LQ):Prop
|mk (i:Nat) (c:Str):(tY ps row)[0]?=some i->row[i]?=some c->0<(tV ps c).length->Cv ps row
theorem yj{ps:List (Str×LQ)}{row:LQ}{i:Nat}{c:Str}(h:row[i]?=some c):vf ps row i=decide (c∈iq ps):=by unfold vf;rw[h];rfl
theorem U7{ps:List (Str×LQ)}{row:LQ}(h:cV (tY ps row)≠[]):Cv ps row:=by
 cases e:tY ps row with
 |nil=>rw[e] at h;exact(h rfl).elim
 |cons i r=>
  have hi:i∈tY ps row:=e▸.head _
  obtain ⟨h1,O⟩:=aT.mp hi
  have U:=aC (ch.mp h1)
  rw[yj U] at O
  obtain ⟨p,hp,e2⟩:=aB.mp (aD O)
  exact⟨i,_,by rw[e];rfl,U,List.length_pos_of_mem (aT.mpr ⟨hp,aG e2⟩)⟩
theorem Hy{ps:List (Str×LQ)}(c:Str)(h:ps.length<=6):(tV ps c).length<=6:=ae (br ..) h
theorem UT{ps:List (Str×LQ)}{c:Str}{p:Str×LQ}(O:e9 ps)(h:p∈tV ps c):p.2.length<=3/\∀x∈p.2,x∈eK:=O.right p (aT.mp h).1
theorem lY{α:Type}{f:α->D}{l:List α}{i:Nat}{x:α}(h:l[i]?=some x):(l.map f)[i]?=some (f x):=by rw[aA,h];rfl
theorem RE{s j:Nat}(h:s<=2^39)(U:j<=8){s1:Nat}(O:s1<=s+j):s1<=2^40:=by lia
theorem Oh{row O:LQ}{i:Nat}(h:row.length<=17)(h3:O.length<=3):(row.take i).length+O.length<=1000/\(row.take i++O).length+(row.drop (i+1)).length<=1000:=by
 have h1:=bK i row
 rw[ak,cb]
 have U:=bw (ae h1 h) h3
 exact⟨ae U dQ,ae (bw U (ae (Nat.sub_le _ _) h)) dQ⟩
section
variable{G:Gd}{k f n:Nat}{M:LB}{K:KT}{X:XT}(P:dO G){l:LJ}(hl:l.length<=24)
include P hl
theorem Ep{ps:List (Str×LQ)}{s:Nat}{a:Int}(hk:6<=k)(po:e9 ps)(hp:ps.length<=6)(hs:s<=2^39)(q:∀row s' a',h7 ps row->s'<=s+8->K (.sh (cP row)) [eZ l s' a']):Cl G k 1157 [.own 0,.sh (dP ps)] [eZ l s a] K X:=
 have hp3:ps.length<=1000:=ae hp dQ
 uP (eL (P.g2 40) rfl hk (go (uQ (l:=ps) (λp:Str×LQ=>p.1) dG hp3 (λi p R hp h=>h) (.inl ⟨_,rfl,
  kx (z:=8) (λ_ (t:LQ×Nat×Int)=>[some (.own 0),some (.sh (dP ps)),some (.sh (cP (iq ps))),some (.sh (cP t.1)),none,none,none]) (λ_ t=>[eZ l t.2.1 t.2.2]) (λj t=>nJ t.1 j/\t.2.1<=s+j) (["s"],s,a) ⟨⟨ao _,λx hx=>by rw[aF.mp hx];decide+kernel⟩,ao _⟩
   (λj t P' hj h L=>have h17:t.1.length<=17:=ae h.1.len (by lia)
    have h1:t.1.length<=1000:=ae h17 dQ
    go (jl h1 (oI (kB (c3 h1)) (nY (l:=List.range t.1.length) (vf ps t.1) (λi=>.int (i:Nat)) dG (by rw[aQ];exact h1)
     (λi x R hx a b=>have hc:=aC (ch.mp (ax hx))
      oI (dJ (ly hc)) (r5 (.inl nZ) (λe=>a ((yj hc).trans (aG e))) λe=>b ((yj hc).trans (bu e))))
     (.inl ⟨[],rfl,Aj (xs:=cV (tY ps t.1)) xF (λhne=>(U7 hne).casesOn λi0 c U hc hsd=>
      nY (l:=ps) (λp=>decide (p.1=c)) (λp=>cP p.2) dG hp3 (λi p R hp a b=>oI (dJ (i:=0) (iw U)) (oI (dJ (ly hc)) (bI (λe=>a (aG e)) λe=>b (bu e))))
       (oI (dJ (i:=0) (iw U)) (Bn rfl h1 (jl (l:=tV ps c) (ae (Hy c hp) dQ) (k8 P dQ rfl hl (RE hs (aH hj) h.2) hsd (ae (Hy c hp) dQ) λd s2 a2 hd hs2=>
        have O:=aC hd
        have sg:=UT po (ax O)
        have gl:=Oh (i:=i0) h17 sg.1
        oI (dJ (ds:=(tV ps c).map λp=>cP p.2) (lY (f:=λp:Str×LQ=>cP p.2) O)) (jN rfl rfl gl.1 (oI (dJ (i:=0) (iw U)) (Hz (i:=i0+1) rfl h1 (jN rfl rfl gl.2
         (L.nx [4,5,6] (_,s2,a2) ⟨h.1.put (dc hc) sg.1 sg.2,ae hs2 (aK h.2)⟩ rfl))))))))))
      λ_=>L.nx [4,5] t ⟨h.1.skip,bW h.2⟩ rfl⟩)))))
   λt h=>nY (l:=t.1) (λx=>decide (x∉iq ps)) (λx=>.str x) dG (ae h.1.len dQ) (λi x R hx a b=>jT (.inl nZ) (λe=>b (bu λq=>q e)) λe=>a (aG e))
    (Bn (i:=6) rfl (ae (br ..) (ae h.1.len dQ)) ⟨_,rfl,λj e=>(nomatch e),rfl,q _ t.2.1 t.2.2 ⟨by rw[bb];exact cr _ _,λx hx=>
     have hf:=aT.mp (cD hx)
     ⟨h.1.mem x hf.1,aD hf.2⟩⟩ h.2⟩)⟩))))
end
def xT(g:cL)(a b c:Nat):List (Nat×cJ):=[(9,.sh (cP g.names)),(10,.sh (.int g.tc)),(19,.sh (.list g.ZR)),(52,.own 3),(53,.sh .none),(54,.sh (.int g.start)),(55,.own (a+5)),(56,.own (b+5)),(57,.own (c+5))]
def jg(g:cL)(i:Nat):LB:=(List.range g.names.length).map λs=>.list (cV (g.leftTo i s))
noncomputable def xR(g:cL):Ob:=.list ((List.range g.names.length).map λs=>.own (s+5))
def mO(g:cL)(i j:Nat):LB:=[xR g,.list (cV ((List.range i).map g.off)),.list (cV (g.ownTo j))]
theorem Fb{g:cL}{n s:Nat}{x:Rl}(h:g.rules[n]?=some x):g.leftTo (n+1) s=g.leftTo n s++if x.left=s then[n] else[]:=by
 unfold cL.leftTo
 rw[cn,bL]
 have hb:decide ((g.rules[n]?).map (λx=>x.left)=some s)=decide (x.left=s):=by rw[h];exact decide_eq_decide.mpr ⟨aq,aj some⟩
 rw[cj,hb]
 by_cases e:x.left=s
 ·rw[al (aG e),al e];rfl
 ·rw[av (λq=>e (aD q)),av e];rfl
theorem qc(g:cL)(i:Nat):(jg g i).length=g.names.length:=by unfold jg;rw[ag,aQ]
theorem N1(g:cL):jg g 0=List.replicate g.names.length (.list []):=by
 show((List.range _).map λ_=>Ob.list [])=_
 rw[List.map_const',aQ]
theorem rY{g:cL}{i a b j:Nat}{o:Ob}(h:(mO g a b)[j]?=some o):(jg g i++mO g a b)[g.names.length+j]?=some o:=by
 rw[ba (qc g i▸aW _ _),qc,cI];exact h
theorem xU{g:cL}{i j:Nat}{T:LB}{o:Ob}:(jg g i++T).set (g.names.length+j) o=jg g i++T.set j o:=by
 rw[List.set_append_right _ _ (qc g i▸aW _ _),qc,cI]
section
variable{g:cL}{i:Nat}{r:Rl}
theorem N6(hr:g.rules[i]?=some r)(rl:r.left<g.names.length){T:LB}:(jg g i++T).set r.left (.list (cV (g.leftTo i r.left++[i])))=jg g (i+1)++T:=by
 rw[List.set_append_left _ _ (qc g i▸rl)]
 have:=Fs (f:=λs=>Ob.list (cV (g.leftTo i s))) (f':=λs=>Ob.list (cV (g.leftTo (i+1) s))) List.nodup_range (cg rl) λs U=>by rw[Fb hr,av (Ne.symm U),aS]
 rw[Fb hr,al rfl] at this
 unfold jg
 rw[←this]
theorem N5(rl:r.left<g.names.length){T:LB}:(jg g i++T)[r.left]?=some (.list (cV (g.leftTo i r.left))):=by
 rw[bg (qc g i▸rl)]
 unfold jg
 rw[aA,cg rl];rfl
end
inductive pB(g:cL)(i:Nat)(U:LB):Prop
|mk:U=jg g i++mO g i i->pB g i U
structure Jj(g:cL)(i:Nat)(r:Rl)(U:LB):Prop where
bl:U[g.names.length]?=some (xR g)
a:U[r.left]?=some (.list (cV (g.leftTo i r.left)))
b:(U.set r.left (.list (cV (g.leftTo i r.left++[i]))))[g.names.length+1]?=some (.list (cV ((List.range i).map g.off)))
c:(U.set r.left (.list (cV (g.leftTo i r.left++[i]))))[g.names.length+2]?=some (.list (cV (g.ownTo i)))
c':((U.set r.left (.list (cV (g.leftTo i r.left++[i])))).set (g.names.length+1) (.list (cV ((List.range i).map g.off++[g.off i]))))[g.names.length+2]?=some (.list (cV (g.ownTo i)))
e:pB g (i+1) (((U.set r.left (.list (cV (g.leftTo i r.left++[i])))).set (g.names.length+1) (.list (cV ((List.range i).map g.off++[g.off i])))).set (g.names.length+2) (.list (cV (g.ownTo i)++cV (List.replicate (r.right.length+1) i))))
theorem pB.get{g:cL}{i:Nat}{r:Rl}{U:LB}(u:pB g i U)(hr:g.rules[i]?=some r)(rl:r.left<g.names.length):Jj g i r U:=u.casesOn λu=>by
 subst u
 have s1:=N6 hr rl (T:=mO g i i)
 have s2:jg g (i+1)++(mO g i i).set 1 (.list (cV ((List.range i).map g.off++[g.off i])))=jg g (i+1)++mO g (i+1) i:=by unfold mO;rw[cn,ay];rfl
 refine⟨rY (j:=0) rfl,N5 rl,s1▸rY rfl,s1▸rY rfl,?_,⟨?_⟩⟩
 ·rw[s1,xU,s2];exact rY rfl
 ·have O:cV (g.ownTo i)++cV (List.replicate (r.right.length+1) i)=cV (g.ownTo (i+1)):=by
   rw[cL.ownTo_succ,vA hr];unfold cV;rw[ay]
  rw[s1,xU,s2,xU,O];rfl
theorem AG{g:cL}(ok:dz g){i:Nat}(h:i<=g.rules.length):(g.ownTo i).length<=40:=by
 rw[cL.ownTo_len]
 have U:=cL.off_mono (g:=g) h
 have O:=lI ok
 unfold NN at O;exact ae (by assumption) (ae (by assumption) dQ)
theorem QE{g:cL}(ok:dz g){i s:Nat}(h:i<=g.rules.length):(g.leftTo i s).length<=1000:=by
 refine ae (br ..) ?_
 rw[aQ];exact ae h (ae ok.rules dQ)
theorem QK{M:LB}{K:KT}{j n:Nat}{l:LN}(hm:M[j]?=some (.list (cV l)))(e:l.length=n)(hl:n<=1000)(q:K (.sh (.int n)) M):fJ M K .len [.own j]:=vz hm (e▸hl) (e▸q)
theorem JN{M:LB}{j:Nat}{xs:LV}(hm:M[j]?=some (.list xs)):jR M (.own j) 75=some (.bi 0):=by
 show(view M (.own j)).bind _=_
 rw[gY hm];rfl
theorem Uh{M:LB}{K:KT}{n v:Nat}{z:Int}(e:z=(n:Int))(h:n<=1000)(q:K (.sh (cS (List.replicate n v))) M):uA z (.sh (.int v)) M K:=by
 subst e
 refine⟨bj _,b7.mpr (ae h dQ),.inl ⟨(List.replicate n v).map λi:Nat=>.int i,?_,q⟩⟩
 rw[cq,←List.map_replicate (f:=λi:Nat=>cJ.sh (.int i)),ig]
def gB(g:cL)(x y z:Ob):LB:=[x,y,z,.Z3 (.Z7 [] []),.inst 735 (xT g g.names.length (g.names.length+1) (g.names.length+2)++[(58,.sh (.int (g.owners.length:Nat)))])]
noncomputable def iJ(g:cL):List LN:=(List.range g.names.length).map λs=>g.ofLeft s
section
variable{g:cL}{x y z:Ob}{T:LB}{j:Nat}{o:Ob}
theorem rX:((iJ g).map λl=>Ob.Z3 (cS l)).length=g.names.length:=by unfold iJ;rw[ag,ag,aQ]
theorem qb(h:T[j]?=some o):(gB g x y z++(iJ g).map (λl=>Ob.Z3 (cS l))++T)[g.names.length+j+5]?=some o:=by
 show((iJ g).map (λl=>Ob.Z3 (cS l))++T)[g.names.length+j]?=_
 rw[ba (rX (g:=g)▸aW _ _),rX,cI];exact h
theorem xS:(gB g x y z++(iJ g).map (λl=>Ob.Z3 (cS l))++T).set (g.names.length+j+5) o=gB g x y z++(iJ g).map (λl=>Ob.Z3 (cS l))++T.set j o:=by
 show _::_::_::_::_::(((iJ g).map (λl=>Ob.Z3 (cS l))++T).set (g.names.length+j) o)=_
 rw[List.set_append_right _ _ (rX (g:=g)▸aW _ _),rX,cI];rfl
theorem NZ(g:cL){x y z:Ob}{T:LB}:fR (gB g x y z++(iJ g).map (λl=>Ob.Z3 (cS l))++T) (xR g)=some (.list ((List.range g.names.length).map λs=>cS (g.ofLeft s))):=by
 show(data _ ((List.range g.names.length).map λs=>cJ.own (s+5))).map D.list=_
 rw[xH (ds:=(List.range g.names.length).map λs=>cS (g.ofLeft s)) (by rw[ag,ag]) λi v O=>?_]
 ·rfl
 ·rw[aA] at O
  obtain ⟨s,U,rfl⟩:=oM O
  refine⟨_,by rw[aA,U];rfl,qa ?_⟩
  have hi:=dc U
  have e:s=i:=by
   rw[aQ] at hi
   rw[cg hi] at U;exact(aq U).symm
  subst e
  show((iJ g).map (λl=>Ob.Z3 (cS l))++T)[s]?=_
  rw[bg (by rw[rX];rwa [aQ] at hi)]
  unfold iJ
  rw[aA,aA,U];rfl
theorem k9{M:LB}{v:cJ}{vs:LV}{d:D}{ds:LD}(h:iI M v=some d)(q:data M vs=some ds):data M (v::vs)=some (d::ds):=by
 show(iI M v).bind (λd=>(data M vs).map λds=>d::ds)=_
 rw[h,q];rfl
def u6(g:cL)(i:Nat):LB:=[.Z3 (.list ((List.range g.names.length).map λs=>cS (g.ofLeft s))),Nat.casesOn i (.list (cV ((List.range g.rules.length).map g.off))) λ_=>.Z3 (cS ((List.range g.rules.length).map g.off)),Nat.casesOn i (.list (cV g.owners)) λi=>Nat.casesOn i (.list (cV g.owners)) λ_=>.Z3 (cS g.owners)]
theorem N0:c7 (gB g x y z++(iJ g).map (λl=>Ob.Z3 (cS l))++u6 g 2) (.own 4)=some g.d:=by
 show(data _ [_,_,_,_,_,_,_,_,_,_]).map _=_
 rw[k9 rfl (k9 rfl (k9 rfl (k9 rfl (k9 rfl (k9 rfl (k9 (qa (qb (j:=0) rfl)) (k9 (qa (qb (j:=1) rfl)) (k9 (qa (qb (j:=2) rfl)) (k9 rfl rfl)))))))))]
 rfl
end
section
variable{G:Gd}{k f n:Nat}{M:LB}{K:KT}{X:XT}{E:Ev}{Q:dX}{cs:List CS}
theorem D4:∀{ls:List LN}{pre rest:LB},Go G k n cs E (pre++ls.map (λl=>Ob.Z3 (cS l))++rest) Q->Go G k n cs E (pre++ls.map (λl=>Ob.list (cV l))++rest) Q
 |[],_,_,h=>h
 |l::ls,pre,rest,h=>by
  rw[aN,aP,List.cons_append]
  refine gZ (j:=pre.length) (oF _ _) (d:=cS l) (rP l) ?_
  rw[yy]
  have:=D4 (ls:=ls) (pre:=pre++[.Z3 (cS l)]) (rest:=rest) (by rw[aP,aP];rw[aP] at h;exact h)
  rw[aP,aP] at this
  exact this
variable(P:dO G){g:cL}(ok:dz g)
include P ok
theorem Oc{x y z:Ob}{p p2 p3:Nat}{U:LB}(hp:p=g.names.length)(hp2:p2=g.names.length+1)(hp3:p3=g.names.length+2)(u:pB g 0 U)(hQ:∀E M',c7 M' (.own 4)=some g.d->Q.next E M'):
 Go G 0 n (C2.drop 9) [some (.own 4),some (.sh (cP g.names)),some (.sh (.int g.tc)),some (.sh (.list g.ZR)),some (.own 3),some (.sh .none),some (.sh (.int g.start)),none] (x::y::z::.Z7 []::.inst 735 (xT g p p2 p3)::U) Q:=by
 subst hp hp2 hp3
 refine gT 2 (dZ (l:=g.rules) (λ_ (_:LB)=>[some (.own 4),some (.sh (cP g.names)),some (.sh (.int g.tc)),some (.sh (.list g.ZR)),some (.own 3),some (.sh .none),some (.sh (.int g.start)),none]) (λ_ U=>x::y::z::.Z7 []::.inst 735 (xT g g.names.length (g.names.length+1) (g.names.length+2))::U) (λi U=>pB g i U) U u o6
  (λi r U P' hr u L=>have O:=ok.rule hr
   have hi:=aH (dc hr)
   have l:=u.get hr O.2.1
   go (oI (jP (j:=g.names.length+5) l.bl (by rw[aA,cg O.2.1];rfl)) (oI (lN (j:=r.left+5) l.a) (kY (j:=r.left+5) l.a (QE ok hi)
    (oI (lN (j:=g.names.length+1+5) l.b) (QK (j:=g.names.length+2+5) l.c (cL.ownTo_len i) (ae (cL.ownTo_len (g:=g) i▸AG ok hi) dQ) (kY (j:=g.names.length+1+5) l.b (by rw[ag,aQ];exact ae hi (ae ok.rules dQ))
     (oI (JN (j:=g.names.length+2+5) l.c') (se (ae O.1 dQ) (Uh (n:=r.right.length+1) (v:=i) rfl (aK (ae O.1 (by decide:3<=999)))
      (.ext (j:=g.names.length+2+5) rfl l.c' xF (λh=>nomatch h) (by
       rw[nr,nr,bv]
       exact c3 (ae (bw (AG ok hi) (aK O.1)) dQ)) (L.nx [7] _ l.e rfl))))))))))))
  λU u=>u.casesOn λe=>vz (j:=g.names.length+2+5) (l:=g.owners) (by rw[e];exact rY (j:=2) rfl) (ae (AG ok (ao _)) dQ) (gZ (j:=3) (d:=.Z7 [] []) rfl rfl
   (gM (M':=gB g x y z++(iJ g).map (λl=>Ob.list (cV l))++mO g g.rules.length g.rules.length) (by rw[e];unfold iJ;rw[aJ];rfl) (D4 (gZ (j:=g.names.length+0+5) (d:=.list ((List.range g.names.length).map λs=>cS (g.ofLeft s))) (qb (j:=0) rfl) (NZ g)
    (gM (M':=gB g x y z++(iJ g).map (λl=>Ob.Z3 (cS l))++u6 g 0) (xS (j:=0)) (gZ (j:=g.names.length+1+5) (d:=cS ((List.range g.rules.length).map g.off)) (qb (j:=1) rfl) (rP _) (gM (M':=gB g x y z++(iJ g).map (λl=>Ob.Z3 (cS l))++u6 g 1) (xS (j:=1))
     (gZ (j:=g.names.length+2+5) (d:=cS g.owners) (qb (j:=2) rfl) (rP _) (gM (M':=gB g x y z++(iJ g).map (λl=>Ob.Z3 (cS l))++u6 g 2) (xS (j:=2)) (go (hQ _ _ N0))))))))))))
theorem Od{x y z:Ob}(hk:2<=k)(q:∀M',c7 M' (.own 4)=some g.d->K (.own 4) M'):Nw G k 735 [.sh (cP g.names),.sh (.int g.tc),.sh (.list g.ZR),.own 3,.sh .none,.sh (.int g.start)] [x,y,z,.Z7 []] K X:=
 tH rfl (P.g7 0) rfl hk (gT 9 (uR (l:=g.names) (f:=λ_ s=>.str s) (λT:LB=>x::y::z::.Z7 []::.inst 735 [(9,.sh (cP g.names)),(10,.sh (.int g.tc)),(19,.sh (.list g.ZR)),(52,.own 3),(53,.sh .none),(54,.sh (.int g.start))]::T)
  (λi acc T=>i<=g.names.length/\T=List.replicate i (.list [])/\acc=(List.range i).map λs=>.own (s+5)) [] ⟨aL _,rfl,rfl⟩ dG
  (λi acc T h=>by rw[h.2.2,ag,aQ];exact c3 (ok.ZK h.1))
  (λi c acc T R hc h a _=>.inr (a _ (T++[.list []]) ⟨dc hc,by rw[h.2.1,←List.replicate_succ'],by rw[h.2.1,h.2.2,cn,ay];show _++[cJ.own ((List.replicate i (Ob.list [])).length+5)]=_;rw[bv];rfl⟩))
  λacc T h=>have O:T.length=g.names.length:=by rw[h.2.1,bv]
   .inr (.inr (.inr (Oc P ok (p:=T.length) (p2:=(T++[Ob.list acc]).length) (p3:=(T++[Ob.list acc]++[Ob.list []]).length) (U:=T++[Ob.list acc]++[Ob.list []]++[Ob.list []]) O (by rw[ak,O];rfl) (by rw[ak,ak,O];rfl)
    ⟨by rw[h.2.1,h.2.2,aP,aP];rw[←N1 g];rfl⟩ λE M' hf=>q M' hf)))))
end
noncomputable def h9(l:LQ)(x:Str):LQ:=if x∈l then l else l++[x]
theorem CJ{l:LQ}{x:Str}(h:l.Nodup):(h9 l x).Nodup:=by
 unfold h9
 split
 ·exact h
 ·rename_i U
  rw[bH]
  exact⟨h,bR.mpr ⟨(nomatch·),bx⟩,λa O b hb e=>U (by cases aF.mp hb;exact e▸O)⟩
theorem Ft{l:LQ}{x y:Str}:y∈h9 l x↔y∈l∨y=x:=by
 unfold h9
 split
 ·rename_i U
  exact⟨.inl,λh=>h.elim id λe=>e▸U⟩
 ·rw[aI,aF]
def gv(l:LQ)(xs:LQ):LQ:=xs.foldl h9 l
theorem tI:∀{xs l:LQ},l.Nodup->(gv l xs).Nodup
|[],_,h=>h
|_::xs,_,h=>tI (xs:=xs) (CJ h)
theorem oP{y:Str}:∀{xs l:LQ},y∈gv l xs↔y∈l∨y∈xs
 |[],l=>by show y∈l↔_;exact⟨.inl,λh=>h.elim id λh=>dh h⟩
 |x::xs,l=>by
  show y∈gv (h9 l x) xs↔_
  rw[oP,Ft,aM,or_assoc]
theorem Gv(l xs ys:LQ):gv l (xs++ys)=gv (gv l xs) ys:=List.foldl_append
theorem tJ:∀{xs l:LQ},∃r,gv l xs=l++r
 |[],l=>⟨[],(aS l).symm⟩
 |x::xs,l=>by
  obtain ⟨r,hr⟩:=tJ (xs:=xs) (l:=h9 l x)
  by_cases U:x∈l
  ·have e:h9 l x=l:=al U
   rw[e] at hr;exact⟨r,by show gv (h9 l x) xs=_;rw[e,hr]⟩
  ·have e:h9 l x=l++[x]:=av U
   rw[e] at hr;exact⟨x::r,by show gv (h9 l x) xs=_;rw[e,hr,aP];rfl⟩
theorem qI{α:Type}[DecidableEq α]:∀{m l:List α},l.Nodup->(∀x∈l,x∈m)->l.length<=m.length
 |[],[],_,_=>ao _
 |[],x::_,_,h=>dh (h x (.head _))
 |y::m,l,hn,h=>by
  have h1:=qI (m:=m) (l:=l.filter λx=>decide (x≠y)) (hn.sublist b0) λx U=>by
   obtain ⟨a,b⟩:=aT.mp U
   exact(aM.mp (h x a)).resolve_left (aD b)
  have h2:l.length<=(l.filter λx=>decide (x≠y)).length+1:=by
   clear h h1
   induction l with
   |nil=>exact aL _
   |cons a l ih=>
    obtain ⟨O,hn2⟩:=bR.mp hn
    by_cases e:a=y
    ·subst e
     have:(List.filter (λx=>decide (x≠a)) (a::l))=l:=by
      rw[cj,av (by simp)]
      exact List.filter_eq_self.mpr λx U=>aG λe=>O (e▸U)
     rw[this];exact ao _
    ·rw[cj,al (aG e)]
     exact aK (ih hn2)
  exact ae h2 (aK h1)
noncomputable abbrev Pairs:=List (Str×LQ)
def cZ(ps:Pairs):LQ:=gv [] (iq ps)
noncomputable def iN:LQ:=["$end","error","$undefined"]
noncomputable def IE:LQ:=["$end","error","$undefined","a","b","c","t","u"]
noncomputable def kG(ps:Pairs):LQ:=(ps.flatMap λp=>p.2)
def nk(lf:LQ)(l xs:LQ):LQ:=gv l (xs.filter λx=>decide (x∉lf))
def toks(ps:Pairs):LQ:=nk (cZ ps) iN (kG ps)
noncomputable def uH:LQ:=["$accept"]
def de(ps:Pairs):LQ:=toks ps++uH++cZ ps
def c4(ps:Pairs)(x:Str):Nat:=(de ps).idxOf x
noncomputable def mR(tc:Nat)(l:LN):Int:=l.foldl (λa s=>if s<tc then(s:Int) else a) (-1)
def i4(ps:Pairs)(p:Str×LQ):Rl:=⟨c4 ps p.1,p.2.map (c4 ps),mR (toks ps).length (p.2.map (c4 ps))⟩
def cO(ps:Pairs):cL:=⟨de ps,(toks ps).length,⟨(toks ps).length,[c4 ps "s",0],0⟩::ps.map (i4 ps),c4 ps "s"⟩
section
variable{ps:Pairs}
theorem yA:(cZ ps).Nodup:=tI bx
theorem jo{x:Str}:x∈cZ ps↔x∈iq ps:=by unfold cZ;rw[oP];exact⟨λh=>h.elim (λh=>dh h) id,.inr⟩
theorem jQ{x:Str}:x∈iq ps↔∃p∈ps,p.1=x:=aB
variable(ok:e9 ps)
theorem IG:(toks ps).Nodup:=tI dQ
include ok
theorem mT{x:Str}(h:x∈cZ ps):x∈gR:=by
 obtain ⟨p,O,rfl⟩:=jQ.mp (jo.mp h)
 exact ok.left p O
theorem Q7{x:Str}(h:x∈kG ps):x∈eK:=by
 obtain ⟨p,O,U⟩:=List.mem_flatMap.mp h
 exact(ok.right p O).2 x U
theorem vG{x:Str}(h:x∈toks ps):x∈iN∨(x∈eK/\x∉cZ ps):=by
 rcases oP.mp h with h|h
 ·exact .inl h
 ·obtain ⟨U,O⟩:=aT.mp h
  exact .inr ⟨Q7 ok U,aD O⟩
omit ok in
theorem IH{x:Str}(h:x∈iN):x∈toks ps:=oP.mpr (.inl h)
omit ok in
theorem V9{x:Str}(h:x∈kG ps)(hn:x∉cZ ps):x∈toks ps:=oP.mpr (.inr (aT.mpr ⟨h,aG hn⟩))
theorem IF{x:Str}(h:x∈toks ps)(q:x∈cZ ps):False:=by
 rcases vG ok h with h|h
 ·have:∀x∈gR,x∉iN:=by decide
  exact this x (mT ok q) h
 ·exact h.2 q
theorem tU(O:ps≠[]):("s":Str)∈cZ ps:=by
 cases ps with
 |nil=>exact absurd rfl O
 |cons p r=>exact jo.mpr (jQ.mpr ⟨p,.head _,ok.hd p rfl⟩)
theorem Ru:(de ps).Nodup:=by
 unfold de
 rw[bH,bH]
 refine⟨⟨IG,bR.mpr ⟨(nomatch·),bx⟩,λa O b hb e=>?_⟩,yA,λa O b hb e=>?_⟩
 ·cases aF.mp hb
  subst e
  rcases vG ok O with h|h
  ·revert h;decide
  ·have:=h.1;revert this;decide
 ·subst e
  rcases aI.mp O with h|h
  ·exact IF ok h hb
  ·cases aF.mp h
   have:=mT ok hb;revert this;decide
theorem tM{x:Str}(h:x∈cZ ps):c4 ps x=(toks ps).length+1+(cZ ps).idxOf x/\c4 ps x<(de ps).length:=by
 have hn:x∉toks ps++uH:=λq=>by
  rcases aI.mp q with q|q
  ·exact IF ok q h
  ·cases aF.mp q
   have:=mT ok h;revert this;decide
 refine⟨?_,List.idxOf_lt_length_iff.mpr (b6 _ h)⟩
 unfold c4 de
 rw[List.idxOf_append,av hn,ak,Nat.add_comm];rfl
omit ok in
theorem qJ{x:Str}(h:x∈toks ps):c4 ps x=(toks ps).idxOf x/\c4 ps x<(toks ps).length:=by
 have e:c4 ps x=(toks ps).idxOf x:=by
  unfold c4 de
  rw[aP,List.idxOf_append,al h]
 exact⟨e,e▸List.idxOf_lt_length_iff.mpr h⟩
omit ok in
theorem we{x:Str}(h:x∈de ps):(de ps)[c4 ps x]?=some x:=by
 have hl:=List.idxOf_lt_length_iff.mpr h
 unfold c4
 rw[aC hl,List.getElem_idxOf]
omit ok in
theorem oG{x:Str}(h:x∈cZ ps):x∈de ps:=b6 _ h
omit ok in
theorem wC{x:Str}(h:x∈toks ps):x∈de ps:=bM _ (bM _ h)
omit ok in
theorem RI{x y:Str}(O:x∈de ps)(hy:y∈de ps)(h:c4 ps x=c4 ps y):x=y:=by
 have U:=we O
 rw[h,we hy] at U
 exact(aq U).symm
omit ok in
theorem BD:3<=(toks ps).length:=by
 obtain ⟨r,hr⟩:=tJ (l:=iN) (xs:=(kG ps).filter λx=>decide (x∉cZ ps))
 show 3<=(gv _ _).length
 rw[hr,ak];exact aW 3 _
omit ok in
theorem GI{x:Str}(h:x∈toks ps)(hn:x∉iN):3<=c4 ps x:=by
 rw[(qJ h).1]
 obtain ⟨r,hr⟩:=tJ (l:=iN) (xs:=(kG ps).filter λx=>decide (x∉cZ ps))
 show 3<=List.idxOf x (gv _ _)
 rw[hr,List.idxOf_append,av hn];exact Nat.le_add_left 3 _
theorem wD(O:ps≠[]):(toks ps).length<=8:=by
 refine ae (qI IG (m:=IE) λx U=>?_) (ao 8)
 rcases vG ok U with h|⟨h,h2⟩
 ·exact bM (["a","b","c","t","u"]:LQ) h
 ·have hs:x≠"s":=λe=>h2 (e▸tU ok O)
  have:∀x∈eK,x≠"s"->x∈IE:=by decide
  exact this x h hs
theorem sj:(cZ ps).length<=3:=qI yA λx U=>mT ok U
theorem wt{p:Str×LQ}(hp:p∈ps){x:Str}(U:x∈p.2):3<=c4 ps x/\c4 ps x≠(toks ps).length/\c4 ps x<(de ps).length/\x∈de ps:=by
 by_cases hl:x∈cZ ps
 ·have h:=tM ok hl
  have:=BD (ps:=ps)
  exact⟨by lia,by lia,h.2,oG hl⟩
 ·have O:=V9 (List.mem_flatMap.mpr ⟨p,hp,U⟩) hl
  have h:=qJ O
  refine⟨GI O λq=>?_,by lia,?_,wC O⟩
  ·have:∀x∈eK,x∉iN:=by decide
   exact this x ((ok.right p hp).2 x U) q
  ·unfold de;rw[ak,ak];lia
theorem vb{r:Nat}{x:Rl}(h:(cO ps).rules[r+1]?=some x):∃p,ps[r]?=some p/\x=i4 ps p:=by
 have h:(ps.map (i4 ps))[r]?=some x:=h
 rw[aA] at h
 obtain ⟨p,U,rfl⟩:=oM h
 exact⟨p,U,rfl⟩
theorem qe(O:ps≠[])(hl:ps.length<=6):dz (cO ps) where
 tc:=BD
 r0:=⟨0,rfl⟩
 start:=by
  have h:=tM ok (tU ok O)
  exact⟨by show(toks ps).length<c4 ps "s";lia,h.2⟩
 left:=λr x hr h=>by
  cases r with
  |zero=>exact absurd rfl hr
  |succ r=>
   obtain ⟨p,U,rfl⟩:=vb ok h
   have h:=tM ok (jo.mpr (jQ.mpr ⟨p,ax U,rfl⟩))
   exact⟨by show(toks ps).length<c4 ps p.1;lia,h.2⟩
 right:=λr x hr h=>by
  cases r with
  |zero=>exact absurd rfl hr
  |succ r=>
   obtain ⟨p,U,rfl⟩:=vb ok h
   have hp:=ax U
   refine⟨by show(p.2.map _).length<=3;rw[ag];exact(ok.right p hp).1,λs hs=>?_⟩
   obtain ⟨x,hx,rfl⟩:=aB.mp hs
   have:=wt ok hp hx
   exact⟨this.1,this.2.1,this.2.2.1⟩
 rules:=by show(ps.map _).length+1<=7;rw[ag];exact Nat.lt_succ_of_le (by assumption)
 names:=by
  show(de ps).length<=20
  have U:=wD ok O
  have h2:=sj ok
  unfold de;rw[ak,ak];show _+1+_<=20;lia
 ZN:=wD ok O
 nodup:=Ru ok
end
theorem E6{tc:Nat}{l:LN}{i s:Nat}(h:l[i]?=some s):mR tc (l.take (i+1))=if s<tc then(s:Int) else mR tc (l.take i):=by
 unfold mR
 rw[take_snoc h,List.foldl_append];rfl
theorem vW{l a:LQ}{i:Nat}{x:Str}(h:l[i]?=some x):gv a (l.take (i+1))=h9 (gv a (l.take i)) x:=by
 rw[take_snoc h];exact Gv _ _ [x]
theorem V8{lf a xs:LQ}{x:Str}:nk lf a (xs++[x])=if x∈lf then nk lf a xs else h9 (nk lf a xs) x:=by
 unfold nk
 rw[bL,Gv]
 by_cases h:x∈lf
 ·rw[al h,cC (p:=λx=>decide (x∉lf)) (λq=>aD q h)];rfl
 ·rw[av h,List.filter_cons_of_pos (p:=λx=>decide (x∉lf)) (aG h)];rfl
theorem V7{lf xs:LQ}(h:∀x∈xs,x∈eK):(nk lf iN xs).length<=9:=
 qI (m:=iN++eK) (tI dQ) λx U=>(oP.mp U).elim (λU=>bM _ U) λU=>b6 _ (h x (aT.mp U).1)
theorem Ut{ps:Pairs}{i:Nat}{p:Str×LQ}(h:ps[i]?=some p):kG (ps.take (i+1))=kG (ps.take i)++p.2:=by
 unfold kG
 rw[take_snoc h,List.flatMap_append]
 show _++(p.2++[])=_
 rw[aS]
theorem Fi{ps:Pairs}(ok:e9 ps)(O:ps≠[]):∃r:LQ,cZ ps=("s":Str)::r:=by
 cases ps with
 |nil=>exact absurd rfl O
 |cons p r=>
  obtain ⟨t,U⟩:=tJ (l:=[p.1]) (xs:=iq r)
  refine⟨t,?_⟩
  have e:cZ (p::r)=gv [p.1] (iq r):=rfl
  rw[e,U,ok.hd p rfl];rfl
theorem r7{M:LB}{K:KT}{l:LQ}{c:Str}(hm:c∈l)(hl:l.length<=1000)(q:K (.sh (.int (l.idxOf c:Nat))) M):MethP M K (.sh (cP l)) 36 [.sh (.str c)]:=.index nZ rfl (c3 hl) hm q
theorem xe{l:LQ}{x:Str}(h:x∈l):h9 l x=l:=al h
theorem uI{l:LQ}{x:Str}(h:x∉l):h9 l x=l++[x]:=av h
theorem pR{M:LB}{K:KT}{j:Nat}{x:Str}{l:LQ}(hm:M[j]?=some (.list (dy l)))(hl:l.length<=1000)(q:K (.sh .none) (M.set j (.list (dy (l++[x]))))):MethP M K (.own j) 72 [.sh (.str x)]:=
 app hm (by unfold dy;rw[ag];exact c3 hl) (by unfold dy at q⊢;rw[ay] at q;exact q)
theorem My{turn:Nat->D->LB->(Option cJ->XT)->Prop}{α:Type}{l:List α}{f:Nat->α->D}{ds:LD}{M:LB}{K:KT}(g:α->Nat)(hd:∀i,ds[i]?=(l[i]?).map (f i))(hl:l.length<=1000)
 (ht:∀i x(R:Option cJ->XT),l[i]?=some x->R (some (.sh (.int (g x:Nat)))) M->turn i (f i x) M R) (q:K (.sh (cS (l.map g))) M):Cm turn (λvs O=>gI vs O K) ds M:=
 lP (g:=λx=>.int (g x:Nat)) hd hl ht (by unfold cS at q;rw[aJ] at q;exact q)
theorem Fh{ps:Pairs}(ok:e9 ps)(i:Nat):(gv [] ((iq ps).take i)).length<=1000:=
 ae (qI (m:=gR) (tI bx) λx U=>(oP.mp U).elim (λU=>dh U) λU=>mT ok (jo.mpr (cD U))) dQ
theorem QC{x:Str}(h:x∈gR):x≠"error"/\x.length=1/\x∉(["","$","'"]:LQ):=by
 have:∀x∈gR,x≠"error"/\x.length=1/\x∉(["","$","'"]:LQ):=by decide
 exact this x h
theorem vB{ps:Pairs}{i:Nat}{p:Str×LQ}(h:ps[i]?=some p):(iq ps)[i]?=some p.1:=by unfold iq;rw[aA,h];rfl
structure pO(ps:Pairs)(i j:Nat)(p:Str×LQ)(T:LQ):Prop where
e:T=nk (cZ ps) iN (kG (ps.take i)++p.2.take j)
theorem pO.len{ps:Pairs}{i j:Nat}{p:Str×LQ}{T:LQ}(t:pO ps i j p T)(ok:e9 ps)(hp:p∈ps):T.length<=1000:=by
 rw[t.e]
 refine ae (V7 λy U=>?_) dQ
 exact(aI.mp U).elim (λU=>(List.mem_flatMap.mp U).elim λO h=>(ok.right O (cD h.1)).2 y h.2) λU=>(ok.right p hp).2 y (cD U)
theorem pO.step{ps:Pairs}{i j:Nat}{p:Str×LQ}{T O:LQ}{x:Str}(t:pO ps i j p T)(U:p.2[j]?=some x)(h:O=if x∈cZ ps then T else h9 T x):pO ps i (j+1) p O:=⟨by
 rw[h,t.e,take_snoc U,←aP,V8]⟩
section
variable{G:Gd}{k f n:Nat}{M:LB}{K:KT}{X:XT}(P:dO G)
include P
theorem Qs{l:LN}{tc:Nat}(hk:2<=k)(q:K (.sh (.int (mR tc l))) M):Cl G k 752 [.sh (dH l),.sh (.int tc)] M K X:=
 dj (P.g2 24) (ds:=[dH l,.int tc]) rfl (R:=λd=>d=.int (mR tc l)) hk (λd h=>h▸q)
  (go (dZ (l:=l) (λ_ (a:Int)=>[some (.sh (dH l)),some (.sh (.int tc)),some (.sh (.int a)),none]) (λ_ _=>[]) (λi a=>a=mR tc (l.take i)) (-1) rfl dG
   (λi s a P' U e L=>go (bI (λh=>L.nx [3] _ (by rw[E6 U,al (aV.mp h)]) rfl) λh=>L.nx [3] a (by rw[E6 U,av λq=>h (aV.mpr q),e]) rfl))
   λa e=>⟨_,rfl,by rw[e,hH]⟩))
theorem S5{ps:Pairs}(ok:e9 ps)(O:ps≠[])(h6:ps.length<=6):
 Go G 2 0 (C6.drop 6) [some (.sh (dP ps)),some (.sh .none),some (.own 0),none,none,some (.sh (.str "s")),some (.own 1),none,none,none,none] [.list (dy (cZ ps)),.list (dy (toks ps))] (wq λd=>d=(cO ps).d):=
 have gk:=qe ok O h6
 have hs:("s":Str)∈de ps:=oG (tU ok O)
 have hn:(de ps).length<=1000:=ae gk.names dQ
 have ht:(toks ps).length<=1000:=ae (wD ok O) dQ
 have h3:=sj ok
 have h8:=wD ok O
 gT 4 (mS rfl (ag _) (c3 ht) (.inl ⟨_,rfl,jN (b:=uH) (xQ rfl) rfl (ae (bf h8 1) dQ) (jN rfl (xQ rfl) (by rw[ak];exact ae (bw (bf h8 1) h3) dQ)
  (r7 (l:=de ps) hs hn (Hc P (nu:=0) (left:=(toks ps).length) (right:=[c4 ps "s",0]) (lv:=0) dQ (.inr
   (rV (l:=ps) (g:=λ_ p=>[.str p.1,cP p.2]) (λ_ (_:LV)=>[some (.sh (dP ps)),some (.sh .none),some (.own 0),none,none,some (.sh (.str "s")),some (.sh (cP (de ps))),none,some (.sh (.int ((toks ps).length:Nat))),some (.own 2),none])
    (λ_ R=>[.list (dy (cZ ps)),.list (dy (toks ps)),.list R]) (λi R=>R=((cO ps).ZR.take (i+1)).map .sh) [.sh (Rl.d ⟨(toks ps).length,[c4 ps "s",0],0⟩ 0)] (by rw[take_snoc (tS (g:=cO ps) (r:=0) rfl)];rfl) dG (λ_ _=>rfl)
    (λi p R P' hp e L=>have hpm:=ax hp
     have hp3:=ae (ok.right p hpm).1 (by decide:3<=1000)
     have hi:=dc hp
     have hrl:(cO ps).rules[i+1]?=some (i4 ps p):=(aA).trans (aj _ hp)
     have U:R.length=i+1:=by
      rw[e,ag,bb,(xj o6)]
      exact cu (show i+1<=(ps.map _).length+1 by rw[ag];exact aK (aH hi))
     have hmx:i+1<=mx:=c3 (ae hi (ae h6 dQ))
     go (My (l:=p.2) (c4 ps) dG hp3 (λj x R hx h=>r7 (l:=de ps) (wt ok hpm (ax hx)).2.2.2 hn h) (.tuple rfl (by rw[ag,ag];exact c3 hp3)
      (mS (j:=2) rfl U hmx (r7 (l:=de ps) (oG (jo.mpr (jQ.mpr ⟨p,hpm,rfl⟩))) hn (Qs P dQ (Hc P (nu:=i+1) (left:=c4 ps p.1) (right:=p.2.map (c4 ps)) (lv:=mR (toks ps).length (p.2.map (c4 ps))) dQ
       (app (j:=2) rfl (U▸hmx) (L.nx [3,4,10] _ (by rw[e,take_snoc (tS hrl),ay];rfl) rfl)))))))))
    λR e=>gF (i:=9) (j:=2) (d:=.list (cO ps).ZR) rfl rfl (by
     rw[e,cz (by rw[(xj o6)];exact bn (aj Nat.succ (ag _)))]
     show(data _ ((cO ps).ZR.map .sh)).map D.list=_
     rw[rQ];rfl) (go ⟨0,r7 (l:=de ps) hs hn (Od P gk dQ λM' h=>⟨_,h,rfl⟩)⟩))))))⟩))
theorem S3{ps:Pairs}(ok:e9 ps)(O:ps≠[])(h6:ps.length<=6)(hk:4<=k)(q:K (.sh (cO ps).d) M):Cl G k 758 [.sh (dP ps)] M K X:=
 have gk:=qe ok O h6
 have hs:("s":Str)∈cZ ps:=tU ok O
 have l3:(cZ ps).length<=1000:=ae (sj ok) dQ
 (Fi ok O).elim λr hr=>
 dj (P.g1 14) (ds:=[dP ps]) rfl (R:=λd=>d=(cO ps).d) hk (λd h=>h▸q)
  (gT 2 (.inr (rV (l:=ps) (g:=λ_ p=>[.str p.1,cP p.2]) (λ_ (_:LQ)=>[some (.sh (dP ps)),some (.sh .none),some (.own 0),none,none,none,none,none,none,none,none]) (λ_ L=>[.list (dy L)]) (λi L=>L=gv [] ((iq ps).take i)) [] rfl dG (λ_ _=>rfl)
   (λi p T P' U e L=>have h3:=QC (ok.left p (ax U))
    go (bF h3.1 (.str rfl h3.2.1 (r5 (l:=["","$","'"]) (.inr rfl) (λh=>absurd h h3.2.2) λ_=>jT (l:=T) (.inl (gY rfl)) (λh=>L.nx [3,4] T (by rw[vW (vB U),←e,xe h]) rfl)
     λh=>pR rfl (e▸Fh ok i) (L.nx [3,4] _ (by rw[vW (vB U),←e,uI h]) rfl)))))
   λT e=>have e:T=cZ ps:=e.trans (by rw[cz (by unfold iq;rw[ag];exact ao _)];rfl)
    gM (M':=[.list (dy (cZ ps))]) (by rw[e]) (gT 4 (.inl ⟨[],rfl,.eq (b:=(dy (cZ ps)).isEmpty) (.emp (gY rfl) rfl) (by
     rw[show(dy (cZ ps)).isEmpty=false by rw[hr];rfl]
     exact oI (jP (i:=0) (v:=.sh (.str "s")) rfl (by rw[hr];rfl)) (jT (l:=cZ ps) (.inl (gY rfl)) (λ_=>.inr
      (rV (l:=ps) (g:=λ_ p=>[.str p.1,cP p.2]) (λ_ (_:LQ)=>[some (.sh (dP ps)),some (.sh .none),some (.own 0),none,none,some (.sh (.str "s")),some (.own 1),none,none,none,none]) (λ_ T=>[.list (dy (cZ ps)),.list (dy T)]) (λi T=>T=nk (cZ ps) iN (kG (ps.take i))) iN rfl dG (λ_ _=>rfl)
       (λi p T P' U e L=>have hpm:=ax U
        go (dZ (l:=p.2) (λ_ (_:LQ)=>[some (.sh (dP ps)),some (.sh .none),some (.own 0),some (.sh (.str p.1)),some (.sh (cP p.2)),some (.sh (.str "s")),some (.own 1),none,none,none,none]) (λ_ T=>[.list (dy (cZ ps)),.list (dy T)]) (λj T=>pO ps i j p T) T ⟨by rw[e,List.take_zero,aS]⟩ dG
         (λj x T P' hx t L=>go (jT (l:=cZ ps) (.inl (gY rfl)) (λh=>L.nx [7] T (t.step hx (al h).symm) rfl)
          λh=>jT (l:=T) (.inl (gY rfl)) (λh2=>L.nx [7] T (t.step hx (by rw[av h,xe h2])) rfl) λh2=>pR rfl (t.len ok hpm) (L.nx [7] _ (t.step hx (by rw[av h,uI h2])) rfl)))
         λT t=>L.nx [3,4,7] T (by rw[Ut U,t.e,hH]) rfl))
       λT e=>gM (M':=[.list (dy (cZ ps)),.list (dy (toks ps))]) (by rw[e,hH];rfl) (S5 P ok O h6))) λh=>absurd hs h))⟩)))))
end
def ef(lf:LQ)(h:Str->LQ):List (Str×cJ):=lf.map λx=>(x,.sh (cP (h x)))
noncomputable def mn(h:Str->LQ)(k:Str)(v:LQ):Str->LQ:=λx=>if x=k then v else h x
theorem ub{h:Str->LQ}{k:Str}{v:LQ}:mn h k v k=v:=al rfl
theorem wH{h:Str->LQ}{k x:Str}{v:LQ}(e:x≠k):mn h k v x=h x:=av e
section
variable{lf:LQ}{h:Str->LQ}{k:Str}
theorem xK(hk:k∈lf):c6 (ef lf h) k=some (.sh (cP (h k))):=by
 induction lf with
 |nil=>exact dh hk
 |cons x lf O=>
  unfold c6 ef
  by_cases e:x=k
  ·subst e
   rw[aN,List.find?_cons_of_pos (p:=λy:Str×cJ=>decide (y.1=x)) (aG rfl)];rfl
  ·rw[aN,List.find?_cons_of_neg (p:=λy:Str×cJ=>decide (y.1=k)) (λq=>e (aD q))]
   exact O ((aM.mp hk).resolve_left λq=>e q.symm)
theorem Np(hk:k∉lf):c6 (ef lf h) k=none:=uY λx U e=>by
 obtain ⟨y,O,rfl⟩:=aB.mp U
 exact hk (e▸O)
theorem Nq{v:LQ}(hk:k∈lf):dq (ef lf h) k (.sh (cP v))=ef lf (mn h k v):=by
 unfold dq ef
 rw[al (show(List.any _ λx:Str×cJ=>decide (x.1=k))=true from List.any_eq_true.mpr ⟨(k,.sh (cP (h k))),aB.mpr ⟨k,hk,rfl⟩,aG rfl⟩),aJ]
 refine cx λx _=>?_
 show(if x=k then _ else _)=_
 unfold mn
 by_cases e:x=k
 ·rw[al e,al e]
 ·rw[av e,av e]
theorem Nn{v:LQ}(hk:k∉lf)(hv:h k=v):dq (ef lf h) k (.sh (cP v))=ef (lf++[k]) h:=by
 rw[lR λx U e=>by obtain ⟨y,O,rfl⟩:=aB.mp U;exact hk (e▸O)]
 unfold ef
 rw[ay,←hv];rfl
end
def eG(nm:LQ)(l:LQ):Prop:=l.Nodup/\∀x∈l,x∈nm
theorem eG.len{nm l:LQ}(h:eG nm l)(hn:nm.length<=20):l.length<=20:=ae (qI h.1 h.2) hn
theorem eG.add{nm l:LQ}{x:Str}(h:eG nm l)(U:x∈nm):eG nm (h9 l x):=⟨CJ h.1,λy O=>(Ft.mp O).elim (h.2 y) λe=>e▸U⟩
theorem eG.out{nm l:LQ}{x:Str}(h:eG nm l)(U:x∈nm)(hl:x∉l):eG nm (l++[x]):=uI hl▸h.add U
theorem eG.one{nm:LQ}{x:Str}(U:x∈nm):eG nm [x]:=⟨bR.mpr ⟨(nomatch·),bx⟩,λy O=>aF.mp O▸U⟩
theorem DA{n:Nat}{lf:LQ}{h:Str->LQ}:(((ef lf h).map (·.2)).all (cJ.lt n))=true:=bh.mpr λx U=>by
 obtain ⟨y,O,rfl⟩:=aB.mp U
 obtain ⟨z,_,rfl⟩:=aB.mp O;rfl
theorem Wv{n:Nat}{l:LQ}:(dy l).all (cJ.lt n)=true:=bh.mpr λx U=>by
 obtain ⟨y,_,rfl⟩:=aB.mp U;rfl
def gO(lf:LQ)(h b:Str->LQ)(em:LQ):LB:=[.Z3 (cP lf),.Z4 (ef lf h),.list (dy em),.Z4 (ef lf b)]
theorem J1{lf em:LQ}{h b:Str->LQ}:qo 4 (gO lf h b em)=true:=by
 unfold qo gO
 rw[List.all_cons,List.all_cons,List.all_cons,List.all_cons,show Ob.lt 4 (.Z4 (ef lf h))=true from DA,show Ob.lt 4 (.list (dy em))=true from Wv,show Ob.lt 4 (.Z4 (ef lf b))=true from DA];rfl
section
variable{G:Gd}{k f n:Nat}{E:Ev}{M:LB}{K:KT}{X:XT}
theorem OG{y:cJ}{lf:LQ}{h:Str->LQ}{c:Str}{K:Bool->Prop}(hv:view M y=some (.Z4 (ef lf h)))(a:c∈lf->K true)(b:c∉lf->K false):fq M K (.sh (.str c)) y .In:=
 .has (.ds hv) (by
  by_cases O:c∈lf
  ·rw[xK O];exact a O
  ·rw[Np O];exact b O)
theorem oA{lf:LQ}{h:Str->LQ}{c:Str}{j:Nat}(hm:M[j]?=some (.Z4 (ef lf h)))(hc:c∈lf):fX M (.own j) (.sh (.str c))=some (.sh (cP (h c))):=by
 show(view M (.own j)).bind _=_
 rw[show view M (.own j)=some (.Z4 (ef lf h)) by show(M[j]?).bind _=_;rw[hm];rfl];exact xK hc
variable(P:dO G)
include P
theorem Ot{lf em right nm:LQ}{h b:Str->LQ}(hk:2<=k)(hn:nm.length<=20)(hh:∀x∈lf,eG nm (h x))(hr:∀x∈right,x∈nm)(q:∀fd,eG nm fd->K (.sh (cP fd)) (gO lf h b em)):
 Cl G k 1169 [.sh (cP right),.own 1,.own 2] (gO lf h b em) K X:=
 have fin:∀fd,eG nm fd->∃d,c7 (gO lf h b em++[Ob.list (dy fd)]) (.own 4)=some d/\(∀j,cJ.own 4=.own j->4<=j)/\qo 4 (gO lf h b em)=true/\K (.sh d) (gO lf h b em):=λfd hf=>⟨_,xQ (l:=fd) rfl,λj e=>by cases e;exact ao _,J1,q fd hf⟩
 uP (eL (P.g3 12) rfl hk (go (.inr (dZ (l:=right) (λ_ (_:LQ)=>[some (.sh (cP right)),some (.own 1),some (.own 2),some (.own 4),none,none]) (λ_ fd=>gO lf h b em++[Ob.list (dy fd)]) (λ_ fd=>eG nm fd) [] ⟨bx,λx U=>dh U⟩ dG
  (λi x fd P' U O L=>have U:=hr x (ax U)
   jn 1 (λ(_:LQ)=>[some (.sh (cP right)),some (.own 1),some (.own 2),some (.own 4),some (.sh (.str x)),none]) (λfd=>gO lf h b em++[Ob.list (dy fd)]) (λfd=>eG nm fd)
    (λN nx=>
     have key:∀L,eG nm L->ri G 0 4 [5] false 0 [.ite (.cmp .NotIn (.loc 5) (.loc 3)) [.expr (.Z9 (.loc 3) 72 [(.loc 5)])] []] N P' [some (.sh (cP right)),some (.own 1),some (.own 2),some (.own 4),some (.sh (.str x)),none] (L.map .str) (gO lf h b em++[Ob.list (dy fd)]):=λL hL=>
      dZ (l:=L) (λ_ (_:LQ)=>[some (.sh (cP right)),some (.own 1),some (.own 2),some (.own 4),some (.sh (.str x)),none]) (λ_ fd=>gO lf h b em++[Ob.list (dy fd)]) (λ_ fd=>eG nm fd) fd O dG
       (λj y fd P' hy O L=>have hy:=hL.2 y (ax hy)
        go (jT (l:=fd) (.inl (gY rfl)) (λ_=>L.nx [5] fd O rfl) λh2=>pR rfl (ae (O.len hn) dQ) (L.nx [5] (fd++[y]) (O.out hy h2) rfl)))
       λfd O=>nx [] fd O rfl
     OG (lf:=lf) (h:=h) rfl (λh2=>oI (oA (j:=1) rfl h2) (key _ (hh x h2))) λh2=>.inl ⟨_,rfl,key [x] (.one U)⟩)
    λfd O=>go (jT (l:=em) (.inl (gY rfl)) (λ_=>L.nx [4,5] fd O rfl) λ_=>L.rt (fin fd O)))
  fin))))
end
theorem Dn{c:Nat}:∀{nm l:LQ},(∀x∈l,x∈nm)->(∀x,l.count x<=c)->l.length<=nm.length*c
 |[],[],_,_=>aL _
 |[],x::_,h,_=>dh (h x (.head _))
 |y::nm,l,h,O=>by
  have U:=Dn (c:=c) (nm:=nm) (l:=l.filter λx=>!(x==y)) (λx hx=>by
   obtain ⟨a,b⟩:=aT.mp hx
   exact(aM.mp (h x a)).resolve_left λe=>by subst e;simp at b) λx=>ae (b0.count_le x) (O x)
  have e:=List.length_eq_countP_add_countP (λx=>x==y) (l:=l)
  rw[List.countP_eq_length_filter (p:=λa=>decide ¬(a==y)=true)] at e
  have e2:(l.filter λa=>decide ¬(a==y)=true)=l.filter λx=>!(x==y):=by
   refine List.filter_congr λx _=>?_
   cases (x==y)<;>rfl
  rw[e2] at e
  have h1:l.countP (λx=>x==y)<=c:=O y
  rw[e,bU,Nat.succ_mul,Nat.add_comm]
  exact bw U h1
noncomputable def k6(lf:LQ)(b:Str->LQ)(x:Str):Nat:=(lf.filter λk=>decide (x∈b k)).length
theorem xN{p q:Str->Bool}(h:∀x,p x=true->q x=true):∀l:LQ,(l.filter p).length<=(l.filter q).length
 |[]=>ao _
 |x::l=>by
  have O:=xN h l
  rw[cj,cj]
  by_cases U:p x=true
  ·rw[al U,al (h x U)];exact aK O
  ·rw[av U]
   by_cases hq:q x=true
   ·rw[al hq];exact bW O
   ·rw[av hq];exact O
theorem DX{p q:Str->Bool}{k:Str}(h:∀x,p x=true->q x=true)(h1:p k=false)(h2:q k=true):∀{l:LQ},k∈l->(l.filter p).length+1<=(l.filter q).length
 |x::l,hk=>by
  rw[cj,cj]
  by_cases e:k=x
  ·subst e
   rw[h1,av Bool.false_ne_true,al h2];exact aK (xN h l)
  ·have O:=DX h h1 h2 ((aM.mp hk).resolve_left e)
   by_cases U:p x=true
   ·rw[al U,al (h x U)];exact aK O
   ·rw[av U]
    by_cases hq:q x=true
    ·rw[al hq];exact bW O
    ·rw[av hq];exact O
structure jY(nm lf:LQ)(b:Str->LQ):Prop where
mem:∀k∈lf,∀x∈b k,x∈nm
cnt:∀k∈lf,∀x,(b k).count x<=3*k6 lf b x+1
structure iR(nm lf:LQ)(b:Str->LQ)(j:Nat)(l:LQ):Prop where
mem:∀x∈l,x∈nm
cnt:∀x,l.count x<=3*k6 lf b x+1+j
def iO(b:Str->LQ)(k:Str)(l:LQ):Str->LQ:=mn b k (b k++l.filter λx=>decide (x∉b k))
section
variable{nm lf:LQ}{b:Str->LQ}{k:Str}{l:LQ}{j:Nat}
theorem GZ{y:Str}{x:Str}(h:x∈b y):x∈iO b k l y:=by
 unfold iO
 by_cases e:y=k
 ·subst e;rw[ub];exact bM _ h
 ·rw[wH e];exact h
theorem Dd{x:Str}:k6 lf b x<=k6 lf (iO b k l) x:=xN (p:=λy=>decide (x∈b y)) (q:=λy=>decide (x∈iO b k l y)) (λy h=>aG (GZ (aD h))) lf
theorem MC{x:Str}:k6 lf b x<=lf.length:=br ..
theorem MD(hk:k∈lf){x:Str}(U:x∉b k)(O:x∈l):k6 lf b x+1<=k6 lf (iO b k l) x:=
 DX (p:=λy=>decide (x∈b y)) (q:=λy=>decide (x∈iO b k l y)) (k:=k) (λy h=>aG (GZ (aD h))) (bu U) (aG (by
  unfold iO
  rw[ub]
  exact b6 _ (aT.mpr ⟨O,aG U⟩))) hk
theorem iR.put(h:iR nm lf b j l){O:LQ}:iR nm lf (iO b k O) j l:=⟨h.mem,λx=>ae (h.cnt x) (bf (bf (bS 3 Dd) 1) j)⟩
theorem jY.put(hb:jY nm lf b)(h:iR nm lf b j l)(hj:j<=2)(hk:k∈lf):jY nm lf (iO b k l):=by
 refine⟨λy U x hx=>?_,λy U x=>?_⟩
 ·by_cases e:y=k
  ·subst e
   unfold iO at hx
   rw[ub] at hx
   rcases aI.mp hx with hx|hx
   ·exact hb.mem y U x hx
   ·exact h.mem x (aT.mp hx).1
  ·unfold iO at hx
   rw[wH e] at hx;exact hb.mem y U x hx
 ·have m1:k6 lf b x<=k6 lf (iO b k l) x:=Dd
  by_cases e:y=k
  ·subst e
   have O:iO b y l y=b y++l.filter λx=>decide (x∉b y):=ub
   rw[O,List.count_append]
   have h1:=hb.cnt y U x
   by_cases hx:x∈b y
   ·have:(l.filter λx=>decide (x∉b y)).count x=0:=List.count_eq_zero.mpr λq=>(aD (aT.mp q).2) hx
    lia
   ·have h0:(b y).count x=0:=List.count_eq_zero.mpr hx
    have h2:(l.filter λx=>decide (x∉b y)).count x<=l.count x:=b0.count_le x
    have h3:=h.cnt x
    by_cases hl:x∈l
    ·have:=MD (b:=b) (l:=l) hk hx hl
     lia
    ·have:l.count x=0:=List.count_eq_zero.mpr hl
     lia
  ·have O:iO b k l y=b y:=wH e
   rw[O]
   have h1:=hb.cnt y U x
   lia
theorem jY.Y3(hb:jY nm lf b)(hk:k∈lf):iR nm lf b 0 (b k):=⟨hb.mem k hk,hb.cnt k hk⟩
theorem iR.len(h:iR nm lf b j l)(U:j<=3)(hn:nm.length<=20)(hl:lf.length<=3):l.length<=300:=by
 refine ae (Dn (c:=13) h.mem λx=>?_) (ae (Nat.mul_le_mul_right 13 hn) dQ)
 have O:=h.cnt x
 have h2:k6 lf b x<=lf.length:=MC
 lia
theorem iR.more(h:iR nm lf b j l){hd:LQ}(U:eG nm hd):iR nm lf b (j+1) (hd++l):=by
 refine⟨λx O=>(aI.mp O).elim (U.2 x) (h.mem x),λx=>?_⟩
 rw[List.count_append]
 have h1:=h.cnt x
 have h2:=List.nodup_iff_count.mp U.1 x
 lia
theorem iR.nd{hd:LQ}(U:eG nm hd):iR nm lf b j hd:=⟨U.2,λx=>by
 have O:=List.nodup_iff_count.mp U.1 x
 lia⟩
theorem eG.app{hd fd:LQ}(h:eG nm hd)(q:eG nm fd):eG nm (hd++fd.filter λx=>decide (x∉hd)):=by
 refine⟨bH.mpr ⟨h.1,q.1.sublist b0,λa O c hc e=>?_⟩,λx U=>(aI.mp U).elim (h.2 x) λU=>q.2 x (aT.mp U).1⟩
 subst e
 exact aD (aT.mp hc).2 O
theorem Ri{l:LQ}{i:Nat}{x:Str}(h:l.Nodup)(hx:l[i]?=some x):x∉l.take i:=λq=>by
 obtain ⟨j,U,e⟩:=bp.mp q
 have O:=U
 rw[bb] at O
 have h1:l[j]?=some x:=by
  have:=aC U
  rw[e,List.getElem?_take_of_lt (by lia)] at this;exact this
 have h2:=(b9 (by lia) h).mp (h1.trans hx.symm)
 lia
end
noncomputable def kj:LQ:=["$end"]
def ke(l:Str):LQ:=if l="s" then kj else[]
def kd(lf:LQ)(b:Str->LQ):D:=.Z4 lf (lf.map λx=>cP (b x))
theorem WZ{lf:LQ}{b:Str->LQ}:lf.zip ((lf.map λx=>cP (b x)).map cJ.sh)=ef lf b:=by
 unfold ef
 rw[aJ]
 induction lf with
 |nil=>rfl
 |cons x l O=>rw[aN,List.zip_cons_cons,O];rfl
theorem J3{M:LB}{lf:LQ}{b:Str->LQ}:view M (.sh (kd lf b))=some (.Z4 (ef lf b)):=by
 show some (Ob.Z4 (lf.zip _))=_
 rw[WZ]
theorem J2{M:LB}{lf:LQ}{b:Str->LQ}{j:Nat}(h:M[j]?=some (.Z4 (ef lf b))):c7 M (.own j)=some (kd lf b):=by
 have U:(ef lf b).map (·.2)=lf.map λx=>.sh (cP (b x)):=by unfold ef;rw[aJ];rfl
 have O:(ef lf b).map (·.1)=lf:=by unfold ef;rw[aJ];exact List.map_id' _
 show(M[j]?).bind (fR M)=_
 rw[h]
 show(data M ((ef lf b).map (·.2))).map (D.con (.Z4 ((ef lf b).map (·.1))))=_
 rw[U,O,ig λx=>cP (b x)];rfl
theorem J5{ps:Pairs}(ok:e9 ps):jY (de ps) (cZ ps) ke:=⟨λk _ x U=>by
 by_cases e:k="s"
 ·rw[show ke k=kj from al e] at U
  cases aF.mp U
  exact wC (IH dQ)
 ·rw[show ke k=[] from av e] at U;exact(dh U),λk _ x=>by
 have O:(ke k).length<=1:=by
  by_cases e:k="s"
  ·rw[show ke k=kj from al e];exact ao 1
  ·rw[show ke k=[] from av e];exact aL 1
 exact ae (ae List.count_le_length O) (Nat.le_add_left 1 _)⟩
structure nN(ps:Pairs)(s:(Str->LQ)×LQ×(Str->LQ)):Prop where
h:∀x∈cZ ps,eG (de ps) (s.1 x)
b:jY (de ps) (cZ ps) s.2.2
e:eG (cZ ps) s.2.1
theorem nN.upd{ps:Pairs}{h b:Str->LQ}{em fd:LQ}{k:Str}(U:∀x∈cZ ps,eG (de ps) (h x))(hb:jY (de ps) (cZ ps) b)(he:eG (cZ ps) em)(hk:k∈cZ ps)(hf:eG (de ps) fd):nN ps (mn h k (h k++fd.filter λx=>decide (x∉h k)),em,b):=⟨λx O=>by
 by_cases e:x=k
 ·subst e;show eG _ (mn h x _ x);rw[ub];exact(U x O).app hf
 ·show eG _ (mn h k _ x);rw[wH e];exact U x O,hb,he⟩
section
variable{G:Gd}{k f n:Nat}{E:Ev}{M:LB}{K:KT}{X:XT}
theorem HK{K:XT}{lf:LQ}{h:Str->LQ}{c:Str}{j:Nat}{v:LQ}(hm:M[j]?=some (.Z4 (ef lf h)))(hc:c∈lf)(hl:lf.length<=1000)(q:K (M.set j (.Z4 (ef lf (mn h c v))))):iS M K (.sh (cP v)) (.own j) (.sh (.str c)):=
 .Z4 hm (by unfold ef;rw[ag];exact c3 hl) (Nq hc▸q)
theorem Bt{v:LQ}{K:XT}{O:Pairs}{h:Str->LQ}{c:Str}{j i:Nat}(hv:v=h c)(hi:(cZ O)[i]?=some c)(hm:M[j]?=some (.Z4 (ef ((cZ O).take i) h)))(hl:(cZ O).length<=1000)(q:K (M.set j (.Z4 (ef ((cZ O).take (i+1)) h)))):iS M K (.sh (cP v)) (.own j) (.sh (.str c)):=
 .Z4 hm (by unfold ef;rw[ag];exact c3 (ae (bK ..) hl)) (by rw[hv,Nn (Ri yA hi) rfl,←take_snoc hi];exact q)
theorem xt{em l:LQ}{f:Nat->Str->D}{ds:LD}{turn:Nat->D->LB->(Option cJ->XT)->Prop}(hd:∀i,ds[i]?=(l[i]?).map (f i))(hl:l.length<=1000)
 (ht:∀i x(R:Option cJ->XT),l[i]?=some x->(x∈em->R none M)->(x∉em->R (some (.sh (.str x))) M)->turn i (f i x) M R) (q:K (.sh (cP (l.filter λx=>decide (x∉em)))) M):Cm turn (λvs O=>gI vs O K) ds M:=
 nY (λx=>decide (x∉em)) (λx=>.str x) hd hl (λi x R U a b=>ht i x R U (λe=>b (bu λq=>q e)) λe=>a (aG e)) q
theorem Uk{x:cJ}{l:LQ}(U:c7 M x=some (cP l))(hl:l.length<=1000)(q:K (.sh (cP l.reverse)) M):pH M K x:=.mk U (by rw[ag];exact c3 hl) (.inl (by rw[←List.map_reverse];exact q))
variable(P:dO G)
include P
theorem Qy{ps:Pairs}(ok:e9 ps)(hn:(de ps).length<=20){N:Ev->XT}{P':dX}{lap:Nat}{p:Str×LQ}{s:(Str->LQ)×LQ×(Str->LQ)}(hpm:p∈ps)(O:nN ps s)
 (L:∀s,nN ps s->∀c d,N [some (.sh (dP ps)),some (.sh (cP (cZ ps))),some (.sh (.str p.1)),some (.sh (cP p.2)),some (.own 1),some (.own 2),some (.own 3),some (.sh (.int (lap:Nat))),c,d] (gO (cZ ps) s.1 s.2.2 s.2.1)) (e:P'.next=N):
 Go G 2 0 [
  .ite (.and (.cmp .Eq (.Z5 .len [(.comp 2 [1] false [5] 0 (.loc 3) (some (.cmp .NotIn (.loc 1) (.loc 2))) (.loc 1))]) (.const (.int 0))) (.cmp .NotIn (.loc 2) (.loc 5))) [.expr (.Z9 (.loc 5) 72 [(.loc 2)])] [],
  .assign (.loc 9) (.idx (.loc 6) (.loc 2)),
  .for (.loc 8) 0 (.rev (.loc 3)) [.ite (.cmp .In (.loc 8) (.loc 1)) [
   .assign (.idx (.loc 6) (.loc 8)) (.bin .Add (.idx (.loc 6) (.loc 8)) (.comp 2 [1] false [6,8] 0 (.loc 9) (some (.cmp .NotIn (.loc 1) (.idx (.loc 2) (.loc 3)))) (.loc 1))),
   .assign (.loc 9) (.bin .Add (.idx (.loc 4) (.loc 8)) (.ZV (.cmp .In (.loc 8) (.loc 5)) (.loc 9) (.list [])))] [.assign (.loc 9) (.list [(.loc 8)])]],
  .assign (.idx (.loc 4) (.loc 2)) (.bin .Add (.idx (.loc 4) (.loc 2)) (.comp 2 [1] false [4,2] 0 (.call 1169 [(.loc 3),(.loc 4),(.loc 5)]) (some (.cmp .NotIn (.loc 1) (.idx (.loc 2) (.loc 3)))) (.loc 1)))]
  [some (.sh (dP ps)),some (.sh (cP (cZ ps))),some (.sh (.str p.1)),some (.sh (cP p.2)),some (.own 1),some (.own 2),some (.own 3),some (.sh (.int (lap:Nat))),none,none] (gO (cZ ps) s.1 s.2.2 s.2.1) P':=
 have hl:p.1∈cZ ps:=jo.mpr (jQ.mpr ⟨p,hpm,rfl⟩)
 have hp3:=(ok.right p hpm).1
 have hp:p.2.length<=1000:=ae hp3 dQ
 have hpn:∀x∈p.2,x∈de ps:=λx U=>(wt ok hpm U).2.2.2
 have l3:=sj ok
 have lf:(cZ ps).length<=1000:=ae l3 dQ
 have k1:∀{a b:Nat},a<=300->b<=300->a+b<=1000:=λha hb=>ae (bw ha hb) dQ
 have k2:∀{a:Nat},a<=20->a<=300:=λha=>ae ha dQ
 jn 1 (λ(_:LQ)=>[some (.sh (dP ps)),some (.sh (cP (cZ ps))),some (.sh (.str p.1)),some (.sh (cP p.2)),some (.own 1),some (.own 2),some (.own 3),some (.sh (.int (lap:Nat))),none,none]) (λem=>gO (cZ ps) s.1 s.2.2 em) (λem=>eG (cZ ps) em)
  (λN nx=>xt (em:=s.2.1) (l:=p.2) dG hp (λi x R U a b=>jT (l:=s.2.1) (.inl (gY rfl)) a b) (jl (ae (br ..) hp) (bI (λ_=>jT (l:=s.2.1) (.inl (gY rfl)) (λ_=>nx [] s.2.1 O.e rfl)
   λh2=>pR rfl (ae (O.e.len (ae l3 dQ)) dQ) (nx [] (s.2.1++[p.1]) (O.e.out hl h2) rfl)) λ_=>nx [] s.2.1 O.e rfl)))
  λem he=>go (oI (oA (j:=3) rfl hl) (Uk rfl hp (dZ (l:=p.2.reverse) (λ_ (t:(Str->LQ)×LQ)=>[some (.sh (dP ps)),some (.sh (cP (cZ ps))),some (.sh (.str p.1)),some (.sh (cP p.2)),some (.own 1),some (.own 2),some (.own 3),some (.sh (.int (lap:Nat))),none,some (.sh (cP t.2))]) (λ_ t=>gO (cZ ps) s.1 t.1 em)
   (λj t=>jY (de ps) (cZ ps) t.1/\iR (de ps) (cZ ps) t.1 j t.2) (s.2.2,s.2.2 p.1) ⟨O.b,O.b.Y3 hl⟩ dG
   (λj x t P' U ht L=>have hj:j<3:=aR (dc U) (by rw[List.length_reverse];exact hp3)
    have hll:=ht.2.len (aH hj) hn l3
    have hl1:t.2.length<=1000:=ae hll dQ
    go (r5 (l:=cZ ps) (.inl nZ) (λU=>have hb':=ht.1.put ht.2 (Nat.le_of_lt_succ hj) U
     oI (oA (j:=3) rfl U) (xt (em:=t.1 x) (l:=t.2) dG hl1 (λi y R hy a b=>oI (oA (j:=3) rfl U) (jT (l:=t.1 x) (.inl nZ) a b)) (jN rfl rfl (k1 ((ht.1.Y3 U).len dQ hn l3) (ae (br ..) hll)) (HK (j:=3) rfl U lf
      (oI (oA (j:=1) rfl U) (r5 (l:=em) (.inl (gY rfl)) (λ_=>jN rfl rfl (k1 (k2 ((O.h x U).len hn)) hll) (L.nx [8] (iO t.1 x t.2,s.1 x++t.2) ⟨hb',ht.2.put.more (O.h x U)⟩ rfl))
       λ_=>.inl ⟨[],rfl,jN (b:=[]) rfl rfl (k1 (k2 ((O.h x U).len hn)) (aL _)) (L.nx [8] (iO t.1 x t.2,s.1 x++[]) ⟨hb',by rw[aS];exact iR.nd (O.h x U)⟩ rfl)⟩))))))
     λ_=>.inl ⟨_,rfl,L.nx [8] (t.1,[x]) ⟨ht.1,iR.nd (.one (hpn x (List.mem_reverse.mp (ax U))))⟩ rfl⟩))
   λt ht=>oI (oA (j:=1) rfl hl) (Ot P dQ hn O.h hpn λfd hfd=>xt (em:=s.1 p.1) (l:=fd) dG (ae (hfd.len hn) dQ) (λi y R hy a b=>oI (oA (j:=1) rfl hl) (jT (l:=s.1 p.1) (.inl nZ) a b))
    (jN rfl rfl (k1 (k2 ((O.h p.1 hl).len hn)) (ae (br ..) (k2 (hfd.len hn)))) (HK (j:=1) rfl hl lf (e▸L _ (nN.upd O.h ht.1 he hl hfd) _ _)))))))
theorem Qz{ps:Pairs}(ok:e9 ps)(hne:ps≠[])(h6:ps.length<=6)(hk:4<=k)(q:∀b,jY (de ps) (cZ ps) b->K (.sh (kd (cZ ps) b)) M):Cl G k 1162 [.sh (dP ps)] M K X:=
 have l3:(cZ ps).length<=1000:=ae (sj ok) dQ
 have hn:(de ps).length<=20:=(qe ok hne h6).names
 (Fi ok hne).elim λr hr=>
 dj (P.g1 27) (ds:=[dP ps]) rfl (R:=λd=>∃b,jY (de ps) (cZ ps) b/\d=kd (cZ ps) b) hk (λd h=>h.elim λb h=>h.2▸q b h.1)
  (gT 2 (.inr (rV (l:=ps) (g:=λ_ p=>[.str p.1,cP p.2]) (λ_ (_:LQ)=>[some (.sh (dP ps)),some (.own 0),none,none,none,none,none,none,none,none]) (λ_ L=>[.list (dy L)]) (λi L=>L=gv [] ((iq ps).take i)) [] rfl dG (λ_ _=>rfl)
   (λi p T P' hp e L=>go (jT (l:=T) (.inl (gY rfl)) (λh=>L.nx [2,3] T (by rw[vW (vB hp),←e,xe h]) rfl)
    λh=>pR rfl (e▸Fh ok i) (L.nx [2,3] _ (by rw[vW (vB hp),←e,uI h]) rfl)))
   λT e=>have e:T=cZ ps:=e.trans (by rw[cz (by unfold iq;rw[ag];exact ao _)];rfl)
    gM (M':=[.list (dy (cZ ps))]) (by rw[e]) (gF (i:=1) (j:=0) (d:=cP (cZ ps)) rfl rfl (by show(data _ (dy _)).map D.list=_;rw[uW];rfl) (gT 4 ⟨1,.inr ⟨1,
     dZ (l:=cZ ps) (λ_ (_:List (Str×cJ)×List (Str×cJ))=>[some (.sh (dP ps)),some (.sh (cP (cZ ps))),none,none,some (.own 1),some (.own 2),some (.own 3),none,none,none]) (λ_ t=>[.Z3 (cP (cZ ps)),.Z4 t.1,.list (dy []),.Z4 t.2]) (λi t=>t.1=ef ((cZ ps).take i) (λ_=>[])/\t.2=ef ((cZ ps).take i) ke) ([],[]) ⟨rfl,rfl⟩ dG
      (λi x t P' U e L=>go (.inl ⟨[],rfl,Bt (v:=[]) (j:=1) (h:=λ_=>[]) rfl U (e.1▸rfl) l3 (oI (dJ (i:=0) (d:=.str "s") (by rw[hr];rfl)) (bI
       (λh=>.inl ⟨[.str "$end"],rfl,Bt (v:=kj) (j:=3) (h:=ke) (al h).symm U (e.2▸rfl) l3 (L.nx [2] (_,_) ⟨rfl,rfl⟩ rfl)⟩)
       λh=>.inl ⟨[],rfl,Bt (v:=[]) (j:=3) (h:=ke) (av h).symm U (e.2▸rfl) l3 (L.nx [2] (_,_) ⟨rfl,rfl⟩ rfl)⟩))⟩))
      λt e=>gM (M':=gO (cZ ps) (λ_=>[]) ke []) (by rw[e.1,e.2,hH];rfl) (go
       (kx (z:=8) (λ_ (_:(Str->LQ)×LQ×(Str->LQ))=>[some (.sh (dP ps)),some (.sh (cP (cZ ps))),none,none,some (.own 1),some (.own 2),some (.own 3),none,none,none]) (λ_ s=>gO (cZ ps) s.1 s.2.2 s.2.1) (λ_ s=>nN ps s) (λ_=>[],[],ke) ⟨λx _=>⟨bx,λx U=>dh U⟩,J5 ok,bx,λx U=>dh U⟩
        (λlap s P' hlap O L=>go (rV (l:=ps) (g:=λ_ p=>[.str p.1,cP p.2]) (λ_ (_:(Str->LQ)×LQ×(Str->LQ))=>[some (.sh (dP ps)),some (.sh (cP (cZ ps))),none,none,some (.own 1),some (.own 2),some (.own 3),some (.sh (.int (lap:Nat))),none,none]) (λ_ s=>gO (cZ ps) s.1 s.2.2 s.2.1) (λ_ s=>nN ps s) s O dG (λ_ _=>rfl)
         (λi p s P' hp O L=>Qy P ok hn (ax hp) O (λs hs c d=>L.nx [2,3,8,9] s hs rfl) rfl)
         λs O=>L.nx [7] s O rfl))
        λs O=>⟨_,J2 (j:=3) (b:=s.2.2) rfl,s.2.2,O.b,rfl⟩))⟩⟩)))))
end
def pE(n:Nat)(es:List (LJ×cJ)):Prop:=∀x∈es,∃m:Nat,m<2^n/\x.2=.sh (.int (m:Int))
theorem pE.set{n:Nat}{a z:Int}{es:List (LJ×cJ)}{k:LJ}(h:pE n es)(hz:z=a.fmod ((2^n:Nat):Int)):pE n (dq es k (.sh (.int z)))/\(dq es k (.sh (.int z))).length<=es.length+1:=by
 obtain ⟨m,hm,e⟩:=pY (a:=a) (Nat.two_pow_pos n)
 rw[hz,e]
 unfold dq
 split
 ·refine⟨λx hx=>?_,by rw[ag];exact aU _⟩
  obtain ⟨y,U,rfl⟩:=aB.mp hx
  split
  ·exact⟨m,hm,rfl⟩
  ·exact h y U
 ·refine⟨λx hx=>?_,by rw[ak];exact ao _⟩
  rcases aI.mp hx with hx|hx
  ·exact h x hx
  ·cases aF.mp hx;exact⟨m,hm,rfl⟩
noncomputable def vV(v:cJ):Nat:=match v with
| .sh (.int i)=>i.toNat
|_=>0
theorem pE.full{g:cL}{es:List (LJ×cJ)}(h:pE g.tc es){M:LB}{j:Nat}(hm:M[j]?=some (.Z2 es)):c7 M (.own j)=some (lg (es.map (·.1)) (es.map λx=>vV x.2))/\rk g (es.map (·.1)) (es.map λx=>vV x.2):=by
 have O:es.map (·.2)=(es.map λx=>vV x.2).map λi:Nat=>cJ.sh (.int (i:Int)):=by
  rw[aJ]
  refine cx λx U=>?_
  obtain ⟨m,_,e⟩:=h x U
  show x.2=.sh (.int ((vV x.2:Nat):Int))
  rw[e];rfl
 refine⟨?_,by rw[ag,ag],λm hm=>?_⟩
 ·show(M[j]?).bind (fR M)=_
  rw[hm]
  show(data M (es.map (·.2))).map (D.con (.Z2 (es.map (·.1))))=_
  rw[O,ig λi:Nat=>D.int (i:Int)];rfl
 ·obtain ⟨x,U,rfl⟩:=aB.mp hm
  obtain ⟨m,h1,e⟩:=h x U
  rw[e];exact h1
inductive Cw(ps:Pairs):Nat->Prop
|mk (r:Nat) (p:Str×LQ):ps[r]?=some p->p.1∈cZ ps->Cw ps (r+1)
theorem T9{ps:Pairs}{sts:List LS}{i r:Nat}{st:LS}(ok:e9 ps)(au:kM (cO ps) sts)(hs:sts[i]?=some st)(hr:r∈st.ZZ):Cw ps r:=by
 obtain ⟨hr0,x,hx,_⟩:=(au.good i st hs).red r hr
 obtain ⟨O,rfl⟩:∃O,r=O+1:=⟨r-1,by lia⟩
 obtain ⟨p,U,rfl⟩:=vb ok hx
 exact⟨O,p,U,jo.mpr (jQ.mpr ⟨p,ax U,rfl⟩)⟩
structure Cu(n s c:Nat)(t:List (LJ×cJ)×Nat×Int):Prop where
m:pE n t.1
s:t.2.1<=s+c
l:t.1.length<=c
theorem SR{s s' c:Nat}(hs:s<=2^30)(h:s'<=s+c)(hc:c<=2^22):s'<=2^40:=by lia
theorem Bx(r:Nat):((r+1:Nat):Int)-1=(r:Int):=by lia
section
variable{G:Gd}{k f n:Nat}{M:LB}{K:KT}{X:XT}
theorem O3{lf:LQ}{b:Str->LQ}{c:Str}(hc:c∈lf):fX M (.sh (kd lf b)) (.sh (.str c))=some (.sh (cP (b c))):=by
 show(view M (.sh (kd lf b))).bind _=_
 rw[J3];exact xK hc
variable(P:dO G)
include P
theorem Eo{g:cL}{x:Str}(ok:dz g)(U:x∈g.names)(hk:2<=k)(q:K (.sh (.int (g.names.idxOf x:Nat))) M):Cl G k 697 [.sh g.d,.sh (.str x)] M K X:=
 dj (P.g2 19) (ds:=[g.d,.str x]) rfl (R:=λd=>d=.int (g.names.idxOf x:Nat)) hk (λd h=>h▸q)
  (go (r5 (l:=g.names) (.inl nZ) (λ_=>r7 (l:=g.names) U (ae ok.names dQ) ⟨_,rfl,rfl⟩) λh=>absurd U h))
theorem UJ{ps:Pairs}{sts:List LS}{l:LJ}{s:Nat}{a:Int}{way:Int}(ok:e9 ps)(U:ps≠[])(h6:ps.length<=6)(au:kM (cO ps) sts)(hl:l.length<=24)(hs:s<=2^30)(hk:6<=k)
 (q:∀ks ms s' a',rk (cO ps) ks ms->s'<=s+2^22->K (.sh (lg ks ms)) [eZ l s' a']):Cl G k 1176 [.own 0,.sh (.int way),.sh (fy (cO ps) sts),.sh (dP ps)] [eZ l s a] K X:=
 have gk:=qe ok U h6
 have t8:(toks ps).length<=2^26:=ae gk.ZN dQ
 have sz:∀{i:Nat},i<=sts.length->7*i+7<=2^22:=λh=>ae (bf (bS 7 (ae h au.size)) 7) dQ
 uP (eL (P.g4 6) rfl hk (gT 2 (Qz P ok U h6 dQ λb hb=>go ⟨2,
  dZ (l:=sts) (λ_ (_:List (LJ×cJ)×Nat×Int)=>[some (.own 0),some (.sh (.int way)),some (.sh (fy (cO ps) sts)),some (.sh (dP ps)),some (.sh (cO ps).d),some (.sh (kd (cZ ps) b)),some (.own 1),none,none,none,none]) (λ_ t=>[eZ l t.2.1 t.2.2,.Z2 t.1]) (λi t=>Cu (toks ps).length s (7*i) t) ([],s,a) ⟨λx hx=>(dh hx),ao _,ao _⟩ HW
   (λi st t P' c9 O L=>have gd:=au.good i st c9
    have hi:=dc c9
    go (dZ (l:=st.ZZ) (λ_ (_:List (LJ×cJ)×Nat×Int)=>[some (.own 0),some (.sh (.int way)),some (.sh (fy (cO ps) sts)),some (.sh (dP ps)),some (.sh (cO ps).d),some (.sh (kd (cZ ps) b)),some (.own 1),some (.sh (st.d i)),none,none,none]) (λ_ t=>[eZ l t.2.1 t.2.2,.Z2 t.1]) (λj t=>Cu (toks ps).length s (7*i+j) t) t O dG
     (λj r t P' hr O L=>have hj:=dc hr
      have c22:7*i+j<=2^22:=ae (bq (ae (aH hj) gd.rl) _) (sz (aH hi))
      (T9 ok au c9 (ax hr)).casesOn (motive:=λr _=>Go G 4 1 _ (List.set [some (.own 0),some (.sh (.int way)),some (.sh (fy (cO ps) sts)),some (.sh (dP ps)),some (.sh (cO ps).d),some (.sh (kd (cZ ps) b)),some (.own 1),some (.sh (st.d i)),none,none,none] 8 (some (.sh (.int (r:Nat))))) [eZ l t.2.1 t.2.2,.Z2 t.1] P') λr p hp hpl=>
      jn 2 (λu:Int×Nat×Int=>[some (.own 0),some (.sh (.int way)),some (.sh (fy (cO ps) sts)),some (.sh (dP ps)),some (.sh (cO ps).d),some (.sh (kd (cZ ps) b)),some (.own 1),some (.sh (st.d i)),some (.sh (.int (r+1:Nat))),some (.sh (.int u.1)),none]) (λu=>[eZ l u.2.1 u.2.2,.Z2 t.1]) (λu=>u.2.1<=s+(7*i+j)+1)
       (λN nx=>oI (pU t8) (bI (λ_=>oI (vj (Bx r) (lY (f:=pairD) hp)) (oI (O3 hpl)
        (dZ (l:=b p.1) (λ_ (mk:Int)=>[some (.own 0),some (.sh (.int way)),some (.sh (fy (cO ps) sts)),some (.sh (dP ps)),some (.sh (cO ps).d),some (.sh (kd (cZ ps) b)),some (.own 1),some (.sh (st.d i)),some (.sh (.int (r+1:Nat))),some (.sh (.int mk)),none]) (λ_ _=>[eZ l t.2.1 t.2.2,.Z2 t.1]) (λ_ _=>True) 0 trivial dG
         (λc y mk P' hy _ L=>have hyn:=hb.mem _ hpl y (ax hy)
          go (Eo P gk hyn dQ (oI (pU (ae (aH (List.idxOf_lt_length_iff.mpr hyn)) (ae gk.names dQ))) (L.nx [10] _ trivial rfl))))
         λmk _=>nx [10] (mk,t.2.1,t.2.2) (bW O.s) rfl)))
        λ_=>bI (λ_=>k8 P (j:=0) (m:=8) dQ rfl hl (SR hs O.s c22) dQ dQ λd s2 a2 hd hs2=>nx [] (1+8*(d:Int),s2,a2) (ae hs2 (aK O.s)) rfl)
         λ_=>nx [] (_,t.2.1,t.2.2) (bW O.s) rfl))
       λu hu=>go (oI (pU t8) (oI (uL (Int.ne_of_gt (aV.mpr (Nat.two_pow_pos _)))) (.Z2 (j:=1) (l:=[(i:Int),((r+1:Nat):Int)]) rfl rfl (ae O.l (ae c22 dQ)) (L.nx [8,9] (_,u.2.1,u.2.2) ⟨(O.m.set rfl).1,hu,ae (O.m.set rfl).2 (aK O.l)⟩ rfl)))))
     λt O=>L.nx [7] t ⟨O.m,ae O.s (bq (bq gd.rl _) s),ae O.l (bq gd.rl _)⟩ rfl))
   λt O=>have fu:=O.m.full (g:=cO ps) (M:=[eZ l t.2.1 t.2.2,.Z2 t.1]) (j:=1) rfl
    ⟨_,fu.1,λj e=>by cases e;exact ao 1,rfl,q _ _ t.2.1 t.2.2 fu.2 (ae O.s (bq (ae (aW _ 7) (sz (ao _))) s))⟩⟩)))
end
def dm(x:Str):D:=.inst 1072 [66,67,68,34] [.str x,.int 0,.list [],gj x]
def d8(nm:Str)(r:Nat)(ks:LD):D:=.inst 1037 [66,67,68] [.str nm,.int r,.list ks]
noncomputable def lV(d:D):Bool:=match d with
| .inst c _ _=>Nat.beq c 1072
|_=>false
noncomputable def BB(d:D):D:=match d with
| .inst _ _ (_::_::_::t::_)=>t
|_=>.none
noncomputable def AP(d:D):D:=match d with
| .inst _ _ (_::r::_)=>r
|_=>.none
inductive gG:D->Prop
|leaf x:gG (dm x)
|node nm r ks:gG (d8 nm r ks)
inductive Fo:LD->LQ->LD->LQ->LN->Prop
|nil:Fo [] [] [] [] []
|leaf {ds ns ps ts rs x}:Fo ds ns ps ts rs->Fo (ds++[dm x]) (ns++[x]) (ps++[dm x]) (ts++[x]) rs
|node {ds ns ps ts rs ks kn kp kt kr nm r}:Fo ds ns ps ts rs->Fo ks kn kp kt kr->Fo (ds++[d8 nm r ks]) (ns++[nm]) (ps++(kp++[d8 nm r ks])) (ts++kt) (rs++(kr++[r]))
inductive PL:LD->LQ->LN->Prop
|nil:PL [] [] []
|leaf {ps ts rs x}:PL ps ts rs->PL (dm x::ps) (x::ts) rs
|node {ps ts rs nm r ks}:PL ps ts rs->PL (d8 nm r ks::ps) ts (r::rs)
theorem PL.app{a b:LD}{U tb:LQ}{ra rb:LN}(h:PL a U ra)(q:PL b tb rb):PL (a++b) (U++tb) (ra++rb):=by
 induction h with
 |nil=>exact q
 |leaf _ O=>exact .leaf O
 |node _ O=>exact .node O
theorem Fo.pl{ds:LD}{ns:LQ}{ps:LD}{U:LQ}{rs:LN}(h:Fo ds ns ps U rs):PL ps U rs:=by
 induction h with
 |nil=>exact .nil
 |@leaf _ _ _ _ _ x _ O=>have:=O.app (.leaf (x:=x) .nil);rwa [aS] at this
 |@node _ _ _ _ _ ks _ _ _ _ nm r _ _ O ik=>
  have:=O.app (ik.app (.node (nm:=nm) (r:=r) (ks:=ks) .nil))
  rwa [aS] at this
theorem Fo.len{ds:LD}{ns:LQ}{ps:LD}{U:LQ}{rs:LN}(h:Fo ds ns ps U rs):ds.length<=ps.length/\ns.length=ds.length:=by
 induction h with
 |nil=>exact⟨ao _,rfl⟩
 |leaf _ O=>rw[ak,ak,ak];exact⟨aK O.1,aj (·+1) O.2⟩
 |node _ _ O _=>rw[ak,ak,ak,ak];exact⟨bw O.1 (Nat.le_add_left 1 _),aj (·+1) O.2⟩
theorem Fo.app{a b:LD}{na nb:LQ}{U pb:LD}{ta tb:LQ}{ra rb:LN}(h:Fo a na U ta ra)(q:Fo b nb pb tb rb):Fo (a++b) (na++nb) (U++pb) (ta++tb) (ra++rb):=by
 induction q with
 |nil=>simpa using h
 |leaf _ O=>rw[←aP,←aP,←aP,←aP];exact O.leaf
 |@node _ _ _ _ _ _ _ _ _ _ nm r _ h2 O _=>have:=O.node (nm:=nm) (r:=r) h2;simpa only[List.append_assoc] using this
theorem HG{α:Type}{a b l:List α}{x:α}(h:l++[x]=a++b):(b=[]/\a=l++[x])∨∃O,b=O++[x]/\l=a++O:=by
 rcases List.eq_nil_or_concat b with rfl|⟨O,y,rfl⟩
 ·rw[aS] at h;exact .inl ⟨rfl,h.symm⟩
 ·rw[List.concat_eq_append] at h⊢
  rw[←aP] at h
  obtain ⟨U,h2⟩:=List.append_inj' h rfl
  cases h2
  exact .inr ⟨O,rfl,U⟩
inductive Ca(a b:LD)(ns:LQ)(ps:LD)(ts:LQ)(rs:LN):Prop
|mk {n1 p1 t1 r1 n2 p2 t2 r2}:Fo a n1 p1 t1 r1->Fo b n2 p2 t2 r2->ns=n1++n2->ps=p1++p2->ts=t1++t2->rs=r1++r2->Ca a b ns ps ts rs
theorem nU{α:Type}{l a b:List α}(e:l=a++b)(c:List α):l++c=a++(b++c):=(aj (·++c) e).trans (aP ..)
theorem mH{α:Type}(l:List α):l=l++[]:=(aS l).symm
theorem Fo.split{ds:LD}{ns:LQ}{ps:LD}{ts:LQ}{rs:LN}(h:Fo ds ns ps ts rs):∀{a b:LD},ds=a++b->Ca a b ns ps ts rs:=by
 induction h with
 |nil=>intro a b e;rw[(List.append_eq_nil_iff.mp e.symm).1,(List.append_eq_nil_iff.mp e.symm).2];exact .mk .nil .nil rfl rfl rfl rfl
 |leaf U O=>exactλe=>(HG e).elim (λq=>by rw[q.1,q.2];exact .mk U.leaf .nil (mH _) (mH _) (mH _) (mH _)) λq=>q.elim λb' q=>(O q.2).casesOn λf1 f2 e1 e2 e3 e4=>.mk f1 (q.1▸f2.leaf) (nU e1 _) (nU e2 _) (nU e3 _) e4
 |node U h2 O _=>exactλe=>(HG e).elim (λq=>by rw[q.1,q.2];exact .mk (U.node h2) .nil (mH _) (mH _) (mH _) (mH _)) λq=>q.elim λb' q=>(O q.2).casesOn λf1 f2 e1 e2 e3 e4=>.mk f1 (q.1▸f2.node h2) (nU e1 _) (nU e2 _) (nU e3 _) (nU e4 _)
theorem PL.all{ps:LD}{U:LQ}{rs:LN}(h:PL ps U rs):(∀d∈ps,gG d)/\(ps.filter lV).map BB=U.map gj/\(ps.filter λd=>!lV d).map AP=rs.map λi:Nat=>D.int i:=by
 induction h with
 |nil=>exact⟨λd h=>(dh h),rfl,rfl⟩
 |leaf _ O=>exact⟨λd h=>(aM.mp h).elim (λe=>e▸.leaf _) (O.1 d),aj (List.cons _) O.2.1,O.2.2⟩
 |node _ O=>exact⟨λd h=>(aM.mp h).elim (λe=>e▸.node _ _ _) (O.1 d),O.2.1,aj (List.cons _) O.2.2⟩
theorem S6{M:LB}{K:KT}{j:Nat}{b xs:LV}{x:cJ}(hm:M[j]?=some (.list b))(e:b=xs++[x])(hl:xs.length+1<=1000)(q:K x (M.set j (.list xs))):MethP M K (.own j) 93 []:=.pop rfl (e▸hm) (c3 hl) q
theorem r3{α:Type}{l:List α}(i:Nat):l[i]?=(l[i]?).map ((λ_ x=>x) i):=Option.map_id'.symm
inductive nP(P:LD)(a b:LV)(m:Nat):Prop
|mk (fd l:LD) (ns:LQ) (ps:LD) (ts:LQ) (rs:LN):a=fd.map .sh->b=l.map .sh->Fo l ns ps ts rs->fd++ps.reverse=P.reverse->ps.length=m->nP P a b m
inductive Cp(P:LD)(a b:LV)(m:Nat):Prop
|mk (nd:D) (ks:LD) (vs:LV) (m':Nat):b=vs++[.sh nd]->(∀M,kb M (.sh nd) 68=some (.sh (.list ks)))->a.length<=1000->vs.length+ks.length+1<=1000->m'<m->nP P (a++[.sh nd]) (vs++ks.map .sh) m'->Cp P a b m
theorem nP.get{P:LD}{a b:LV}{m:Nat}(h:nP P a b m)(hP:P.length<=1000)(hb:b≠[]):Cp P a b m:=by
 obtain ⟨fd,l,ns,ps,ts,rs,rfl,rfl,hf,he,rfl⟩:=h
 have U:=aj List.length he
 rw[ak,List.length_reverse,List.length_reverse] at U
 have O:(fd.map cJ.sh).length<=1000:=by rw[ag];lia
 cases hf with
 |nil=>exact absurd rfl hb
 |@leaf ds _ ps _ _ x h1=>
  have h2:=h1.len.1
  rw[ak] at U
  have U:fd.length+(ps.length+1)=P.length:=U
  refine⟨dm x,[],ds.map .sh,ps.length,by rw[ay];rfl,λM=>rfl,O,by rw[ag,List.length_nil];lia,by rw[ak];exact bP _,fd++[dm x],ds,_,_,_,_,by rw[ay];rfl,by rw[List.map_nil,aS],h1,?_,rfl⟩
  rw[←he,List.reverse_append,aP];rfl
 |@node ds _ ps _ _ ks _ kp _ _ nm r h1 h2=>
  have h3:=h1.len.1
  have h4:=h2.len.1
  rw[ak,ak] at U
  have U:fd.length+(ps.length+(kp.length+1))=P.length:=U
  refine⟨d8 nm r ks,ks,ds.map .sh,(ps++kp).length,by rw[ay];rfl,λM=>rfl,O,by rw[ag];lia,by rw[ak,ak,ak];exact bP _,fd++[d8 nm r ks],ds++ks,_,_,_,_,by rw[ay];rfl,by rw[ay],h1.app h2,?_,rfl⟩
  rw[←he,←aP,List.reverse_append (as:=_++_),aP];rfl
theorem nP.fin{P:LD}{a b:LV}{m:Nat}(h:nP P a b m)(hb:b=[]):a=P.reverse.map .sh:=by
 obtain ⟨fd,l,ns,ps,U,rs,rfl,rfl,O,he,rfl⟩:=h
 cases O with
 |nil=>rw[←he];exact aj _ (aS fd).symm
 |leaf=>rw[ay] at hb;cases (List.append_eq_nil_iff.mp hb).2
 |node=>rw[ay] at hb;cases (List.append_eq_nil_iff.mp hb).2
section
variable{G:Gd}{k f n:Nat}{E:Ev}{M:LB}{K:KT}{X:XT}
theorem gG.tk{d:D}(h:gG d)(e:lV d=true):kb M (.sh d) 34=some (.sh (BB d)):=by
 cases h with
 |leaf=>rfl
 |node=>exact cX e
theorem gG.rl{d:D}(h:gG d):kb M (.sh d) 67=some (.sh (AP d)):=by cases h<;>rfl
theorem sk{ds:LD}(hl:ds.length<=1000)(q:K (.sh (.list ds)) M):fJ M K .list [.sh (.list ds)]:=.list (.inl rfl) (c3 hl) (.inl q)
variable(P:dO G)
include P
theorem QA{x:Str}(hk:2<=k)(q:K (.sh (dm x)) M):Nw G k 1072 [.sh (gj x)] M K X:=
 lq rfl (P.g2 36) (ds:=[gj x]) rfl (R:=λd=>d=dm x) hk (λd h=>h▸q) (go (.inl ⟨_,rfl,_,rfl,rfl⟩))
theorem Wh{nm:Str}{r:Nat}{ks:LD}(hk:2<=k)(hl:ks.length<=1000)(q:K (.sh (d8 nm r ks)) M):Nw G k 1037 [.sh (.str nm),.sh (.int r),.sh (.list ks)] M K X:=
 lq rfl (P.g4 4) (ds:=[.str nm,.int r,.list ks]) rfl (R:=λd=>d=d8 nm r ks) hk (λd h=>h▸q) (go (sk hl ⟨_,rfl,rfl⟩))
theorem gG.is{d:D}(h:gG d)(hk:2<=k)(q:K (.sh (.bool (lV d))) M):oE False (λm=>Fu G k (.sh d) 106 [] M K X m) (jR M (.sh d) 106):=by
 cases h with
 |leaf x=>exact dj (P.g1 21) (ds:=[dm x]) rfl (R:=λd=>d=.bool true) hk (λd h=>h▸q) (go ⟨_,rfl,rfl⟩)
 |node nm r ks=>exact dj (P.g1 18) (ds:=[d8 nm r ks]) rfl (R:=λd=>d=.bool false) hk (λd h=>h▸q) (go ⟨_,rfl,rfl⟩)
theorem GX{t:D}{ns:LQ}{ps:LD}{ts:LQ}{rs:LN}(hf:Fo [t] ns ps ts rs)(hl:ps.length<=1000)(hk:2<=k)(q:K (.sh (.list ps)) M):Cl G k 1081 [.sh t] M K X:=
 dj (P.g1 22) (ds:=[t]) rfl (R:=λd=>d=.list ps) hk (λd h=>h▸q) (go (.inr (.inr
  (qZ (λ_:LV×LV×Nat=>[some (.sh t),some (.own 0),some (.own 1),none,none]) (λs=>[.list s.1,.list s.2.1]) (λs=>nP ps s.1 s.2.1 s.2.2) (λs=>s.2.2) ([],[.sh t],ps.length) ⟨[],[t],ns,ps,ts,rs,rfl,rfl,hf,rfl,rfl⟩
   λs P' hI L=>.inl ⟨[],rfl,Aj (xs:=s.2.1) (gY rfl) (λhb=>(hI.get hl hb).casesOn λnd ks vs m' e ha O hn hm U=>
    go (S6 (M:=[.list s.1,.list s.2.1]) (j:=1) (x:=.sh nd) (xs:=vs) rfl e (ae (bf (aW _ _) 1) hn) (app rfl (c3 O) (oI (x:=.sh (.list ks)) (ha _)
     (dZ (l:=ks) (f:=λ_ x=>x) (λ_ (_:LV)=>[some (.sh t),some (.own 0),some (.own 1),some (.sh nd),none]) (λ_ ws=>[.list (s.1++[cJ.sh nd]),.list ws]) (λi ws=>ws=vs++(ks.take i).map .sh) vs (aS vs).symm r3
      (λi d ws P' hd e L=>go (app rfl (by
       rw[e,ak,ag]
       exact c3 (ae (bq (bK ..) _) (ae (aU _) hn))) (L.nx [4] (ws++[cJ.sh d]) (by rw[e,take_snoc hd,ay,aP];rfl) rfl)))
      λws e=>L.nx [3,4] (s.1++[cJ.sh nd],ws,m') ⟨hm,by rw[e,hH];exact U⟩ rfl)))))
    λhb=>have e:=hI.fin hb
     .mk (ds:=ps.reverse) (show(data _ s.1).map D.list=_ by rw[e,rQ];rfl) (by rw[List.length_reverse];exact c3 hl) (.inl ⟨_,rfl,by rw[List.reverse_reverse]⟩)⟩))))
theorem QB{t:D}{ns:LQ}{ps:LD}{U:LQ}{rs:LN}(hf:Fo [t] ns ps U rs)(hl:ps.length<=1000)(hk:4<=k)(q:K (.sh (.list (U.map gj))) M):Cl G k 1015 [.sh t] M K X:=
 have O:=hf.pl.all
 dj (P.g1 19) (ds:=[t]) rfl (R:=λd=>d=.list (U.map gj)) hk (λd h=>h▸q)
  (go (GX P hf hl dQ (nY (l:=ps) lV BB r3 hl (λi d R hd a b=>have ht:=O.1 d (ax hd)
   ht.is P dQ (bB (λe=>oI (ht.tk e) (a e)) b)) ⟨_,rfl,aj D.list O.2.1⟩)))
theorem Ub{t:D}{ns:LQ}{ps:LD}{ts:LQ}{rs:LN}(hf:Fo [t] ns ps ts rs)(hl:ps.length<=1000)(hk:4<=k)(q:K (.sh (cS rs)) M):Cl G k 1020 [.sh t] M K X:=
 have O:=hf.pl.all
 dj (P.g1 20) (ds:=[t]) rfl (R:=λd=>d=cS rs) hk (λd h=>h▸q)
  (go (GX P hf hl dQ (nY (l:=ps) (λd=>!lV d) AP r3 hl (λi d R hd a b=>have U:=O.1 d (ax hd)
   U.is P dQ (bB (λe=>b (aj not e)) λe=>oI U.rl (a (aj not e)))) ⟨_,rfl,aj D.list O.2.2⟩)))
end
noncomputable def dn(d:D):Str:=match d with
| .inst _ _ (.str x::_)=>x
|_=>""
def mX(x:D×Nat):Bool:=!lV x.1
def nl(ds:LD):LN:=(ds.zipIdx.filter mX).map (·.2)
noncomputable def gz(l:LQ):D:=.tup (l.map .str)
inductive DV(Q:Str->Prop)(ps:Pairs):LD->List LQ->LN->Prop
 |nil {bs:LQ}:(∀x∈bs,Q x)->DV Q ps (bs.map dm) [] []
 |step {a nm r ks fs rs} {bs:LQ}:(∀x∈bs,Q x)->ps[r]?=some (nm,ks.map dn)->(∀d∈a++ks,gG d)->DV Q ps (a++ks++bs.map dm) fs rs->
  DV Q ps (a++d8 nm (r+1) ks::bs.map dm) ((a++ks++bs.map dm).map dn::fs) ((r+1)::rs)
theorem DV.mono{Q O:Str->Prop}{ps:Pairs}{ds:LD}{fs:List LQ}{rs:LN}(h:DV Q ps ds fs rs)(m:∀x,Q x->O x):DV O ps ds fs rs:=by
 induction h with
 |nil hb=>exact .nil λx U=>m x (hb x U)
 |step hb hp hk _ ih=>exact .step (λx U=>m x (hb x U)) hp hk ih
theorem Gz{bs:LQ}{k:Nat}:((bs.map dm).zipIdx k).filter mX=[]:=by
 induction bs generalizing k with
 |nil=>rfl
 |cons x bs O=>exact O
theorem Gy{a:LD}{nm:Str}{r:Nat}{ks:LD}{bs:LQ}:nl (a++d8 nm r ks::bs.map dm)=nl a++[a.length]:=by
 unfold nl
 rw[List.zipIdx_append,bL,ay,bA]
 show _++List.map _ (_::((bs.map dm).zipIdx (a.length+1)).filter mX)=_
 rw[Gz];rfl
structure pn(Q:Str->Prop)(ps:Pairs)(t:D)(fs:List LQ)(s:LD×LV×D×Nat):Prop where
w:s.2.2.1=cS (nl s.1)
tr:∀d∈s.1,gG d
l:s.1.length<=500
x:∃fs' rs' pre,s.2.1=pre.map (λf=>cJ.sh (gz f))/\DV Q ps s.1 fs' rs'/\pre++fs'=[dn t]::fs/\fs'.length=s.2.2.2
structure Jc(Q:Str->Prop)(ps:Pairs)(t:D)(fs:List LQ)(s:LD×LV×D×Nat)(n:Nat)(nd:D)(ks:LD)(m':Nat):Prop where
last:(nl s.1).getLast?=some n
at_:s.1[n]?=some nd
at2:∀M,kb M (.sh nd) 68=some (.sh (.list ks))
l1:(s.1.take n).length+ks.length<=1000
l2:(s.1.take n++ks).length+(s.1.drop (n+1)).length<=1000
v:s.2.1.length<=1000
lt:m'<s.2.2.2
nx:pn Q ps t fs (s.1.take n++ks++s.1.drop (n+1),s.2.1++[.sh (gz ((s.1.take n++ks++s.1.drop (n+1)).map dn))],cS (nl (s.1.take n++ks++s.1.drop (n+1))),m')
section
variable{Q:Str->Prop}{ps:Pairs}{t:D}{fs:List LQ}{s:LD×LV×D×Nat}
theorem pn.get(h:pn Q ps t fs s)(hn:fs.length<=500)(hl:∀f∈fs,f.length<=500)(ne:cV (nl s.1)≠[]):∃n nd ks m',Jc Q ps t fs s n nd ks m':=by
 obtain ⟨ds,vs,w,m⟩:=s
 obtain ⟨hw,ht,hd5,O,rs',pre,hv,hd,he,hm⟩:=h
 cases hd with
 |nil hb=>
  refine absurd ?_ ne
  show cV (((_:LD).zipIdx.filter mX).map _)=_
  rw[Gz];rfl
 |@step a nm r ks O rs' bs hb hp hk' hd=>
  have hd5:(a++d8 nm (r+1) ks::bs.map dm).length<=500:=hd5
  have h1:(a++d8 nm (r+1) ks::bs.map dm).take a.length=a:=List.take_left
  have h2:(a++d8 nm (r+1) ks::bs.map dm).drop (a.length+1)=bs.map dm:=by
   rw[←List.drop_drop,List.drop_left];rfl
  have hmem:((a++ks++bs.map dm).map dn)∈[dn t]::fs:=by rw[←he];exact b6 _ (.head _)
  have U:(a++ks++bs.map dm).length<=500:=by
   rcases aM.mp hmem with e|e
   ·have:=aj List.length e
    rw[ag] at this
    rw[this];exact(by decide:1<=500)
   ·have:=hl _ e
    rwa [ag] at this
  have hpre:=aj List.length he
  rw[ak,bU,bU] at hpre
  refine⟨a.length,d8 nm (r+1) ks,ks,O.length,?_⟩
  have hv':vs=_:=hv
  have hm':_=m:=hm
  refine⟨?_,?_,λM=>rfl,?_,?_,?_,?_,?_,?_,?_,?_⟩
  ·show(nl (a++d8 nm (r+1) ks::bs.map dm)).getLast?=_
   rw[Gy];exact List.getLast?_concat ..
  ·show(a++d8 nm (r+1) ks::bs.map dm)[a.length]?=_
   rw[ba (ao _),Nat.sub_self];rfl
  ·show((a++d8 nm (r+1) ks::bs.map dm).take a.length).length+_<=_
   rw[h1];rw[ak,ak] at U;lia
  ·show((a++d8 nm (r+1) ks::bs.map dm).take a.length++ks).length+((a++d8 nm (r+1) ks::bs.map dm).drop (a.length+1)).length<=_
   rw[h1,h2,←ak];exact ae U dQ
  ·show vs.length<=_
   rw[hv',ag];lia
  ·show O.length<m
   rw[←hm'];exact bP _
  ·rfl
  ·show∀d∈(a++d8 nm (r+1) ks::bs.map dm).take a.length++ks++(a++d8 nm (r+1) ks::bs.map dm).drop (a.length+1),gG d
   rw[h1,h2]
   exactλd hd=>(aI.mp hd).elim (hk' d) λhd=>(aB.mp hd).elim λx hx=>hx.2▸.leaf x
  ·show((a++d8 nm (r+1) ks::bs.map dm).take a.length++ks++(a++d8 nm (r+1) ks::bs.map dm).drop (a.length+1)).length<=_
   rw[h1,h2];exact U
  ·refine⟨O,rs',pre++[(a++ks++bs.map dm).map dn],?_,?_,by rw[aP];exact he,rfl⟩
   ·show vs++[cJ.sh (gz (((a++d8 nm (r+1) ks::bs.map dm).take a.length++ks++(a++d8 nm (r+1) ks::bs.map dm).drop (a.length+1)).map dn))]=_
    rw[h1,h2,hv'];exact(ay (l₂:=[_])).symm
   ·show DV Q ps ((a++d8 nm (r+1) ks::bs.map dm).take a.length++ks++(a++d8 nm (r+1) ks::bs.map dm).drop (a.length+1)) O rs'
    rw[h1,h2];exact hd
theorem pn.fin(h:pn Q ps t fs s)(e:cV (nl s.1)=[]):s.2.1=([dn t]::fs).map λf=>cJ.sh (gz f):=by
 obtain ⟨ds,vs,w,m⟩:=s
 obtain ⟨hw,ht,O,U,rs',pre,hv,hd,he,hm⟩:=h
 cases hd with
 |nil hb=>rw[←he,aS];exact hv
 |@step a nm r ks _ _ bs=>
  have e:cV (nl (a++d8 nm (r+1) ks::bs.map dm))=[]:=e
  rw[Gy] at e
  unfold cV at e
  rw[ay] at e
  cases (List.append_eq_nil_iff.mp e).2
end
def An(l:LD):D:=.list ((l.zipIdx.filter mX).map λx=>.int (x.2:Nat))
theorem Rp(l:LD):An l=cS (nl l):=by unfold An nl cS;rw[aJ];rfl
theorem WY{l:LD}(i:Nat):l[i]?=(l.zipIdx[i]?).map ((λ_ x=>x.1) i):=by
 rw[List.getElem?_zipIdx]
 cases l[i]?<;>rfl
section
variable{G:Gd}{k f n:Nat}{E:Ev}{M:LB}{K:KT}{X:XT}(P:dO G)
theorem gG.name{d:D}(h:gG d):kb M (.sh d) 66=some (.sh (.str (dn d))):=by cases h<;>rfl
theorem ER{l:LN}{n:Nat}(h:l.getLast?=some n):fX M (.sh (cS l)) (.sh (.int (-1)))=some (.sh (.int (n:Int))):=lst (by rw[aJ,List.getLast?_map,h];rfl)
theorem U1{K:KT}{i:Nat}{ds:LD}(hl:ds.length<=500)(q:K (.sh (.list (ds.take i))) M):fU M K (.sh (.list ds)) none (some (.sh (.int (i:Nat)))):=Bo rfl rfl (c3 (ae hl dQ)) (.inl q)
theorem UY{K:KT}{i:Nat}{z:Int}{ds:LD}(e:z=(i:Nat))(hl:ds.length<=500)(q:K (.sh (.list (ds.drop i))) M):fU M K (.sh (.list ds)) (some (.sh (.int z))) none:=by
 subst e
 exact wx rfl (c3 (ae hl dQ)) (.inl q)
theorem CI{a b:LD}(hl:a.length+b.length<=1000)(q:K (.sh (.list (a++b))) M):i9 M K .Add (.sh (.list a)) (.sh (.list b)):=.list rfl rfl (c3 hl) (.inl q)
include P
theorem M9{Q:Str->Prop}{ps:Pairs}{t:D}{fs:List LQ}{rs:LN}(ht:gG t)(h:DV Q ps [t] fs rs)(hn:fs.length<=500)(hl:∀f∈fs,f.length<=500)(hk:4<=k)(q:K (.sh (.list (([dn t]::fs).map gz))) M):Cl G k 1086 [.sh t] M K X:=
 dj (P.g1 23) (ds:=[t]) rfl (R:=λd=>d=.list (([dn t]::fs).map gz)) hk (λd h=>h▸q)
  (jn 3 (λw:D=>[some (.sh t),some (.sh (.list [t])),some (.own 0),some (.sh w),none]) (λ_=>[.list [.sh (gz [dn t])]]) (λw=>w=cS (nl [t]))
   (λN nx=>.inl ⟨[t],rfl,oI ht.name (.inr (ht.is P dQ (bB (λe=>.inl ⟨[],rfl,nx [] (cS []) (by unfold nl;rw[show[t].zipIdx.filter mX=[] from cC (by show¬(!lV t)=true;rw[e];exact Bool.false_ne_true)];rfl) rfl⟩)
    λe=>.inl ⟨[.int 0],rfl,nx [] (cS [0]) (by unfold nl;rw[show[t].zipIdx.filter mX=[(t,0)] from List.filter_cons_of_pos (by show(!lV t)=true;rw[e];rfl)];rfl) rfl⟩)))⟩)
   λw hw=>go (qZ (λs:LD×LV×D×Nat=>[some (.sh t),some (.sh (.list s.1)),some (.own 0),some (.sh s.2.2.1),none]) (λs=>[.list s.2.1]) (λs=>pn Q ps t fs s) (λs=>s.2.2.2) ([t],[.sh (gz [dn t])],w,fs.length)
    ⟨hw,λd hd=>aF.mp hd▸ht,(by decide:1<=500),fs,rs,[[dn t]],rfl,h,rfl,rfl⟩
    λs P' O L=>.inl ⟨[],rfl,Aj (xs:=cV (nl s.1)) (by rw[O.w];exact xF) (λne=>(O.get hn hl ne).elim λn h=>h.elim λnd h=>h.elim λks h=>h.elim λm' h=>
     go (oI (by rw[O.w];exact ER h.last) (U1 O.l (oI (dJ h.at_) (oI (h.at2 _) (CI h.l1 (UY (i:=n+1) rfl O.l (CI h.l2 (uQ (l:=s.1.take n++ks++s.1.drop (n+1)) dn r3 (ae h.nx.l dQ) (λi d R hd h'=>oI (h.nx.tr d (ax hd)).name h')
      (.tuple rfl (by rw[ag,ag];exact c3 (ae h.nx.l dQ)) (app rfl (c3 h.v) (nY (l:=(s.1.take n++ks++s.1.drop (n+1)).zipIdx) mX (λx=>.int (x.2:Nat)) WY (by rw[List.length_zipIdx];exact ae h.nx.l dQ)
       (λi x R U a b=>by
        rw[List.getElem?_zipIdx] at U
        obtain ⟨d,hd,e⟩:=oM U
        subst e
        exact(h.nx.tr d (ax hd)).is P dQ (bB (λe=>b (aj not e)) λe=>by
         have:=a (aj not e)
         rwa [show(d,0+i).2=i from bA i] at this))
       (L.nx [4] (_,_,An (s.1.take n++ks++s.1.drop (n+1)),m') ⟨h.lt,Rp _,h.nx.tr,h.nx.l,h.nx.x⟩ rfl)))))))))))))
     λe=>⟨_,show(data _ s.2.1).map D.list=_ by rw[O.fin e,ig];rfl,rfl⟩⟩))
end
def qU(ps:Pairs)(l:LQ):D:=dH (l.map (c4 ps))
inductive mF(ps:Pairs)(t:D)(fs:List LQ)(rs:LN)(i:Nat)(w:LN)(vs:LV):Prop
|mk (row:LD) (fs':List LQ) (rs':LN) (pre:List LQ):w=(row.map dn).map (c4 ps)->vs=pre.map (λf=>cJ.sh (qU ps f))->DV (·∈toks ps) ps row fs' rs'->row.length<=500->pre++fs'=[dn t]::fs->rs.drop i=rs'->mF ps t fs rs i w vs
structure Jt(ps:Pairs)(t:D)(fs:List LQ)(rs:LN)(i:Nat)(w:LN)(vs:LV)(z n:Nat)(x:Rl):Prop where
ru:(cO ps).rules[z]?=some x
at_:w[n]?=some x.left
nt:(toks ps).length<x.left
af:∀(j v:Nat),n<j->w[j]?=some v->v<(toks ps).length
l:w.length<=500
l1:(w.take n).length+x.right.length<=1000
l2:(w.take n++x.right).length+(w.drop (n+1)).length<=1000
v:vs.length<=1000
nx:mF ps t fs rs (i+1) (w.take n++x.right++w.drop (n+1)) (vs++[.sh (dH (w.take n++x.right++w.drop (n+1)))])
section
variable{ps:Pairs}{t:D}{fs:List LQ}{rs:LN}{i z:Nat}{w:LN}{vs:LV}
theorem mF.get(h:mF ps t fs rs i w vs)(ok:e9 ps)(hz:rs[i]?=some z)(hn:fs.length<=500)(hl:∀f∈fs,f.length<=500):∃n x,Jt ps t fs rs i w vs z n x:=by
 obtain ⟨row,fs',U,pre,rfl,rfl,hd',hl',he,hr'⟩:=h
 have hdr:rs.drop i=z::rs.drop (i+1):=by
  rw[List.drop_eq_getElem_cons (dc hz)]
  congr 1
  exact aq ((aC (dc hz)).symm.trans hz)
 rw[hdr] at hr'
 subst hr'
 generalize hrs:z::rs.drop (i+1)=U at hd'
 cases hd' with
 |nil=>exact jE hrs
 |@step a nm r ks fs' U bs hb hp hk' hd=>
  obtain ⟨rfl,rfl⟩:z=r+1/\U=rs.drop (i+1):=by cases hrs;exact⟨rfl,rfl⟩
  have hrl:(cO ps).rules[r+1]?=some (i4 ps (nm,ks.map dn)):=by
   show(ps.map (i4 ps))[r]?=_
   rw[aA,hp];rfl
  have hbn:(bs.map dm).map dn=bs:=by rw[aJ];exact List.map_id' _
  have O:((a++d8 nm (r+1) ks::bs.map dm).map dn).map (c4 ps)=(a.map dn).map (c4 ps)++c4 ps nm::bs.map (c4 ps):=by rw[ay,aN,hbn,ay];rfl
  have hnew:((a++ks++bs.map dm).map dn).map (c4 ps)=(a.map dn).map (c4 ps)++(ks.map dn).map (c4 ps)++bs.map (c4 ps):=by rw[ay,ay,hbn,ay,ay]
  have hmem:((a++ks++bs.map dm).map dn)∈[dn t]::fs:=by rw[←he];exact b6 _ (.head _)
  have hnl:(a++ks++bs.map dm).length<=500:=by
   rcases aM.mp hmem with e|e
   ·have:=aj List.length e
    rw[ag] at this
    rw[this];exact(show 1<=500 by decide)
   ·have:=hl _ e
    rwa [ag] at this
  have hpre:=aj List.length he
  rw[ak,bU,bU] at hpre
  have hnm:=(tM ok (show nm∈cZ ps from jo.mpr (jQ.mpr ⟨(nm,ks.map dn),ax hp,rfl⟩))).1
  have e1:((a.map dn).map (c4 ps)).length=a.length:=by rw[ag,ag]
  have h1:((a.map dn).map (c4 ps)++c4 ps nm::bs.map (c4 ps)).take a.length=(a.map dn).map (c4 ps):=by rw[←e1];exact List.take_left
  have h2:((a.map dn).map (c4 ps)++c4 ps nm::bs.map (c4 ps)).drop (a.length+1)=bs.map (c4 ps):=by
   rw[←List.drop_drop,←e1,List.drop_left];rfl
  rw[ak,ak,ag] at hnl
  have hk3:((i4 ps (nm,ks.map dn)).right).length=ks.length:=by show((ks.map dn).map (c4 ps)).length=_;rw[ag,ag]
  rw[O]
  have hnx:mF ps t fs rs (i+1) (((a++ks++bs.map dm).map dn).map (c4 ps)) (pre.map (λf=>cJ.sh (qU ps f))++[.sh (dH (((a++ks++bs.map dm).map dn).map (c4 ps)))]):=
   ⟨a++ks++bs.map dm,fs',_,pre++[(a++ks++bs.map dm).map dn],rfl,(ay (l₂:=[_])).symm,hd,by rw[ak,ak,ag];exact hnl,by rw[aP];exact he,rfl⟩
  refine⟨a.length,i4 ps (nm,ks.map dn),hrl,?_,?_,λj v hj hv=>?_,?_,?_,?_,?_,?_⟩
  ·rw[←e1,ba (ao _),Nat.sub_self];rfl
  ·show _<c4 ps nm
   lia
  ·rw[ba (by rw[e1];exact aH hj),e1,show j-a.length=(j-a.length-1)+1 by lia,List.getElem?_cons_succ,aA] at hv
   obtain ⟨y,hy,rfl⟩:=oM hv
   exact(qJ (hb _ (ax hy))).2
  ·rw[←O,ag,ag];exact hl'
  ·rw[h1,e1,hk3];lia
  ·rw[h1,h2,ak,e1,hk3,ag];exact ae (by assumption) dQ
  ·rw[ag];lia
  ·rw[h1,h2]
   rw[hnew] at hnx
   exact hnx
theorem mF.fin(h:mF ps t fs rs rs.length w vs):vs=([dn t]::fs).map λf=>cJ.sh (qU ps f):=by
 obtain ⟨row,fs',rs',pre,rfl,rfl,U,hl',he,O⟩:=h
 rw[List.drop_length] at O
 subst O
 generalize hrs:([]:LN)=rs' at U
 cases U with
 |nil=>rw[←he,aS]
 |step=>exact wN hrs
end
theorem Rz{l:LN}(i:Nat):(l.reverse.map λi:Nat=>D.int i).reverse[i]?=(l[i]?).map ((λ_ (i:Nat)=>D.int i) i):=by rw[←List.map_reverse,List.reverse_reverse];exact aA
section
variable{G:Gd}{k f n:Nat}{E:Ev}{M:LB}{K:KT}{X:XT}(P:dO G)
theorem U0{w:LN}{z:Int}(e:z=(n:Nat))(hl:w.length<=500)(hn:n<w.length)(q:K (.sh (dH (w.take n))) M):fU M K (.sh (dH w)) none (some (.sh (.int z))):=by
 subst e
 exact .YZ rfl (by rw[ag];exact c3 (ae hl dQ)) (by rw[ag];exact hn) (by rw[←List.map_take];exact q)
theorem UW{w:LN}{z:Int}(e:z=(n+1:Nat))(hl:w.length<=500)(hn:n<w.length)(q:K (.sh (dH (w.drop (n+1)))) M):fU M K (.sh (dH w)) (some (.sh (.int z))) none:=by
 subst e
 exact .Y0 rfl (by rw[ag];exact c3 (ae hl dQ)) (Nat.succ_pos _) (by rw[ag];exact hn) (by rw[←List.map_drop];exact q)
theorem CK{a b:LN}(hl:a.length+b.length<=1000)(q:K (.sh (dH (a++b))) M):i9 M K .Add (.sh (dH a)) (.sh (dH b)):=.tup rfl rfl (by rw[ag,ag];exact c3 hl) (by rw[←ay];exact q)
structure jL(n m:Nat)(z:Int):Prop where
a:(n:Int)<=z
b:z<m
e:z=(z.toNat:Nat)
theorem jL.mk'{n m:Nat}{z:Int}(a:(n:Int)<=z)(b:z<m):jL n m z:=⟨a,b,(Int.toNat_of_nonneg (Int.le_trans (bj n) a)).symm⟩
theorem jL.pos{n m:Nat}{z:Int}(h:jL n m z):0<=z:=Int.le_trans (bj n) h.a
theorem jL.first{n m:Nat}(h:n<m):jL n m ((m:Int)-1):=.mk' (by lia) (by lia)
theorem jL.lt{n m:Nat}{z:Int}(h:jL n m z):z.toNat<m:=by have:=h.b;have:=h.e;lia
theorem jL.down{n m:Nat}{z:Int}(h:jL n m z)(q:z.toNat≠n):(z-1).toNat<z.toNat/\jL n m (z-1):=by
 have U:=h.a;have O:=h.b;have h3:=h.e
 exact⟨by lia,.mk' (by lia) (by lia)⟩
include P
theorem Um{ps:Pairs}{t:D}{fs:List LQ}{rs:LN}(ok:e9 ps)(hne:ps≠[])(h6:ps.length<=6)(ht:dn t="s")(h:DV (·∈toks ps) ps [t] fs rs)(hn:fs.length<=500)(hl:∀f∈fs,f.length<=500)(hk:4<=k)
 (q:K (.sh (.list (([dn t]::fs).map (qU ps)))) M):Cl G k 765 [.sh (cO ps).d,.sh (cS rs.reverse)] M K X:=
 dj (P.g2 25) (ds:=[(cO ps).d,cS rs.reverse]) rfl (R:=λd=>d=.list (([dn t]::fs).map (qU ps))) hk (λd h=>h▸q) (go (.inr
  (dZ (l:=rs) (λ_ (s:LN×LV)=>[some (.sh (cO ps).d),some (.sh (cS rs.reverse)),some (.sh (dH s.1)),some (.own 0),none,none,none]) (λ_ s=>[.list s.2]) (λi s=>mF ps t fs rs i s.1 s.2) ([c4 ps "s"],[.sh (dH [c4 ps "s"])])
   ⟨[t],fs,rs,[[dn t]],by rw[←ht];rfl,by rw[←ht];rfl,h,(by decide:1<=500),rfl,rfl⟩ Rz
   (λi z s P' U hI L=>(hI.get ok U hn hl).elim λn h=>h.elim λx h=>have hnw:=dc h.at_
    go (oI (dJ (tS h.ru)) (se (ae h.l dQ) (qZ (λO:Int=>[some (.sh (cO ps).d),some (.sh (cS rs.reverse)),some (.sh (dH s.1)),some (.own 0),some (.sh (.int (z:Nat))),some (.sh (x.d z)),some (.sh (.int O))]) (λ_=>[.list s.2]) (λO=>jL n s.1.length O) (λO=>O.toNat) _ (.first hnw)
     λO P' U L'=>have at_:=j9 U.lt
      bI (λ_=>oI (yq U.e (iw at_)) (OR P dQ (bI (λht=>go (L'.nx [] (O-1) (U.down λe=>Nat.lt_asymm h.nt (by
       rw[←aq (at_.symm.trans ((aj (λj=>s.1[j]?) e).trans h.at_))];exact ht)) rfl))
       λht=>have e:O.toNat=n:=(Nat.lt_or_ge n O.toNat).elim (λq=>absurd (h.af _ _ q at_) ht) λq=>Nat.le_antisymm q (b7.mp (U.e▸U.a))
        have e:O=(n:Nat):=U.e.trans (aj Int.ofNat e)
        bF (λq=>absurd U.pos (Int.not_le.mpr q)) (oI (yq e (iw h.at_)) (bN (λq=>absurd rfl q) λ_=>
         U0 e h.l hnw (CK h.l1 (UW (by rw[e];rfl) h.l hnw (CK h.l2 (app rfl (c3 h.v) (L.nx [4,5,6] (_,_) h.nx rfl))))))))))
      λq=>absurd U.pos q))))
   λs hI=>⟨_,show(data _ s.2).map D.list=_ by rw[hI.fin,ig];rfl,rfl⟩)))
end
def Lay(n:Nat)(d:D):Prop:=∃p,o8 d=some p/\p.canLay0=true/\p.depth<=n
def Jn(n:Nat)(ds:LD):Prop:=∃ps,mj ds=some ps/\PyData.canLayAll0 ps=true/\PyData.depthAll ps<=n
theorem yz{n:Nat}:∀{ds:LD},(∀d∈ds,Lay n d)->Jn n ds
 |[],_=>⟨[],rfl,rfl,aL _⟩
 |d::ds,h=>by
  obtain ⟨p,U,O,h3⟩:=h d (.head _)
  obtain ⟨ps,k1,k2,k3⟩:=yz (n:=n) (ds:=ds) λx hx=>h x (.tail _ hx)
  refine⟨p::ps,?_,?_,Nat.max_le.mpr ⟨h3,k3⟩⟩
  ·show(o8 d).bind (λp=>(mj ds).map λps=>p::ps)=_
   rw[U,k1];rfl
  ·show(p.canLay0&&PyData.canLayAll0 ps)=true
   rw[O,k2];rfl
theorem Lay.list{n:Nat}{ds:LD}(h:∀d∈ds,Lay n d):Lay (n+1) (.list ds):=by
 obtain ⟨ps,U,O,h3⟩:=yz h
 exact⟨.list ps,by show(mj ds).map PyData.list=_;rw[U];rfl,O,aK h3⟩
theorem Lay.tup{n:Nat}{ds:LD}(h:∀d∈ds,Lay n d):Lay (n+1) (.tup ds):=by
 obtain ⟨ps,U,O,h3⟩:=yz h
 exact⟨.tuple ps,by show(mj ds).map PyData.tuple=_;rw[U];rfl,O,aK h3⟩
theorem Lay.int{n:Nat}(i:Int):Lay n (.int i):=⟨.int i,rfl,rfl,aL _⟩
theorem Lay.str{n:Nat}{x:Str}(h:(PyData.str x).canLay0=true):Lay n (.str x):=⟨.str x,rfl,h,aL _⟩
theorem Lay.strs{l:LQ}(h:∀x∈l,(PyData.str x).canLay0=true):Lay 1 (cP l):=Lay.list λd hd=>by
 obtain ⟨x,U,rfl⟩:=aB.mp hd
 exact Lay.str (h x U)
theorem Lay.YD{l:LQ}(h:∀x∈l,(PyData.str x).canLay0=true):Lay 1 (gz l):=Lay.tup λd hd=>by
 obtain ⟨x,U,rfl⟩:=aB.mp hd
 exact Lay.str (h x U)
theorem Lay.nats{l:LN}:Lay 1 (cS l):=Lay.list λd hd=>by
 obtain ⟨x,U,rfl⟩:=aB.mp hd
 exact Lay.int _
theorem u1{n:Nat}{x y:cJ}{d:D}{M:LB}{K:Bool->Prop}(U:c7 M x=some d)(hy:c7 M y=some d)(hl:Lay n d)(hn:n<=64)(q:K true):fq M K x y .Eq:=hl.elim λp h=>
 have O:SeqAt.shaped p=true:=by unfold SeqAt.shaped;rw[h.2.1,aG (ae h.2.2 hn)];rfl
 .eq (.py U hy h.1 h.1 O O) (by rw[SeqAt.eqv_refl p h.2.1];exact q)
theorem Fw:∀{l:LZ}{X q:Nat},l.lookup X=some q->c6 (eu l) (X:Int)=some (.sh (.int (q:Int)))
 |[],_,_,h=>cR h
 |(a,b)::l,X,q,h=>by
  rw[bQ] at h
  unfold c6 eu
  by_cases e:X=a
  ·subst e
   rw[ck] at h
   cases h
   rw[aN,List.find?_cons_of_pos (p:=λx:Int×cJ=>decide (x.1=(X:Int))) (aG rfl)];rfl
  ·rw[ca.mpr e] at h
   rw[aN,List.find?_cons_of_neg (p:=λx:Int×cJ=>decide (x.1=(X:Int))) (λq=>e (bC.mp (aD q)).symm)]
   exact Fw (l:=l) h
noncomputable def j6(v:Int)(d:Nat):Int:=if v=0 then -(d:Int) else v
noncomputable def ij(row:LJ)(n:Nat):LN:=(List.range n).filter λt=>decide (t≠1/\t≠2/\row.getD t 0≠0)
theorem DC{row:LJ}{j:Nat}(h:j≠1/\j≠2/\row.getD j 0≠0):ij row (j+1)=ij row j++[j]:=by
 unfold ij
 rw[cn,bL,cj,al (aG h)];rfl
theorem DB{row:LJ}{j:Nat}(h:¬(j≠1/\j≠2/\row.getD j 0≠0)):ij row (j+1)=ij row j:=by
 unfold ij
 rw[cn,bL,cj,av λq=>h (aD q)];exact aS _
theorem uK{row:LJ}{j:Nat}{v:Int}(h:row[j]?=some v):row.getD j 0=v:=by rw[cw,h];rfl
theorem xi{l:LJ}{i:Nat}(h:i<l.length):l[i]?=some l[i]:=aC h
theorem Ai{a b:Nat}(h:(a:Int)=(b:Nat)):a=b:=bC.mp h
section
variable{G:Gd}{k f n:Nat}{E:Ev}{M:LB}{K:KT}{X:XT}
theorem El{l:LZ}{X' q':Nat}{x:cJ}(h:l.lookup X'=some q')(q:K (.sh (.int q')) M):MethP M K (.sh (jh l)) 26 [.sh (.int X'),x]:=
 .Zo (es:=eu l) (by show some (Ob.Z7 (List.zip _ _))=_;rw[FC]) (by rw[Fw h];exact q)
variable(P:dO G){g:cL}{T:dD}
include P
theorem xM{i t:Nat}{row:LJ}{v:Int}(hr:T.rows[i]?=some row)(hv:row[t]?=some v)(hk:2<=k)(q:K (.sh (.int v)) M):Cl G k 282 [.sh (dF g T),.sh (.int i),.sh (.int t)] M K X:=
 dj (P.g3 1) (ds:=[dF g T,.int i,.int t]) rfl (R:=λd=>d=.int v) hk (λd h=>h▸q) (go (oI (dJ (lY (f:=e6) hr)) (oI (dJ (qg hv)) ⟨_,rfl,rfl⟩)))
theorem BA{i d:Nat}(hd:T.defs[i]?=some d)(hk:2<=k)(q:K (.sh (.int d)) M):Cl G k 191 [.sh (dF g T),.sh (.int i)] M K X:=
 dj (P.g2 4) (ds:=[dF g T,.int i]) rfl (R:=λe=>e=.int d) hk (λd h=>h▸q) (go (oI (dJ (iw hd)) ⟨_,rfl,rfl⟩))
theorem V3{i X' q':Nat}{gt:LZ}(hd:T.ZO[i]?=some gt)(h:gt.lookup X'=some q')(hk:2<=k)(q:K (.sh (.int q')) M):Cl G k 289 [.sh (dF g T),.sh (.int i),.sh (.int X')] M K X:=
 dj (P.g3 2) (ds:=[dF g T,.int i,.int X']) rfl (R:=λe=>e=.int q') hk (λd h=>h▸q) (go (oI (dJ (lY (f:=jh) hd)) (El h ⟨_,rfl,rfl⟩)))
theorem QD{r:Nat}{x:Rl}(h:g.rules[r]?=some x)(hk:2<=k)(q:K (.sh (.int x.left)) M):Cl G k 156 [.sh (dF g T),.sh (.int r)] M K X:=
 dj (P.g2 1) (ds:=[dF g T,.int r]) rfl (R:=λe=>e=.int x.left) hk (λd h=>h▸q) (go (oI (dJ (lY (f:=λx:Rl=>D.int x.left) h)) ⟨_,rfl,rfl⟩))
theorem QM{r:Nat}{x:Rl}(h:g.rules[r]?=some x)(hk:2<=k)(q:K (.sh (.int x.right.length)) M):Cl G k 163 [.sh (dF g T),.sh (.int r)] M K X:=
 dj (P.g2 2) (ds:=[dF g T,.int r]) rfl (R:=λe=>e=.int x.right.length) hk (λd h=>h▸q) (go (oI (dJ (lY (f:=λx:Rl=>D.int x.right.length) h)) ⟨_,rfl,rfl⟩))
theorem JZ{r:Nat}{x:Rl}(h:g.rules[r]?=some x)(hk:2<=k)(q:K (.sh (.int 0)) M):Cl G k 170 [.sh (dF g T),.sh (.int r)] M K X:=
 dj (P.g2 3) (ds:=[dF g T,.int r]) rfl (R:=λe=>e=.int 0) hk (λd h=>h▸q) (go (oI (dJ (lY (f:=λ_:Rl=>D.int 0) h)) ⟨_,rfl,rfl⟩))
theorem JA{i t d:Nat}{row:LJ}{v:Int}(hr:T.rows[i]?=some row)(hv:row[t]?=some v)(hd:T.defs[i]?=some d)(hb:v≠-1048576)(hk:4<=k)(q:K (.sh (.int (j6 v d))) M):Cl G k 205 [.sh (dF g T),.sh (.int i),.sh (.int t)] M K X:=
 dj (P.g3 0) (ds:=[dF g T,.int i,.int t]) rfl (R:=λe=>e=.int (j6 v d)) hk (λd h=>h▸q)
  (go (xM P hr hv dQ (bF hb (bI (λh=>BA P hd dQ ⟨_,rfl,by unfold j6;rw[al h]⟩) λh=>⟨_,rfl,by unfold j6;rw[av h]⟩))))
theorem QQ{i X':Nat}{q':Nat}{s:LS}(h:s.moves.lookup X'=some q')(hk:2<=k)(q:K (.sh (.int q')) M):Cl G k 793 [.sh (s.d i),.sh (.int X')] M K X:=
 dj (P.g2 26) (ds:=[s.d i,.int X']) rfl (R:=λe=>e=.int q') hk (λd h=>h▸q) (go (El h ⟨_,rfl,rfl⟩))
theorem JI{i X':Nat}{q':Nat}{sts:List LS}{s:LS}(hs:sts[i]?=some s)(h:s.moves.lookup X'=some q')(hk:4<=k)(q:K (.sh (.int q')) M):Cl G k 891 [.sh (fy g sts),.sh (.int i),.sh (.int X')] M K X:=
 dj (P.g3 10) (ds:=[fy g sts,.int i,.int X']) rfl (R:=λe=>e=.int q') hk (λd h=>h▸q) (go (oI (dJ (Bw hs)) (QQ P h dQ ⟨_,rfl,rfl⟩)))
theorem Ny{i:Nat}{row:LJ}(hr:T.rows[i]?=some row)(hl:row.length=g.tc)(h8:g.tc<=8)(hb:∀v∈row,v≠-1048576)(hk:4<=k)(q:K (.sh (cS (ij row g.tc))) M):Cl G k 212 [.sh (dF g T),.sh (.int i)] M K X:=
 dj (P.g2 5) (ds:=[dF g T,.int i]) rfl (R:=λe=>e=cS (ij row g.tc)) hk (λd h=>h▸q) (go (.inr (oI (kB (c3 (ae h8 dQ)))
  (kx (λ_ (_:LN)=>[some (.sh (dF g T)),some (.sh (.int i)),some (.own 0),none,none]) (λ_ l=>[.list (cV l)]) (λj l=>l=ij row j) [] rfl
   (λj l P' hj e L=>have U:=xi (Nat.lt_of_lt_of_eq hj hl.symm)
    have no:¬(j≠1/\j≠2/\row.getD j 0≠0)->l=ij row (j+1):=λh=>e.trans (DB h).symm
    go (bN (λO=>bN (λh2=>xM P hr U dQ (bN (λh3=>bN (λ_=>kY rfl (e▸ae (br ..) (by rw[aQ];exact ae (aH hj) (ae h8 dQ))) (L.nx [3,4] (l++[j]) (by rw[e,DC ⟨λq=>O (aj _ q),λq=>h2 (aj _ q),λq=>h3 ((uK U).symm.trans q)⟩]) rfl))
     λh4=>absurd h4 (hb _ (ax U))) λh3=>L.nx [3,4] l (no λh=>h.2.2 ((uK U).trans h3)) rfl))
     λh2=>L.nx [3,4] l (no λh=>h.2.1 (Ai h2)) rfl) λO=>L.nx [3,4] l (no λh=>h.1 (Ai O)) rfl))
   λl e=>⟨_,mN rfl,aj cS e⟩))))
theorem MS{i d:Nat}{row:LJ}(hr:T.rows[i]?=some row)(hd:T.defs[i]?=some d)(hl:row.length=g.tc)(h8:g.tc<=8)(hk:4<=k)
 (q:K (.sh (.bool (decide (d≠0/\∀v∈row,v=0)))) M):Cl G k 219 [.sh (dF g T),.sh (.int i)] M K X:=
 dj (P.g2 6) (ds:=[dF g T,.int i]) rfl (R:=λe=>e=.bool (decide (d≠0/\∀v∈row,v=0))) hk (λd h=>h▸q)
  (go (BA P hd dQ (bI (λh=>⟨_,rfl,aj D.bool (bu λq=>q.1 (Ai h)).symm⟩) λh0=>oI (kB (c3 (ae h8 dQ)))
   (kx (λ_ (_:Unit)=>[some (.sh (dF g T)),some (.sh (.int i)),none]) (λ_ _=>[]) (λj _=>∀t,t<j->row[t]?=some 0) () (λt h=>WX h)
    (λj _ P' hj hz L=>have U:=xi (Nat.lt_of_lt_of_eq hj hl.symm)
     go (xM P hr U dQ (bN (λh3=>L.rt ⟨_,rfl,aj D.bool (bu λq=>h3 (q.2 _ (ax U))).symm⟩)
      λh3=>L.nx [2] () (λt O=>(Nat.lt_succ_iff_lt_or_eq.mp O).elim (hz t) λe=>e▸U.trans (aj some h3)) rfl)))
    λ_ hz=>⟨_,rfl,aj D.bool (aG ⟨λe=>h0 (aj _ e),λv U=>by
     obtain ⟨t,O,e⟩:=bp.mp U
     have:=hz t (hl▸O)
     rw[aC O,e] at this
     exact aq this⟩).symm⟩))))
end
def gK(ps:Pairs)(x:Str):Nat:=if x∈toks ps then c4 ps x else 2
theorem I5{x:Str}:∀{l:LQ}{k:Nat},c6 (l.zip (((List.range' k l.length).map λi:Nat=>D.int i).map cJ.sh)) x=if x∈l then some (.sh (.int ((k+l.idxOf x:Nat):Int))) else none
 |[],k=>rfl
 |y::l,k=>by
  rw[bU,List.range'_succ,aN,aN,List.zip_cons_cons]
  unfold c6
  by_cases e:y=x
  ·subst e
   rw[List.find?_cons_of_pos (p:=λz:Str×cJ=>decide (z.1=y)) (aG rfl),al (List.mem_cons_self ..),List.idxOf_cons_self];rfl
  ·rw[List.find?_cons_of_neg (p:=λz:Str×cJ=>decide (z.1=x)) (λq=>e (aD q))]
   have O:=I5 (x:=x) (l:=l) (k:=k+1)
   unfold c6 at O
   rw[O,List.idxOf_cons,ca.mpr e,cond_false]
   by_cases h:x∈l
   ·rw[al h,al (cA _ h),Nat.add_assoc,Nat.add_comm 1]
   ·rw[av h,av λq=>(aM.mp q).elim (λq=>e q.symm) h]
noncomputable def qn(g:cL):LD:=g.rules.map λx=>.str ((g.names[x.left]?).getD "")
def la(g:cL):D:=.inst 1124 [9] [.list (qn g)]
def km(x:Str)(st:Nat)(O:LQ)(i:Nat):D:=.inst 435 [34,16,35,36] [gj x,.int st,cP O,.int i]
noncomputable def lu(acc:Bool)(v:D)(fa mo:LD):D:=.inst 463 [37,3,38,30] [.bool acc,v,.list fa,.list mo]
theorem Q4{α β:Type}(f:α->β)(l:List α):(l.map f).isEmpty=l.isEmpty:=by cases l<;>rfl
theorem VW{ps:Pairs}:(cO ps).names.take (cO ps).tc=toks ps:=by
 show(de ps).take (toks ps).length=_
 unfold de;rw[aP];exact List.take_left
section
variable{G:Gd}{k f n:Nat}{E:Ev}{M:LB}{K:KT}{X:XT}{T:dD}{ps:Pairs}
theorem VX{x:Str}:(c6 ((toks ps).zip (((List.range (toks ps).length).map λi:Nat=>D.int i).map cJ.sh)) x).getD (.sh (.int 2))=.sh (.int (gK ps x)):=by
 have h:=I5 (x:=x) (l:=toks ps) (k:=0)
 rw[←List.range_eq_range'] at h
 rw[h]
 unfold gK
 by_cases U:x∈toks ps
 ·rw[al U,al U,(qJ U).1,bA];rfl
 ·rw[av U,av U];rfl
theorem QS{r:Nat}{p:Str×LQ}(ok:e9 ps)(hp:ps[r]?=some p):(qn (cO ps))[r+1]?=some (.str p.1):=by
 show((ps.map (i4 ps)).map _)[r]?=_
 rw[aA,aA,hp]
 show some (D.str (((de ps)[c4 ps p.1]?).getD ""))=_
 rw[we (oG (jo.mpr (jQ.mpr ⟨p,ax hp,rfl⟩)))];rfl
theorem Rv{x:Str}(h:x∈gR):Txt.startswith x "$@"=false:=by
 have:∀x∈gR,Txt.startswith x "$@"=false:=by decide
 exact this x h
theorem bV{A B:Prop}{c d:Bool}(h:c=d)(q:Bool.rec (motive:=λ_=>Prop) B A d):Bool.rec (motive:=λ_=>Prop) B A c:=h▸q
variable(P:dO G)
include P
theorem VY{x:Str}(hk:2<=k)(q:K (.sh (.int (gK ps x))) M):Cl G k 149 [.sh (dF (cO ps) T),.sh (.str x)] M K X:=
 dj (P.g2 0) (ds:=[dF (cO ps) T,.str x]) rfl (R:=λd=>d=.int (gK ps x)) hk (λd h=>h▸q)
  (go (.Zd (es:=(toks ps).zip (((List.range (toks ps).length).map λi:Nat=>D.int i).map cJ.sh)) (by show some (Ob.Z4 (List.zip ((cO ps).names.take (cO ps).tc) _))=_;rw[VW];rfl) (by rw[VX];exact⟨_,rfl,rfl⟩)))
theorem QF(ok:dz (cO ps))(hk:2<=k)(q:K (.sh (.list (qn (cO ps)))) M):Cl G k 1133 [.sh (dF (cO ps) T)] M K X:=
 dj (P.g1 24) (ds:=[dF (cO ps) T]) rfl (R:=λd=>d=.list (qn (cO ps))) hk (λd h=>h▸q)
  (go (lP (l:=(cO ps).rules) (g:=λx=>.str (((cO ps).names[x.left]?).getD "")) dG (ae ok.rules dQ) (λi x R U h=>have hl:=aC (ok.rule U).2.1
   oI (dJ (ly hl)) (by rw[hl] at h;exact h)) ⟨_,rfl,rfl⟩))
theorem Oj(hk:2<=k)(q:K (.sh (la (cO ps))) M):Nw G k 1124 [.sh (.list (qn (cO ps)))] M K X:=
 lq rfl (P.g2 37) (ds:=[.list (qn (cO ps))]) rfl (R:=λd=>d=la (cO ps)) hk (λd h=>h▸q) (go ⟨_,rfl,rfl⟩)
theorem Oy{x:Str}(hk:4<=k)(q:K (.sh (dm x)) M):Cl G k 1107 [.sh (la (cO ps)),.sh (gj x)] M K X:=
 dj (P.g2 38) (ds:=[la (cO ps),gj x]) rfl (R:=λd=>d=dm x) hk (λd h=>h▸q) (go (QA P dQ ⟨_,rfl,rfl⟩))
theorem Ow{r:Nat}{p:Str×LQ}{ks:LD}(ok:e9 ps)(hp:ps[r]?=some p)(hl:ks.length<=1000)(hk:4<=k)(q:K (.sh (d8 p.1 (r+1) ks)) M):Cl G k 1114 [.sh (la (cO ps)),.sh (.int ((r+1:Nat):Int)),.sh (.list ks),.sh .none] M K X:=
 dj (P.g4 5) (ds:=[la (cO ps),.int ((r+1:Nat):Int),.list ks,.none]) rfl (R:=λd=>d=d8 p.1 (r+1) ks) hk (λd h=>h▸q)
  (go (oI (dJ (QS ok hp)) (.starts rfl (bV (Rv (mT ok (jo.mpr (jQ.mpr ⟨p,ax hp,rfl⟩)))) (Wh P dQ hl ⟨_,rfl,rfl⟩)))))
theorem Wa{x:Str}{st i:Nat}{O:LQ}(hl:O.length<=1000)(hk:2<=k)(q:K (.sh (.tup [.str x,.int st,cP O])) M):Cl G k 425 [.sh (km x st O i)] M K X:=
 dj (P.g1 4) (ds:=[km x st O i]) rfl (R:=λd=>d=.tup [.str x,.int st,cP O]) hk (λd h=>h▸q) (go (sk (by rw[ag];exact hl) ⟨_,rfl,rfl⟩))
theorem OQ{acc:Bool}{v:D}{fa mo:LD}(hk:2<=k)(q:K (.sh (.bool (acc&&fa.isEmpty))) M):Cl G k 460 [.sh (lu acc v fa mo)] M K X:=
 dj (P.g1 5) (ds:=[lu acc v fa mo]) rfl (R:=λd=>d=.bool (acc&&fa.isEmpty)) hk (λd h=>h▸q)
  (go (bB (λe=>.inl ⟨[],rfl,.eq (.emp (xs:=fa.map .sh) rfl rfl) ⟨_,rfl,by rw[Q4,e];rfl⟩⟩) λe=>⟨_,rfl,by rw[e];rfl⟩))
end
structure d3 where
Z1:List (Int×cJ)
js:Nat
jv:Nat
states:LN
values:LD
looked:Option Str
count:Nat
answer:Str
value:D
ZT:LD
moves:LD
def yC:Option Str->cJ
|none=>.sh .none
|some x=>.sh (gj x)
def iT(g:cL)(T:dD)(s:d3):List (Nat×cJ):=[(39,.sh (dF g T)),(40,.sh (la g)),(41,.sh (.int 60)),(42,.own 1),(1,.own s.js),(43,.own s.jv),(44,yC s.looked),(45,.sh (.int (s.count:Int))),(46,.sh (.str s.answer)),(3,.sh s.value),(38,.own 4),(30,.own 5)]
structure CA(g:cL)(T:dD)(M:LB)(s:d3):Prop where
core:M[0]?=some (.inst 630 (iT g T s))
Z1:M[1]?=some (.Z7 s.Z1)
st:M[s.js]?=some (.list (cV s.states))
va:M[s.jv]?=some (.list (s.values.map .sh))
fa:M[4]?=some (.list (s.ZT.map .sh))
mo:M[5]?=some (.list (s.moves.map .sh))
ne:s.js≠s.jv
nj:∀i∈[0,1,4,5],s.js≠i/\s.jv≠i
theorem gs{M:LB}{i j:Nat}{x y:Ob}(h:M[j]?=some y)(ne:i≠j):(M.set i x)[j]?=some y:=by rw[bX ne];exact h
theorem gS{M:LB}{i:Nat}{x y:Ob}(h:M[i]?=some y):(M.set i x)[i]?=some x:=bd (dc h)
theorem ga{M:LB}{j:Nat}{x y:Ob}(h:M[j]?=some y):(M++[x])[j]?=some y:=by rw[bg (dc h)];exact h
section
variable{g:cL}{T:dD}{M:LB}{s:d3}(h:CA g T M s)
include h
theorem CA.n0:0≠s.js/\0≠s.jv:=⟨(h.nj 0 dQ).1.symm,(h.nj 0 dQ).2.symm⟩
theorem CA.n1:1≠s.js/\1≠s.jv:=⟨(h.nj 1 dQ).1.symm,(h.nj 1 dQ).2.symm⟩
theorem CA.n4:4≠s.js/\4≠s.jv:=⟨(h.nj 4 dQ).1.symm,(h.nj 4 dQ).2.symm⟩
theorem CA.n5:5≠s.js/\5≠s.jv:=⟨(h.nj 5 dQ).1.symm,(h.nj 5 dQ).2.symm⟩
theorem CA.put(lk:Option Str)(ct:Nat)(an:Str)(vl:D):CA g T (M.set 0 (.inst 630 (iT g T {s with looked:=lk,count:=ct,answer:=an,value:=vl}))) {s with looked:=lk,count:=ct,answer:=an,value:=vl}:=
 ⟨gS h.core,gs h.Z1 dQ,gs h.st h.n0.1,gs h.va h.n0.2,gs h.fa dQ,gs h.mo dQ,h.ne,h.nj⟩
theorem CA.YJ(es:List (Int×cJ)):CA g T (M.set 1 (.Z7 es)) {s with Z1:=es}:=
 ⟨gs h.core dQ,gS h.Z1,gs h.st h.n1.1,gs h.va h.n1.2,gs h.fa dQ,gs h.mo dQ,h.ne,h.nj⟩
theorem CA.putSt(l:LN):CA g T (M.set s.js (.list (cV l))) {s with states:=l}:=
 ⟨gs h.core h.n0.1.symm,gs h.Z1 h.n1.1.symm,gS h.st,gs h.va h.ne,gs h.fa h.n4.1.symm,gs h.mo h.n5.1.symm,h.ne,h.nj⟩
theorem CA.YH(l:LD):CA g T (M.set s.jv (.list (l.map .sh))) {s with values:=l}:=
 ⟨gs h.core h.n0.2.symm,gs h.Z1 h.n1.2.symm,gs h.st h.ne.symm,gS h.va,gs h.fa h.n4.2.symm,gs h.mo h.n5.2.symm,h.ne,h.nj⟩
theorem CA.YK(l:LD):CA g T (M.set 4 (.list (l.map .sh))) {s with ZT:=l}:=
 ⟨gs h.core dQ,gs h.Z1 dQ,gs h.st h.n4.1,gs h.va h.n4.2,gS h.fa,gs h.mo dQ,h.ne,h.nj⟩
theorem CA.YI(l:LD):CA g T (M.set 5 (.list (l.map .sh))) {s with moves:=l}:=
 ⟨gs h.core dQ,gs h.Z1 dQ,gs h.st h.n5.1,gs h.va h.n5.2,gs h.fa dQ,gS h.mo,h.ne,h.nj⟩
theorem CA.big:6<=M.length:=dc h.mo
theorem CA.YL(l:LD):CA g T ((M++[Ob.list (l.map .sh)]).set 0 (.inst 630 (iT g T {s with jv:=M.length,values:=l}))) {s with jv:=M.length,values:=l}:=by
 have hb:=h.big
 have U:=dc h.st
 refine⟨gS (ga h.core),gs (ga h.Z1) dQ,gs (ga h.st) h.n0.1,gs (oF _ _) (by show 0≠M.length;lia),gs (ga h.fa) dQ,gs (ga h.mo) dQ,by show s.js≠M.length;exact bz (by assumption),λi hi=>⟨(h.nj i hi).1,?_⟩⟩
 have:i<=5:=by revert hi;revert i;decide
 show M.length≠i;lia
theorem CA.YM(l:LN):CA g T ((M++[Ob.list (cV l)]).set 0 (.inst 630 (iT g T {s with js:=M.length,states:=l}))) {s with js:=M.length,states:=l}:=by
 have hb:=h.big
 have U:=dc h.va
 refine⟨gS (ga h.core),gs (ga h.Z1) dQ,gs (oF _ _) (by show 0≠M.length;lia),gs (ga h.va) h.n0.2,gs (ga h.fa) dQ,gs (ga h.mo) dQ,by show M.length≠s.jv;exact Nat.ne_of_gt (by assumption),λi hi=>⟨?_,(h.nj i hi).2⟩⟩
 have:i<=5:=by revert hi;revert i;decide
 show M.length≠i;lia
theorem CA.a{m:Nat}{v:cJ}(hl:(iT g T s).lookup m=some v)(ht:mt 630 m=some none):kb M (.own 0) m=some v:=pT h.core ht hl
theorem CA.YX(mv:D):CA g T (M.set 5 (.list (s.moves.map .sh++[.sh mv]))) {s with moves:=s.moves++[mv]}:=(ay (f:=cJ.sh) (l₁:=s.moves) (l₂:=[mv]))▸h.YI (s.moves++[mv])
theorem CA.Zi(mv:D):CA g T (M.set s.jv (.list (s.values.map .sh++[.sh mv]))) {s with values:=s.values++[mv]}:=(ay (f:=cJ.sh) (l₁:=s.values) (l₂:=[mv]))▸h.YH (s.values++[mv])
theorem CA.Z9{m f:Nat}(hl:(iT g T s).lookup m=none)(ht:mt 630 m=some (some f)):jR M (.own 0) m=some (.fn f):=by
 show(view M (.own 0)).bind (Fv m)=_
 rw[wh h.core rfl]
 show(if((iT g T s).lookup m).isNone then(mt 630 m).bind λo=>o.map MK.fn else none)=_
 rw[hl,ht];rfl
end
noncomputable def eI(T:dD)(q:Nat):Nat:=match T.rows[q]?,T.defs[q]? with
|some row,some d=>if d≠0/\∀v∈row,v=0 then d else 0
|_,_=>0
def gE(T:dD)(n:Nat)(es:List (Int×cJ)):Prop:=(es.map (·.1)).Nodup/\∀x∈es,∃q:Nat,q<n/\x=((q:Int),.sh (.int (eI T q:Nat)))
theorem gE.get{T:dD}{n:Nat}{es:List (Int×cJ)}(h:gE T n es)(q:Nat):c6 es (q:Int)=none∨c6 es (q:Int)=some (.sh (.int (eI T q:Nat))):=by
 unfold c6
 cases e:es.find? λx=>decide (x.1=(q:Int)) with
 |none=>exact .inl rfl
 |some x=>
  obtain ⟨O,_,rfl⟩:=h.2 x (List.mem_of_find?_eq_some e)
  have:=aD (List.find?_some (p:=λx:Int×cJ=>decide (x.1=(q:Int))) e)
  cases bC.mp this
  exact .inr rfl
theorem gE.add{T:dD}{n q:Nat}{es:List (Int×cJ)}(h:gE T n es)(hq:q<n)(hn:c6 es (q:Int)=none):dq es (q:Int) (.sh (.int (eI T q:Nat)))=es++[((q:Int),.sh (.int (eI T q:Nat)))]/\gE T n (es++[((q:Int),.sh (.int (eI T q:Nat)))])/\c6 (es++[((q:Int),.sh (.int (eI T q:Nat)))]) (q:Int)=some (.sh (.int (eI T q:Nat))):=by
 have O:∀x∈es,x.1≠(q:Int):=λx hx e=>by
  unfold c6 at hn
  rw[Option.map_eq_none_iff,List.find?_eq_none] at hn
  exact hn x hx (aG e)
 have U:gE T n (es++[((q:Int),.sh (.int (eI T q:Nat)))]):=by
  refine⟨?_,λx hx=>?_⟩
  ·rw[ay,bH]
   refine⟨h.1,bR.mpr ⟨λq=>(dh q),bx⟩,λa ha b hb e=>?_⟩
   obtain ⟨x,hx,rfl⟩:=aB.mp ha
   cases aF.mp hb
   exact O x hx e
  ·rcases aI.mp hx with hx|hx
   ·exact h.2 x hx
   ·cases aF.mp hx;exact⟨q,hq,rfl⟩
 refine⟨lR O,U,?_⟩
 rcases U.get q with e|e
 ·unfold c6 at e
  rw[Option.map_eq_none_iff,List.find?_eq_none] at e
  exact absurd (aG rfl) (e _ (b6 _ (.head _)))
 ·exact e
theorem gE.len{T:dD}{n:Nat}{es:List (Int×cJ)}(h:gE T n es):es.length<=n:=by
 have:=cG h.1 (l₂:=(List.range n).map λi:Nat=>(i:Int)) λx U=>by
  obtain ⟨y,O,rfl⟩:=aB.mp U
  obtain ⟨q,hq,rfl⟩:=h.2 y O
  exact aB.mpr ⟨q,ch.mpr hq,rfl⟩
 rwa [ag,ag,aQ] at this
structure Ctx(ps:Pairs)(sts:List LS)(T:dD):Prop where
ok:e9 ps
ne:ps≠[]
le:ps.length<=6
au:kM (cO ps) sts
tk:uE (cO ps) sts T
section
variable{ps:Pairs}{sts:List LS}{T:dD}(c:Ctx ps sts T)
include c
theorem Ctx.gk:dz (cO ps):=qe c.ok c.ne c.le
theorem Ctx.at{i:Nat}{s:LS}(h:sts[i]?=some s):∃row gt d,T.rows[i]?=some row/\T.ZO[i]?=some gt/\T.defs[i]?=some d/\Cz (cO ps) s row gt d:=by
 have hi:=dc h
 obtain ⟨h1,h2,h3,h4⟩:=c.tk
 have O:=aC (l:=T.rows) (i:=i) (by lia)
 have U:=aC (l:=T.ZO) (i:=i) (by lia)
 have a3:=aC (l:=T.defs) (i:=i) (by lia)
 exact⟨_,_,_,O,U,a3,h4 i s _ _ _ h O U a3⟩
theorem Ctx.YF:sts.length<=mx:=ae c.au.size dQ
end
theorem O2{M:LB}{j:Nat}{es:List (Int×cJ)}{i:Int}{v:cJ}(hm:M[j]?=some (.Z7 es))(h:c6 es i=some v):fX M (.own j) (.sh (.int i))=some v:=by
 show(view M (.own j)).bind _=_
 rw[wh hm rfl];exact h
theorem QT{T:dD}{q d:Nat}{row:LJ}(U:T.rows[q]?=some row)(O:T.defs[q]?=some d):eI T q=if d≠0/\∀v∈row,v=0 then d else 0:=by unfold eI;rw[U,O]
theorem FG{y:Str}(U:y.length<=20):("more than ":Str).length+y.length<=sizeLine/\(("more than ":Str)++y).length+(" moves":Str).length<=sizeLine:=by
 have O:("more than ":Str).length=10:=by decide
 have e2:(" moves":Str).length=6:=by decide
 rw[Str.length_append,O,e2]
 exact⟨ae (bq U 10) dQ,ae (bf (bq U 10) 6) dQ⟩
section
variable{G:Gd}{k f n:Nat}{E:Ev}{M:LB}{K:KT}{X:XT}(P:dO G){ps:Pairs}{sts:List LS}{T:dD}(c:Ctx ps sts T){s:d3}(h:CA (cO ps) T M s)
include P h
theorem SV(hk:2<=k)(q:K (.sh .none) M):Cl G k 559 [.own 0] M K X:=by
 cases hl:s.looked with
 |none=>
  have e:(iT (cO ps) T s).lookup 44=some (.sh .none):=by unfold iT;rw[hl];rfl
  exact eL (P.g1 9) rfl hk (go (oI (h.a e rfl) q))
 |some x=>
  have e:(iT (cO ps) T s).lookup 44=some (.sh (gj x)):=by unfold iT;rw[hl];rfl
  exact eL (P.g1 9) rfl hk (go (oI (h.a e rfl) (oI (h.a e rfl) q)))
theorem DY{an:Str}{vl:D}(hk:2<=k)(q:∀M',CA (cO ps) T M' {s with answer:=an,value:=vl}->K (.sh .none) M'):Cl G k 566 [.own 0,.sh (.str an),.sh vl] M K X:=
 have U:=h.put s.looked s.count an s.value
 eL (P.g3 5) rfl hk (go (oI h.core (oI U.core (q _ (U.put s.looked s.count an vl)))))
theorem QU{x:Str}(hk:2<=k)(q:∀M',CA (cO ps) T M' {s with looked:=some x,count:=s.count+1}->K (.sh .none) M'):Cl G k 531 [.own 0,.sh (gj x)] M K X:=
 have U:=h.put (some x) s.count s.answer s.value
 eL (P.g2 10) rfl hk (go (oI h.core (oI (U.a rfl rfl) (oI U.core (q _ (U.put (some x) (s.count+1) s.answer s.value))))))
theorem As(gx:Gx G){mv:D}(hm:s.moves.length<=60)(hk:4<=k)(q:s.moves.length<60->∀M',CA (cO ps) T M' {s with moves:=s.moves++[mv]}->K (.sh .none) M')(x:s.moves.length=60->X M):Cl G k 552 [.own 0,.sh mv] M K X:=
 have O:s.moves.length<=mx:=c3 (ae hm dQ)
 eL (P.g2 13) rfl hk (go (oI (h.a rfl rfl) (mS h.mo (ag _) O (oI (h.a rfl rfl) (bI
  (λU=>⟨gx,oI (h.a rfl rfl) (fJ.str dQ dQ λy hy=>i9.str (FG hy).1 (i9.str (FG hy).2 (oI (h.Z9 rfl rfl) (SV P h dQ (x (Nat.le_antisymm hm (b7.mp U)))))))⟩)
  λU=>oI (h.a rfl rfl) (oI (lN h.mo) (app h.mo (by rw[ag];exact O) (q (aV.mp (Int.not_le.mp U)) _ (h.YX mv)))))))))
include c
theorem VZ{x:Str}(U:gK ps x≠1)(hk:4<=k)(q:K (.sh (.int (gK ps x))) M):Cl G k 545 [.own 0,.sh (gj x)] M K X:=
 eL (P.g2 12) rfl hk (go (oI (h.a rfl rfl) (VY P dQ (bF (λe=>U (bC.mp e)) q))))
theorem Fm{q:Nat}(hl:gE T sts.length s.Z1)(U:q<sts.length)(hk:6<=k)(qq:∀M' es,CA (cO ps) T M' {s with Z1:=es}->gE T sts.length es->K (.sh (.int (eI T q:Nat))) M'):Cl G k 538 [.own 0,.sh (.int (q:Int))] M K X:=
 (c.at (aC U)).elim λrow h'=>h'.elim λgt h'=>h'.elim λd h'=>have lo:=QT h'.1 h'.2.2.1
 have lm:s.Z1.length<=mx:=ae hl.len c.YF
 eL (P.g2 11) rfl hk (jn 1 (λ_:LB×List (Int×cJ)=>[some (.own 0),some (.sh (.int (q:Int)))]) (λt=>t.1) (λt=>CA (cO ps) T t.1 {s with Z1:=t.2}/\gE T sts.length t.2/\c6 t.2 (q:Int)=some (.sh (.int (eI T q:Nat))))
  (λN nx=>oI (h.a rfl rfl) (Gw (es:=s.Z1) (wh h.Z1 rfl) (λv hv=>nx [] (M,s.Z1) ⟨h,hl,(hl.get q).elim (λe=>by rw[e] at hv;exact cR hv) id⟩ rfl)
   λhn=>have a:=hl.add U hn
    have fin:∀z:Nat,eI T q=z->N [some (.own 0),some (.sh (.int (q:Int)))] (M.set 1 (.Z7 (dq s.Z1 (q:Int) (.sh (.int z))))):=λz e=>nx [] (M.set 1 (.Z7 (dq s.Z1 (q:Int) (.sh (.int z)))),s.Z1++[((q:Int),.sh (.int (eI T q:Nat)))]) ⟨by rw[←e,a.1];exact h.YJ _,a.2⟩ rfl
    oI (h.a rfl rfl) (MS P h'.1 h'.2.2.1 h'.2.2.2.len c.gk.ZN dQ (bI (λO=>oI (h.a rfl rfl) (BA P h'.2.2.1 dQ (oI (h.a rfl rfl) (.Z7 h.Z1 lm (fin d (lo.trans (al O)))))))
     λO=>oI (h.a rfl rfl) (.Z7 h.Z1 lm (fin 0 (lo.trans (av O))))))))
  λt h'=>go (oI (h'.1.a rfl rfl) (oI (O2 h'.1.Z1 h'.2.2) (qq _ t.2 h'.1 h'.2.1))))
end
noncomputable def qS(q:Nat):D:=.tup [.str "shift",.int q]
noncomputable def qN(r:Nat):D:=.tup [.str "reduce",.int r]
noncomputable def pP:D:=.tup [.str "accept"]
theorem E5{l:LN}{q:Nat}(h:l.getLast?=some q):(cV l).getLast?=some (.sh (.int (q:Int))):=by unfold cV;rw[List.getLast?_map,h];rfl
theorem yb{g:cL}{X q:Nat}(U:g.tc<=X):∀{l:LZ},l.lookup X=some q->(jC g l).lookup X=some q
 |[],h=>cR h
 |(a,b)::l,h=>by
  rw[bQ] at h
  unfold jC
  rw[cj]
  by_cases e:X=a
  ·subst e
   rw[ck] at h
   rw[al (aG U),bQ,ck];exact h
  ·rw[ca.mpr e] at h
   split
   ·rw[bQ,ca.mpr e];exact yb U (l:=l) h
   ·exact yb U (l:=l) h
theorem NV{M:LB}{j:Nat}{ds:LD}(h:M[j]?=some (.list (ds.map .sh))):c7 M (.own j)=some (.list ds):=by
 show((M[j]?).bind (fR M))=_
 rw[h]
 show(data M (ds.map .sh)).map D.list=_
 rw[rQ];rfl
def kK(ps:Pairs)(row:LJ):LQ:=(ij row (toks ps).length).map λt=>((de ps)[t]?).getD ""
noncomputable def xD:d3:=⟨[],2,3,[0],[],none,0,"more",.none,[],[]⟩
section
variable{g:cL}{T:dD}{M:LB}{s:d3}(h:CA g T M s)
include h
theorem CA.Ze:c7 M (.own s.jv)=some (.list s.values):=NV h.va
theorem CA.top{q:Nat}(U:s.states.getLast?=some q):fX M (.own s.js) (.sh (.int (-1)))=some (.sh (.int (q:Int))):=yo h.st (E5 U)
theorem CA.lk{x:Str}(U:s.looked=some x):(iT g T s).lookup 44=some (.sh (gj x)):=by unfold iT;rw[U];rfl
end
section
variable{G:Gd}{k f n:Nat}{E:Ev}{M:LB}{K:KT}{X:XT}
theorem UX{x:cJ}{z:Int}{i:Nat}{ds r:LD}(e:z=(i:Nat))(U:c7 M x=some (.list ds))(hl:ds.length<=1000)(er:ds.drop i=r)(q:K (.sh (.list r)) M):fU M K x (some (.sh (.int z))) none:=by
 subst e er
 exact wx U (c3 hl) (.inl q)
theorem HC{x:cJ}{z:Int}{i:Nat}{ds r:LD}{vs:LV}(e:z=(i:Nat))(U:c7 M x=some (.list ds))(hl:ds.length<=1000)(er:ds.take i=r)(ev:r.map .sh=vs)(q:K (.own M.length) (M++[.list vs])):fU M K x none (some (.sh (.int z))):=by
 subst e er ev
 exact HB U (c3 hl) (.inr q)
variable(P:dO G)(gx:Gx G){ps:Pairs}{sts:List LS}{T:dD}(c:Ctx ps sts T){s:d3}(h:CA (cO ps) T M s)
include P c h
theorem Rj{q:Nat}(hq:s.states.getLast?=some q)(hl:gE T sts.length s.Z1)(U:q<sts.length)(hk:8<=k)(qq:∀M' es,CA (cO ps) T M' {s with Z1:=es}->gE T sts.length es->K (.sh (.bool (s.looked.isNone&&decide (eI T q=0)))) M'):Cl G k 524 [.own 0] M K X:=by
 cases O:s.looked with
 |none=>
  have e:(iT (cO ps) T s).lookup 44=some (.sh .none):=by unfold iT;rw[O];rfl
  exact eL (P.g1 8) rfl hk (go (oI (h.a e rfl) (oI (h.Z9 rfl rfl) (oI (h.a rfl rfl) (oI (h.top hq) (Fm P c h hl U dQ λM' es h' hl'=>by
   have:=qq M' es h' hl'
   rw[show(s.looked.isNone&&decide (eI T q=0))=decide (((eI T q:Nat):Int)=0) by rw[O];exact decide_eq_decide.mpr Int.ofNat_inj.symm] at this
   exact this))))))
 |some x=>exact eL (P.g1 8) rfl hk (go (oI (h.a (h.lk O) rfl) (by
  have:=qq M s.Z1 h hl
  rw[show(s.looked.isNone&&decide (eI T q=0))=false by rw[O];rfl] at this
  exact this)))
include gx
theorem UR{O:Nat}{x:Str}(hx:s.looked=some x)(hm:s.moves.length<=60)(hs:s.states.length<=500)(hv:s.values.length<=500)(hk:6<=k)
 (q:s.moves.length<60->∀M',CA (cO ps) T M' {s with moves:=s.moves++[qS O],states:=s.states++[O],values:=s.values++[dm x],looked:=none}->K (.sh .none) M') (xx:s.moves.length=60->X M):Cl G k 587 [.own 0,.sh (.int (O:Int))] M K X:=
 eL (P.g2 15) rfl hk (go (oI (h.Z9 rfl rfl) (As P h gx (mv:=qS O) hm dQ (λh6 M1 h1=>
  have U:=h1.putSt (s.states++[O])
  have h3:=U.Zi (dm x)
  oI (h1.a rfl rfl) (oI (lN h1.st) (kY h1.st (ae hs dQ) (oI (U.a rfl rfl) (oI (lN U.va) (oI (U.a rfl rfl) (oI (U.a (U.lk hx) rfl) (Oy P dQ (app U.va (by rw[ag];exact c3 (ae hv dQ)) (oI h3.core
   (q h6 _ (h3.put none s.count s.answer s.value)))))))))))) xx)))
omit gx in
theorem Jz{r:Nat}{p:Str×LQ}{ks:LD}(hp:ps[r]?=some p)(hl:ks.length<=1000)(hk:6<=k)(q:K (.sh (d8 p.1 (r+1) ks)) M):Cl G k 601 [.own 0,.sh (.int ((r+1:Nat):Int)),.sh (.list ks)] M K X:=
 eL (P.g3 6) rfl hk (go (oI (h.a rfl rfl) (Ow P c.ok hp hl dQ q)))
theorem N9{r q' p0:Nat}{p:Str×LQ}{s0:LS}{d:D}(hp:ps[r]?=some p)(ht:s.states.getLast?=some p0)(h0:sts[p0]?=some s0)(hg:s0.moves.lookup (c4 ps p.1)=some q')(hs:s.states.length<=500)(hv:s.values.length<=500)(hk:6<=k)
 (q:∀M',CA (cO ps) T M' {s with states:=s.states++[q'],values:=s.values++[d]}->K (.sh .none) M'):Cl G k 608 [.own 0,.sh (.int ((r+1:Nat):Int)),.sh d] M K X:=
 have U:(cO ps).rules[r+1]?=some (i4 ps p):=(aA).trans (aj _ hp)
 have hn:=(tM c.ok (jo.mpr (jQ.mpr ⟨p,ax hp,rfl⟩))).1
 have htc:(toks ps).length<=c4 ps p.1:=by lia
 have O:=h.putSt (s.states++[q'])
 (c.at h0).elim λrow h'=>h'.elim λgt h'=>h'.elim λdf h'=>
 eL (P.g3 7) rfl hk (go (oI (h.a rfl rfl) (oI (h.a rfl rfl) (oI (h.top ht) (oI (h.a rfl rfl) (QD P U dQ (V3 P h'.2.1 (X':=c4 ps p.1) (q':=q') (by rw[h'.2.2.2.gt];exact yb htc hg) dQ
  (oI (h.a rfl rfl) (oI (lN h.st) (kY h.st (ae hs dQ) (oI (O.a rfl rfl) (oI (lN O.va) (app O.va (by rw[ag];exact c3 (ae hv dQ)) (q _ (O.Zi d)))))))))))))))
theorem Ua{r q' p0:Nat}{p:Str×LQ}{s0:LS}{vals ks:LD}{ps0:LN}(hp:ps[r]?=some p)(hvs:s.values=vals++ks)(hkl:ks.length=p.2.length)(ht:s.states.take (vals.length+1)=ps0++[p0])(h0:sts[p0]?=some s0)(hg:s0.moves.lookup (c4 ps p.1)=some q')
 (hm:s.moves.length<=60) (hs:s.states.length<=400) (hv:s.values.length<=400) (hk:8<=k)
 (q:s.moves.length<60->∀M' js jv,CA (cO ps) T M' {s with moves:=s.moves++[qN (r+1)],values:=vals++[d8 p.1 (r+1) ks],states:=ps0++[p0]++[q'],js:=js,jv:=jv}->K (.sh .none) M') (xx:s.moves.length=60->X M):Cl G k 594 [.own 0,.sh (.int ((r+1:Nat):Int))] M K X:=
 have hrl:(cO ps).rules[r+1]?=some (i4 ps p):=(aA).trans (aj _ hp)
 have hpl:(i4 ps p).right.length=p.2.length:=ag _
 have hvl:s.values.length=vals.length+p.2.length:=by rw[hvs,ak,hkl]
 have O:s.values.length<=1000:=ae hv dQ
 have e1:(s.values.length:Int)-((i4 ps p).right.length:Nat)-0=(vals.length:Nat):=by rw[hpl,hvl];lia
 have e2:(s.values.length:Int)-((i4 ps p).right.length:Nat)=(vals.length:Nat):=by rw[hpl,hvl];lia
 have e3:(s.values.length:Int)-((i4 ps p).right.length:Nat)+1=(vals.length+1:Nat):=by rw[e2];rfl
 have hkm:ks.length<=1000:=by rw[hkl];exact ae (Nat.le_add_left _ _) (hvl▸O)
 have hvv:vals.length<=500:=ae (aW _ _) (hvl▸ae hv (by decide:400<=500))
 have hpp:(ps0++[p0]).length<=500:=by rw[←ht];exact ae (bK ..) (ae hs dQ)
 eL (P.g2 16) rfl hk (go (oI (h.Z9 rfl rfl) (As P h gx (mv:=qN (r+1)) hm dQ (λh6 M1 U=>
  have h2:=U.YL vals
  have h3:=h2.YM (ps0++[p0])
  oI (U.a rfl rfl) (QM P hrl dQ (oI (U.a rfl rfl) (mS U.va (ag _) (c3 O) (oI (U.a rfl rfl) (JZ P hrl dQ (oI (U.Z9 rfl rfl) (oI (U.a rfl rfl) (UX (i:=vals.length) e1 U.Ze O (by rw[hvs];exact List.drop_left) (Jz P c U hp hkm dQ
   (oI (U.a rfl rfl) (mS U.va (ag _) (c3 O) (oI (U.a rfl rfl) (HC (i:=vals.length) e2 U.Ze O (by rw[hvs];exact List.take_left) rfl (oI (ga U.core) (oI (h2.a rfl rfl) (HC (i:=vals.length+1) (vs:=cV (ps0++[p0])) e3 (mN h2.st) (by rw[ag];exact ae hs dQ) ((List.map_take).symm.trans (aj _ ht)) aJ
    (oI (ga h2.core) (oI (h3.Z9 rfl rfl) (N9 P gx c h3 hp (List.getLast?_concat ..) h0 hg hpp hvv dQ λM' h'=>q h6 M' _ _ h')))))))))))))))))))) xx)))
omit gx in
theorem Mn{q:Nat}{row:LJ}(U:s.states.getLast?=some q)(hr:T.rows[q]?=some row)(hl:row.length=(toks ps).length)(hb:∀v∈row,v≠-1048576)(hk:6<=k)
 (O:K (.sh (cS (ij row (toks ps).length))) M):Cl G k 615 [.own 0] M K X:=
 eL (P.g1 11) rfl hk (go (oI (h.a rfl rfl) (oI (h.a rfl rfl) (oI (h.top U) (Ny P hr hl c.gk.ZN hb dQ O)))))
omit gx in
theorem NB{q:Nat}{row:LJ}{x:Str}{t:cJ}(hx:s.looked=some x)(O:s.states.getLast?=some q)(hr:T.rows[q]?=some row)(hl:row.length=(toks ps).length)(hb:∀v∈row,v≠-1048576){i:Nat}(hi:s.count=i+1)(hf:s.ZT=[])(hk:10<=k)
 (qq:∀M',CA (cO ps) T M' {s with ZT:=[km x q (kK ps row) i],answer:="aborted",value:=.none}->K (.sh .none) M'):Cl G k 627 [.own 0,t] M K X:=
 have t8:(toks ps).length<=8:=c.gk.ZN
 have hw:(ij row (toks ps).length).length<=1000:=ae (br ..) (by rw[aQ];exact ae t8 dQ)
 have h2:=h.YK [km x q (kK ps row) i]
 eL (P.g2 17) rfl hk (go (oI (h.Z9 rfl rfl) (eL (P.g1 12) rfl (j:=6) dQ (go (oI (h.Z9 rfl rfl) (Mn P c h O hr hl hb dQ
  (uQ (l:=ij row (toks ps).length) (λt=>((de ps)[t]?).getD "") dG hw (λj t R ht h'=>
   have ht:=ch.mp (aT.mp (ax ht)).1
   have U:t<(de ps).length:=by unfold de;rw[ak,ak];lia
   have e:=aC U
   oI (h.a rfl rfl) (oI (dJ (ly e)) (by rw[e] at h';exact h')))
  (oI (h.a rfl rfl) (oI (lN h.fa) (oI (h.a (h.lk hx) rfl) (oI (h.a rfl rfl) (oI (h.top O) (oI (h.a rfl rfl) (NC P dQ (app h.fa (by rw[hf];exact aL _)
   (by
    rw[hf,show((s.count:Int)-1)=(i:Nat) by rw[hi];exact Bx i]
    exact oI (h2.Z9 rfl rfl) (DY P h2 dQ qq)))))))))))))))))
end
section
variable{G:Gd}{k f n:Nat}{E:Ev}{M:LB}{K:KT}{X:XT}(P:dO G){ps:Pairs}{T:dD}
include P
theorem MU{a:D}{ks:LN}{ds:LD}(hk:4<=k)(q:K (.own 0) [.inst 630 [(39,.sh a),(40,.sh (.inst 1124 ks ds)),(41,.sh (.int 60)),(42,.own 1),(1,.own 2),(43,.own 3),(44,.sh .none),(45,.sh (.int 0)),(46,.sh (.str "more")),(3,.sh .none),(38,.own 4),(30,.own 5)],.Z7 [],.list [.sh (.int 0)],.list [],.list [],.list []]):Nw G k 630 [.sh a,.sh (.inst 1124 ks ds),.sh (.int 60)] [] K X:=
 tH rfl (P.g4 2) rfl hk (gA (M:=[]) rfl rfl rfl ⟨_,rfl,gM (M':=[.inst 630 [(39,.sh a)]]) rfl (gA (M:=[]) rfl rfl rfl ⟨_,rfl,gM (M':=[.inst 630 [(39,.sh a),(40,.sh (.inst 1124 ks ds))]]) rfl (gA (M:=[]) rfl rfl rfl ⟨_,rfl,gM (M':=[.inst 630 [(39,.sh a),(40,.sh (.inst 1124 ks ds)),(41,.sh (.int 60))]]) rfl (gA (M:=[]) rfl rfl rfl ⟨0,_,rfl,gM (M':=[.inst 630 [(39,.sh a),(40,.sh (.inst 1124 ks ds)),(41,.sh (.int 60)),(42,.own 1)],.Z7 []]) rfl (go (eL (P.g1 6) rfl (j:=0) dQ (gA (M:=[]) rfl rfl rfl (.inr ⟨_,rfl,gM (M':=[.inst 630 [(39,.sh a),(40,.sh (.inst 1124 ks ds)),(41,.sh (.int 60)),(42,.own 1),(1,.own 2)],.Z7 [],.list [.sh (.int 0)]]) rfl (gA (M:=[]) rfl rfl rfl (.inr ⟨_,rfl,gM (M':=[.inst 630 [(39,.sh a),(40,.sh (.inst 1124 ks ds)),(41,.sh (.int 60)),(42,.own 1),(1,.own 2),(43,.own 3)],.Z7 [],.list [.sh (.int 0)],.list []]) rfl (gA (M:=[]) rfl rfl rfl ⟨_,rfl,gM (M':=[.inst 630 [(39,.sh a),(40,.sh (.inst 1124 ks ds)),(41,.sh (.int 60)),(42,.own 1),(1,.own 2),(43,.own 3),(44,.sh .none)],.Z7 [],.list [.sh (.int 0)],.list []]) rfl (gA (M:=[]) rfl rfl rfl ⟨_,rfl,gM (M':=[.inst 630 [(39,.sh a),(40,.sh (.inst 1124 ks ds)),(41,.sh (.int 60)),(42,.own 1),(1,.own 2),(43,.own 3),(44,.sh .none),(45,.sh (.int 0))],.Z7 [],.list [.sh (.int 0)],.list []]) rfl (gA (M:=[]) rfl rfl rfl ⟨_,rfl,gM (M':=[.inst 630 [(39,.sh a),(40,.sh (.inst 1124 ks ds)),(41,.sh (.int 60)),(42,.own 1),(1,.own 2),(43,.own 3),(44,.sh .none),(45,.sh (.int 0)),(46,.sh (.str "more"))],.Z7 [],.list [.sh (.int 0)],.list []]) rfl (gA (M:=[]) rfl rfl rfl ⟨_,rfl,gM (M':=[.inst 630 [(39,.sh a),(40,.sh (.inst 1124 ks ds)),(41,.sh (.int 60)),(42,.own 1),(1,.own 2),(43,.own 3),(44,.sh .none),(45,.sh (.int 0)),(46,.sh (.str "more")),(3,.sh .none)],.Z7 [],.list [.sh (.int 0)],.list []]) rfl (gA (M:=[]) rfl rfl rfl (.inr ⟨_,rfl,gM (M':=[.inst 630 [(39,.sh a),(40,.sh (.inst 1124 ks ds)),(41,.sh (.int 60)),(42,.own 1),(1,.own 2),(43,.own 3),(44,.sh .none),(45,.sh (.int 0)),(46,.sh (.str "more")),(3,.sh .none),(38,.own 4)],.Z7 [],.list [.sh (.int 0)],.list [],.list []]) rfl (gA (M:=[]) rfl rfl rfl (.inr ⟨_,rfl,go q⟩))⟩))⟩)⟩)⟩)⟩)⟩))⟩))))⟩)⟩)⟩)⟩)
theorem MT(hk:4<=k)(q:∀M',CA (cO ps) T M' xD->K (.own 0) M'):Nw G k 630 [.sh (dF (cO ps) T),.sh (la (cO ps)),.sh (.int 60)] [] K X:=
 MU P hk (q _ ⟨rfl,rfl,rfl,rfl,rfl,rfl,by decide,by decide⟩)
end
noncomputable def sL:LQ:=["s"]
structure dA where
sy:LQ
ct:Nat
fo:List LQ
us:LN
ov:Bool
inductive rB(ps:Pairs)(row:LQ):dA->D->dA->Prop
|shift {sy c fo us x q}:row[c]?=some x->rB ps row ⟨sy,c,fo,us,false⟩ (qS q) ⟨sy++[x],c+1,fo,us,false⟩
|reduce {sy0 c fo us r} {p:Str×LQ}:ps[r]?=some p->rB ps row ⟨sy0++p.2,c,fo,us,false⟩ (qN (r+1)) ⟨sy0++[p.1],c,fo++[sy0++[p.1]++row.drop c],us++[r+1],false⟩
|accept {fo us}:rB ps row ⟨sL,row.length,fo,us,false⟩ pP ⟨sL,row.length,fo,us,true⟩
inductive RS(ps:Pairs)(row:LQ):dA->LD->dA->Prop
|nil {z}:RS ps row z [] z
|cons {a m b l z}:rB ps row a m b->RS ps row b l z->RS ps row a (m::l) z
theorem RS.snoc{ps:Pairs}{row:LQ}{a b z:dA}{l:LD}{m:D}(h:RS ps row a l b)(q:rB ps row b m z):RS ps row a (l++[m]) z:=by
 induction h with
 |nil=>exact .cons q .nil
 |cons U _ O=>exact .cons U (O q)
theorem Fo.ZA{ds:LD}{ns:LQ}{ps:LD}{U:LQ}{rs:LN}(h:Fo ds ns ps U rs):(∀d∈ds,gG d)/\ds.map dn=ns:=by
 induction h with
 |nil=>exact⟨λd hd=>(dh hd),rfl⟩
 |leaf _ O=>
  refine⟨λd hd=>?_,by rw[ay,O.2];rfl⟩
  rcases aI.mp hd with hd|hd
  ·exact O.1 d hd
  ·cases aF.mp hd;exact .leaf _
 |node _ _ O _=>
  refine⟨λd hd=>?_,by rw[ay,O.2];rfl⟩
  rcases aI.mp hd with hd|hd
  ·exact O.1 d hd
  ·cases aF.mp hd;exact .node _ _ _
structure Inv(ps:Pairs)(sts:List LS)(row:LQ)(states:LN)(values moves:LD)(z:dA):Prop where
rs:RS ps row ⟨[],0,[row],[],false⟩ moves z
way:gm sts states (z.sy.map (c4 ps))
fo:∃nodes,Fo values z.sy nodes (row.take z.ct) z.us/\nodes.length<=moves.length
dv:∃fs,DV (·∈row) ps (values++(row.drop z.ct).map dm) fs z.us.reverse/\z.fo.reverse=(z.sy++row.drop z.ct)::fs/\fs.length<=moves.length
sym:∀x∈z.sy,x∈de ps
ct:z.ct<=row.length
tok:∀x∈row.take z.ct,x∈toks ps
theorem yF{ps:Pairs}:∀{a b:LQ},(∀x∈a,x∈de ps)->(∀x∈b,x∈de ps)->a.map (c4 ps)=b.map (c4 ps)->a=b
 |[],[],_,_,_=>rfl
 |[],y::b,_,_,h=>wN h
 |x::a,[],_,_,h=>jE h
 |x::a,y::b,O,h2,h=>by
  rw[aN,aN] at h
  obtain ⟨e1,e2⟩:=bZ h
  rw[RI (O x (.head _)) (h2 y (.head _)) e1,yF (λx U=>O x (.tail _ U)) (λx U=>h2 x (.tail _ U)) e2]
section
variable{ps:Pairs}{sts:List LS}{T:dD}(c:Ctx ps sts T){row:LQ}{states:LN}{values moves:LD}{z:dA}(h:Inv ps sts row states values moves z)
include h
theorem Inv.ZF:values.length=z.sy.length/\states.length=z.sy.length+1/\values.length<=moves.length:=by
 obtain ⟨O,hf,hn⟩:=h.fo
 have U:=hf.len
 have h2:=h.way.len
 rw[ag] at h2
 exact⟨U.2.symm,h2,ae U.1 hn⟩
include c
theorem Inv.last:∃O q st,states=O++[q]/\sts[q]?=some st/\states.getLast?=some q:=by
 have hl:=h.ZF.2.1
 rcases List.eq_nil_or_concat states with e|⟨O,q,e⟩
 ·rw[e] at hl;exact nA hl
 ·rw[List.concat_eq_append] at e
  have U:=h.way
  rw[e] at U
  exact(U.top c.au).elim λst c9=>⟨O,q,st,e,c9,by rw[e];exact List.getLast?_concat ..⟩
omit c h in
theorem Inv.red{O:LQ}{ct:Nat}{fo:List LQ}{us:LN}{vals ks:LD}{r:Nat}{p:Str×LQ}{U:LN}(hn:p.1∈de ps)(h:Inv ps sts row states (vals++ks) moves ⟨O++p.2,ct,fo,us,false⟩)(hp:ps[r]?=some p)(hl:vals.length=O.length)
 (hw:gm sts U ((O++[p.1]).map (c4 ps))):Inv ps sts row U (vals++[d8 p.1 (r+1) ks]) (moves++[qN (r+1)]) ⟨O++[p.1],ct,fo++[O++[p.1]++row.drop ct],us++[r+1],false⟩:=by
 refine h.fo.elim λnodes hf=>h.dv.elim λfs hd=>(hf.1.split rfl).casesOn λ{n1 p1 t1 r1 n2 p2 t2 r2}f1 f2 en ep et er=>?_
 have en:=List.append_inj en (by rw[f1.len.2,hl])
 have f1:Fo vals O p1 t1 r1:=en.1▸f1
 have f2:Fo ks p.2 p2 t2 r2:=en.2▸f2
 have hg:=f1.node (nm:=p.1) (r:=r+1) f2
 rw[←et,←aP r1,←er] at hg
 have hks:=f2.ZA.2
 have hv:=DV.step (a:=vals) (nm:=p.1) (r:=r) (ks:=ks) (bs:=row.drop ct) (λx hx=>List.mem_of_mem_drop hx) (by rw[hp,hks]) (λd hd=>(aI.mp hd).elim (f1.ZA.1 d) (f2.ZA.1 d)) hd.1
 rw[ay,ay,f1.ZA.2,hks,aJ,show(row.drop ct).map (dn∘dm)=row.drop ct from List.map_id _] at hv
 exact⟨h.rs.snoc (.reduce hp),hw,⟨_,hg,by have:=hf.2;rw[ep,ak] at this;rw[ak,ak,ak];exact aK this⟩,
  ⟨(O++p.2++row.drop ct)::fs,by rw[List.reverse_append,aP];exact hv,by show(fo++[_]).reverse=_;rw[List.reverse_append,show fo.reverse=_ from hd.2.1];rfl,by rw[ak];exact aK hd.2.2⟩,
  λx hx=>(aI.mp hx).elim (λq=>h.sym x (bM _ q)) λq=>aF.mp q▸hn,h.ct,h.tok⟩
inductive Ce(ps:Pairs)(sts:List LS)(row:LQ)(states:LN)(R:Nat)(values moves:LD)(z:dA):Prop
 |mk {r p vals ks ps0 p0 s0 q' z'}:R=r+1->ps[r]?=some p->values=vals++ks->ks.length=p.2.length->states.take (vals.length+1)=ps0++[p0]->sts[p0]?=some s0->s0.moves.lookup (c4 ps p.1)=some q'->z'.ct=z.ct->z'.ov=false->
  Inv ps sts row (ps0++[p0]++[q']) (vals++[d8 p.1 (r+1) ks]) (moves++[qN (r+1)]) z'->Ce ps sts row states R values moves z
theorem Inv.reduce{ps1:LN}{q R:Nat}{st:LS}(hov:z.ov=false)(hq:states=ps1++[q])(c9:sts[q]?=some st)(hR:R∈st.ZZ):Ce ps sts row states R values moves z:=by
 refine(show gm sts (ps1++[q]) _ from hq▸h.way).reduce c.au c9 hR|>.casesOn λ{x O ps₀ p₀ s₀ q'}h1 h2 h3 h4 h5 h6 h8=>?_
 cases R with
 |zero=>exact absurd rfl h2
 |succ r=>
 refine(vb c.ok h1).elim λp hp=>?_
 have hpm:=ax hp.1
 rw[hp.2] at h3 h6 h8
 have h3:z.sy.map (c4 ps)=O++p.2.map (c4 ps):=h3
 have el:=aj List.length h3
 rw[ag,ak,ag] at el
 have U:O.length<=z.sy.length:=el▸aW _ _
 have hvl:(values.take O.length).length=O.length:=by rw[bb,h.ZF.1];exact cu U
 have hsl:(z.sy.take O.length).length=O.length:=by rw[bb];exact cu U
 have e3:=List.append_inj (show(z.sy.take O.length).map (c4 ps)++(z.sy.drop O.length).map (c4 ps)=O++p.2.map (c4 ps) by rw[←ay,ci];exact h3) (by rw[ag];exact hsl)
 have e2:z.sy.drop O.length=p.2:=yF (λx U=>h.sym x (List.mem_of_mem_drop U)) (λx U=>(wt c.ok hpm U).2.2.2) e3.2
 have h':Inv ps sts row states (values.take O.length++values.drop O.length) moves ⟨z.sy.take O.length++p.2,z.ct,z.fo,z.us,false⟩:=by
  rw[ci,←e2,ci,←hov];exact h
 exact .mk (z':=⟨_,z.ct,_,_,false⟩) rfl hp.1 (ci ..).symm (by rw[cb,h.ZF.1,el,cI]) (by rw[hq,hvl];exact h4) h5 h6 rfl rfl (h'.red (oG (jo.mpr (jQ.mpr ⟨p,hpm,rfl⟩))) hp.1 (hvl.trans hsl.symm) (by rw[ay,e3.1];exact h8))
omit c in
theorem Inv.shift{ps1:LN}{q O:Nat}{st:LS}{x:Str}(hov:z.ov=false)(hq:states=ps1++[q])(c9:sts[q]?=some st)(U:row[z.ct]?=some x)(hxt:x∈toks ps)(hg:st.moves.lookup (c4 ps x)=some O):
 ∃z',z'.ct=z.ct+1/\z'.ov=false/\Inv ps sts row (states++[O]) (values++[dm x]) (moves++[qS O]) z':=by
 obtain ⟨sy,ct,fo,us,ov⟩:=z
 cases hov
 obtain ⟨nodes,hf,hn⟩:=h.fo
 obtain ⟨fs,hd,hr,hfl⟩:=h.dv
 have hw:=h.way
 rw[hq] at hw
 have U:row[ct]?=some x:=U
 have hdr:row.drop ct=x::row.drop (ct+1):=by
  rw[List.drop_eq_getElem_cons (dc U)]
  congr 1
  exact aq ((aC (dc U)).symm.trans U)
 have htk:row.take (ct+1)=row.take ct++[x]:=take_snoc U
 refine⟨⟨sy++[x],ct+1,fo,us,false⟩,rfl,rfl,h.rs.snoc (.shift U),?_,⟨nodes++[dm x],?_,?_⟩,⟨fs,?_,?_,?_⟩,λy hy=>?_,dc U,λy hy=>?_⟩
 ·rw[ay,hq];exact hw.snoc c9 hg
 ·rw[htk];exact hf.leaf
 ·rw[ak,ak];exact aK hn
 ·have hd:DV (·∈row) ps (values++(row.drop ct).map dm) fs us.reverse:=hd
  rw[hdr] at hd
  rw[aP];exact hd
 ·have hr:fo.reverse=(sy++row.drop ct)::fs:=hr
  show fo.reverse=_
  rw[hr,hdr,aP];rfl
 ·rw[ak];exact bW hfl
 ·rcases aI.mp hy with hy|hy
  ·exact h.sym y hy
  ·cases aF.mp hy;exact wC hxt
 ·have hy:y∈row.take (ct+1):=hy
  rw[htk] at hy
  rcases aI.mp hy with hy|hy
  ·exact h.tok y hy
  ·cases aF.mp hy;exact hxt
theorem Inv.accept{U:LN}{q q':Nat}{st:LS}(hov:z.ov=false)(hq:states=U++[q])(c9:sts[q]?=some st)(hm:st.moves.lookup 0=some q')(hc:z.ct=row.length):
 z.sy=sL/\∃z',z'.sy=z.sy/\z'.ct=z.ct/\z'.ov=true/\z'.fo=z.fo/\z'.us=z.us/\Inv ps sts row states values (moves++[pP]) z':=by
 obtain ⟨sy,ct,fo,us,ov⟩:=z
 cases hov
 have hw:=h.way
 rw[hq] at hw
 have hs:=hw.accept c.gk c.au c9 hm
 have e:sy=sL:=yF h.sym (λx hx=>by cases aF.mp hx;exact oG (tU c.ok c.ne)) hs
 subst e
 have hc:ct=row.length:=hc
 subst hc
 obtain ⟨O,hf,hn⟩:=h.fo
 obtain ⟨fs,hd,hr,hfl⟩:=h.dv
 exact⟨rfl,⟨sL,row.length,fo,us,true⟩,rfl,rfl,rfl,rfl,rfl,h.rs.snoc .accept,h.way,⟨O,hf,by rw[ak];exact bW hn⟩,⟨fs,hd,hr,by rw[ak];exact bW hfl⟩,h.sym,h.ct,h.tok⟩
end
section
variable{ps:Pairs}{sts:List LS}{T:dD}(c:Ctx ps sts T){q:Nat}{st:LS}(c9:sts[q]?=some st)
include c c9
theorem Ctx.red{r:Nat}(h:r∈st.ZZ):1<=r/\r<=7:=by
 obtain ⟨O,x,U,_⟩:=(c.au.good q st c9).red r h
 have h1:=dc U
 have h2:=c.gk.rules
 lia
theorem Ctx.to{X q':Nat}(h:st.moves.lookup X=some q'):0<q'/\q'<2^20/\X≠2:=by
 obtain ⟨h1,⟨cc,_,r,t,x,U,_,hr⟩,p,hp,_⟩:=(c.au.good q st c9).to X q' h
 have h2:=dc hp
 have h3:=c.au.size
 refine⟨h1,aR h2 (ae h3 dQ),λe=>?_⟩
 subst e
 have hm:=ax hr
 by_cases O:r=0
 ·subst O
  obtain ⟨l,hl⟩:=c.gk.r0
  rw[U] at hl
  cases hl
  have hs:=c.gk.start.1
  have htc:=c.gk.tc
  rcases aM.mp hm with e|hm
  ·lia
  ·cases aF.mp hm
 ·have:=((c.gk.right r x O U).2 2 hm).1;exact absurd (by assumption) (b8 _)
theorem Ctx.bar{t:Nat}{v:Int}(h:EV st t v):v≠-1048576:=by
 rcases h with rfl|⟨r,hr,rfl⟩|⟨_,rfl,_⟩|⟨_,O,_,rfl⟩
 ·decide
 ·have:=c.red c9 hr;lia
 ·decide
 ·lia
theorem Jy{t d:Nat}{v:Int}(h:EV st t v)(hd:d=0∨d∈st.ZZ):
 j6 v d=0∨(∃R∈st.ZZ,j6 v d=-(R:Int))∨(t=0/\j6 v d=1048576/\∃q',st.moves.lookup 0=some q')∨(t≠0/\∃q':Nat,st.moves.lookup t=some q'/\j6 v d=(q':Int)):=by
 have ne:∀{v:Int},v≠0->j6 v d=v:=λh=>av h
 rcases h with rfl|⟨r,hr,rfl⟩|⟨O,rfl,U⟩|⟨O,q',U,rfl⟩
 ·rcases hd with rfl|hd
  ·exact .inl rfl
  ·exact .inr (.inl ⟨d,hd,al rfl⟩)
 ·have:=c.red c9 hr
  exact .inr (.inl ⟨r,hr,ne (by lia)⟩)
 ·exact .inr (.inr (.inl ⟨O,ne dQ,U⟩))
 ·have:=(c.to c9 U).1
  exact .inr (.inr (.inr ⟨O,q',U,ne (by lia)⟩))
theorem Ctx.Z1(h:eI T q≠0):eI T q∈st.ZZ:=by
 obtain ⟨row,gt,d,U,h2,h3,tr⟩:=c.at c9
 have e:eI T q=if d≠0/\∀v∈row,v=0 then d else 0:=by unfold eI;rw[U,h3]
 rw[e] at h⊢
 split at h
 ·rename_i O
  rw[al O]
  exact tr.df.resolve_left O.1
 ·exact absurd rfl h
end
def jt(row:LQ):LQ:=row++kj
section
variable{ps:Pairs}{row:LQ}(hr:h7 ps row)
theorem RG:gK ps "$end"=0:=by
 have h:("$end":Str)∈toks ps:=IH dQ
 unfold gK
 rw[al h,(qJ h).1]
 obtain ⟨r,hr⟩:=tJ (l:=iN) (xs:=(kG ps).filter λx=>decide (x∉cZ ps))
 show List.idxOf _ (gv _ _)=0
 rw[hr];rfl
include hr
theorem BC{i:Nat}{x:Str}(h:(jt row)[i]?=some x):(i<row.length/\row[i]?=some x/\(x∈toks ps->gK ps x=c4 ps x/\3<=gK ps x)/\(x∉toks ps->gK ps x=2))∨(i=row.length/\x="$end"/\gK ps x=0):=by
 unfold jt at h
 rcases Nat.lt_or_ge i row.length with q|q
 ·rw[bg q] at h
  refine .inl ⟨q,h,λO=>?_,λO=>av O⟩
  have e:gK ps x=c4 ps x:=al O
  have U:=(hr.mem x (ax h)).1
  have hn:∀x∈eK,x∉iN:=by decide
  exact⟨e,e▸GI O (hn x U)⟩
 ·rw[ba q] at h
  have hl:=dc h
  have:i=row.length:=by
   have:kj.length=1:=rfl
   lia
  subst this
  rw[Nat.sub_self] at h
  cases h
  exact .inr ⟨rfl,rfl,RG⟩
end
structure i8(ps:Pairs)(sts:List LS)(T:dD)(row:LQ)(s:d3)(z:dA):Prop where
inv:Inv ps sts row s.states s.values s.moves z
lo:gE T sts.length s.Z1
ml:s.moves.length<=60
ov:z.ov=false
an:s.answer="more"
vl:s.value=.none
fa:s.ZT=[]
def Fin(ps:Pairs)(sts:List LS)(T:dD)(row:LQ)(i:Nat)(x:Str)(s:d3)(z:dA):Prop:=
 Inv ps sts row s.states s.values s.moves z/\s.moves.length<=60/\gE T sts.length s.Z1/\
  ((z.ov=true/\s.answer="accepted"/\z.sy=sL/\z.ct=row.length/\s.values=[s.value]/\s.ZT=[])∨
   (z.ov=false/\s.answer="aborted"/\s.value=.none/\z.ct=i/\∃q O,s.states.getLast?=some q/\T.rows[q]?=some O/\O.length=(toks ps).length/\s.ZT=[km x q (kK ps O) i]))
structure xb(ps:Pairs)(sts:List LS)(T:dD)(row:LQ)(i:Nat)(x:Str)(s:d3)(z:dA)(s':d3)(z':dA):Prop where
ml:s.moves.length<=s'.moves.length
res:(i8 ps sts T row s' z'/\s'.moves.length=s.moves.length+1/\s'.count=s.count/\((s'.looked=s.looked/\z'.ct=z.ct)∨(s.looked=some x/\s'.looked=none/\z'.ct=i+1/\i<row.length)))∨(s.looked=some x/\Fin ps sts T row i x s' z')
inductive rC(ps:Pairs)(sts:List LS)(row:LQ)(s:d3)(z:dA)(i:Nat)(x:Str)(st:LS)(v:Int):Prop
|no:v=0->rC ps sts row s z i x st v
|red (R:Nat):R∈st.ZZ->1<=R->v=-(R:Int)->rC ps sts row s z i x st v
|acc (vv:D) (z':dA):v=1048576->s.values=[vv]->z'.sy=sL->z'.ct=row.length->z'.ov=true->Inv ps sts row s.states s.values (s.moves++[pP]) z'->rC ps sts row s z i x st v
|sh (q':Nat) (z':dA):v=(q':Int)->0<q'->q'<2^20->i<row.length->z'.ct=i+1->z'.ov=false->Inv ps sts row (s.states++[q']) (s.values++[dm x]) (s.moves++[qS q']) z'->rC ps sts row s z i x st v
structure Cx(ps:Pairs)(sts:List LS)(T:dD)(row:LQ)(s:d3)(z:dA)(i q:Nat)(x:Str)(st:LS)(row':LJ)(d:Nat)(v:Int):Prop where
g1:T.rows[q]?=some row'
g2:row'[gK ps x]?=some v
g3:T.defs[q]?=some d
bar:v≠-1048576
len:row'.length=(toks ps).length
YW:∀v∈row',v≠-1048576
n1:gK ps x≠1
c:rC ps sts row s z i x st (j6 v d)
theorem U9{ps:Pairs}{sts:List LS}{T:dD}(c:Ctx ps sts T){s:d3}{row:LQ}(hr:h7 ps row){z:dA}(hb:i8 ps sts T row s z){i q:Nat}{x:Str}{ps1:LN}{st:LS}(hq:s.states=ps1++[q])(c9:sts[q]?=some st)(hct:z.ct=i)(htk:(jt row)[i]?=some x):
 ∃O d v,Cx ps sts T row s z i q x st O d v:=by
 obtain ⟨O,gt,d,g1,g2,g3,tr⟩:=c.at c9
 have ht1:gK ps x≠1/\gK ps x<(toks ps).length:=by
  have h3:=BD (ps:=ps)
  rcases BC hr htk with⟨_,_,ha,hb⟩|⟨_,_,e⟩
  ·by_cases hx:x∈toks ps
   ·have:=ha hx;have:=(qJ hx).2;lia
   ·have:=hb hx;lia
  ·lia
 obtain ⟨v,hv⟩:∃v,O[gK ps x]?=some v:=⟨_,aC (by rw[tr.len];exact ht1.2)⟩
 have ev:=tr.ev _ v hv
 refine⟨O,d,v,g1,hv,g3,c.bar c9 ev,tr.len,λv hv=>?_,ht1.1,?_⟩
 ·obtain ⟨t,ht,e⟩:=bp.mp hv
  exact c.bar c9 (tr.ev t v (by rw[aC ht,e]))
 ·rcases Jy c c9 ev tr.df with e|⟨R,hR,e⟩|⟨t0,e,q',U⟩|⟨t0,q',U,e⟩
  ·exact .no e
  ·exact .red R hR (c.red c9 hR).1 e
  ·have hend:z.ct=row.length:=by
    rcases BC hr htk with⟨_,_,ha,hb⟩|⟨e,_,_⟩
    ·by_cases hx:x∈toks ps
     ·have:=ha hx;lia
     ·have:=hb hx;lia
    ·rw[hct,e]
   obtain ⟨hsy,z',a1,a2,a3,a4,a5,a6⟩:=hb.inv.accept c hb.ov hq c9 U hend
   have:=hb.inv.ZF.1
   rw[hsy] at this
   obtain ⟨vv,hvv⟩:=List.length_eq_one_iff.mp this
   exact .acc vv z' e hvv (a1.trans hsy) (a2.trans hend) a3 a6
  ·obtain ⟨b1,b2,b3⟩:=c.to c9 U
   obtain ⟨hil,hix,hxt,hxn⟩:i<row.length/\row[i]?=some x/\x∈toks ps/\gK ps x=c4 ps x:=by
    rcases BC hr htk with⟨b4,b5,ha,hb⟩|⟨_,_,e⟩
    ·by_cases hx:x∈toks ps
     ·exact⟨b4,b5,hx,(ha hx).1⟩
     ·exact absurd (hb hx) b3
    ·exact absurd e t0
   rw[hxn] at U
   obtain ⟨z',a1,a2,a3⟩:=hb.inv.shift hb.ov hq c9 (by rw[hct];exact hix) hxt U
   exact .sh q' z' e b1 b2 hil (by rw[a1,hct]) a2 a3
theorem Bp{α:Type}{l:List α}{x:α}(h:l.length<60):(l++[x]).length<=60:=by rw[ak];exact h
theorem HH{α:Type}{l:List α}{x:α}:l.length<=(l++[x]).length:=by rw[ak];exact aU _
section
variable{G:Gd}{k f n:Nat}{E:Ev}{M:LB}{K:KT}{X:XT}(P:dO G)(gx:Gx G){ps:Pairs}{sts:List LS}{T:dD}(c:Ctx ps sts T){s:d3}(h:CA (cO ps) T M s){row:LQ}(hr:h7 ps row){z:dA}(hb:i8 ps sts T row s z)
theorem Cl.ie{z z':Int}(e:z=z')(h:Cl G k f [.own 0,.sh (.int z')] M K X):Cl G k f [.own 0,.sh (.int z)] M K X:=e▸h
include P in
theorem Nr{t:cJ}(hk:2<=k)(q:K (.sh (.bool true)) M):Cl G k 580 [.own 0,t] M K X:=eL (P.g2 14) rfl hk (go q)
include P c h hb gx
theorem FF{R q:Nat}{U:LN}{st:LS}(hq:s.states=U++[q])(c9:sts[q]?=some st)(hR:R∈st.ZZ)(hk:8<=k)
 (qq:∀M' s' z',CA (cO ps) T M' s'->i8 ps sts T row s' z'->s'.moves.length=s.moves.length+1->s'.count=s.count->s'.looked=s.looked->z'.ct=z.ct->K (.sh .none) M') (xx:s.moves.length=60->X M):Cl G k 594 [.own 0,.sh (.int (R:Int))] M K X:=by
 refine(hb.inv.reduce c hb.ov hq c9 hR).casesOn λ{r p vals ks ps0 p0 s0 q' z'}e hp hv hkl ht h0 hg hct hov O=>?_
 rw[e]
 have hl:=hb.inv.ZF
 have hml:=hb.ml
 exact Ua P gx c h hp hv hkl ht h0 hg hml (by lia) (by lia) hk (λh6 M' js jv h'=>qq M' _ z' h' ⟨O,hb.lo,Bp h6,hov,hb.an,hb.vl,hb.fa⟩ (ak ..) rfl rfl hct) xx
include hr
theorem Vc{i q m:Nat}{x:Str}{ps1:LN}{st:LS}{row':LJ}{d:Nat}{v:Int}(hq:s.states=ps1++[q])(c9:sts[q]?=some st)(hgl:s.states.getLast?=some q)(O:s.looked=some x)(hcn:s.count=i+1)(hct:z.ct=i)(dd:Cx ps sts T row s z i q x st row' d v)
 (qq:∀M' s' z',CA (cO ps) T M' s'->xb ps sts T row i x s z s' z'->K (.sh .none) M') (xx:∀M' s',CA (cO ps) T M' s'->s'.moves.length=60->X M') {P':dX} (e1:∀E M,K (.sh .none) M->P'.next E M) (e2:∀E M,X M->P'.exc E M):
 Go G 10 m (C1.drop 3) [some (.own 0),some (.sh (.int q)),some (.sh (.int (eI T q:Nat))),none,none] M P':=
 have hml:=hb.ml
 have hl:=hb.inv.ZF
 have hs:s.states.length<=500:=by lia
 have hv:s.values.length<=500:=by lia
 go (oI (h.Z9 rfl rfl) (oI (h.a (h.lk O) rfl) (VZ P c h dd.n1 dQ (oI (h.a rfl rfl) (JA P dd.g1 dd.g2 dd.g3 dd.bar dQ (dd.c.casesOn
  (λe=>bF (by rw[e];decide) (bF (by rw[e];decide) (bF (by rw[e];decide) (oI (h.Z9 rfl rfl) (NB P c h O hgl dd.g1 dd.len dd.YW hcn hb.fa dQ λM' h'=>e1 _ _ (qq M' _ z h' ⟨ao _,.inr ⟨O,hb.inv,hml,hb.lo,.inr ⟨hb.ov,rfl,rfl,hct,q,row',hgl,dd.g1,dd.len,rfl⟩⟩⟩))))))
  (λR hR hR1 e=>bF (by lia) (bF (by lia) (bT (by lia) (oI (h.Z9 rfl rfl) (Nr P dQ (oI (h.Z9 rfl rfl) (Cl.ie (show(0:Int)-j6 v d=(R:Nat) by lia) (FF P gx c h hb hq c9 hR dQ (λM' s' z' a1 a2 a3 a4 a5 a6=>e1 _ _ (qq M' s' z' a1 ⟨aH (Nat.lt_of_lt_of_eq (bP _) a3.symm),.inl ⟨a2,a3,a4,.inl ⟨a5,a6⟩⟩⟩)) λU=>e2 _ _ (xx M _ h U)))))))))
  (λvv z' e hvv a1 a2 a3 a4=>bT e (oI (h.Z9 rfl rfl) (As P h gx (mv:=pP) hml dQ (λU M2 h2=>oI (h2.Z9 rfl rfl) (oI (h2.a rfl rfl) (oI (yo (v:=.sh vv) h2.va (by show(s.values.map cJ.sh).getLast?=_;rw[hvv];rfl)) (DY P h2 dQ λM' h'=>e1 _ _
   (qq M' _ z' h' ⟨HH,.inr ⟨O,a4,Bp U,hb.lo,.inl ⟨a3,rfl,a1,a2,hvv,hb.fa⟩⟩⟩))))) λU=>e2 _ _ (xx M _ h U))))
  (λq' z' e b1 b2 hil a1 a2 a3=>bF (by lia) (bT (by lia) (oI (h.Z9 rfl rfl) (Cl.ie e (UR P gx c h O hml hs hv dQ (λU M' h'=>e1 _ _ (qq M' _ z' h' ⟨HH,.inl ⟨⟨a3,hb.lo,Bp U,a2,hb.an,hb.vl,hb.fa⟩,ak ..,rfl,.inr ⟨O,rfl,a1,hil⟩⟩⟩)) λU=>e2 _ _ (xx M _ h U))))))))))))
theorem Va{i q:Nat}{x:Str}{ps1:LN}{st:LS}(hq:s.states=ps1++[q])(c9:sts[q]?=some st)(hp:(s.looked=none/\eI T q≠0)∨(s.looked=some x/\s.count=i+1/\z.ct=i/\(jt row)[i]?=some x))(hk:12<=k)
 (qq:∀M' s' z',CA (cO ps) T M' s'->xb ps sts T row i x s z s' z'->K (.sh .none) M') (xx:∀M' s',CA (cO ps) T M' s'->s'.moves.length=60->X M'):Cl G k 573 [.own 0] M K X:=
 have U:s.states.getLast?=some q:=by rw[hq];exact List.getLast?_concat ..
 eL (P.g1 10) rfl hk (gT 3 (oI (h.a rfl rfl) (oI (h.top U) (oI (h.Z9 rfl rfl) (Fm P c h hb.lo (dc c9) dQ λM1 es h1 hlo=>
  have O:i8 ps sts T row {s with Z1:=es} z:=⟨hb.inv,hlo,hb.ml,hb.ov,hb.an,hb.vl,hb.fa⟩
  bI (λhc=>have hne:eI T q≠0:=λe=>by rw[e] at hc;exact absurd hc dQ
   oI (h1.Z9 rfl rfl) (FF P gx c h1 O hq c9 (c.Z1 c9 hne) dQ (λM' s' z' a1 a2 a3 a4 a5 a6=>qq M' s' z' a1 ⟨aH (Nat.lt_of_lt_of_eq (bP _) a3.symm),.inl ⟨a2,a3,a4,.inl ⟨a5,a6⟩⟩⟩) (xx M1 _ h1)))
  λhc=>have hz:eI T q=0:=Nat.eq_zero_of_not_pos λq=>hc (aV.mpr q)
   have h4:=hp.resolve_left λq=>q.2 hz
   (U9 c hr O hq c9 h4.2.2.1 h4.2.2.2).elim λrow' d'=>d'.elim λd d'=>d'.elim λv dd=>
    Vc P gx c h1 hr O hq c9 U h4.1 h4.2.1 h4.2.2.1 dd (λM' s' z' a1 a2=>qq M' s' z' a1 ⟨a2.ml,a2.res⟩) xx (λ_ _ q=>q) λ_ _ q=>q)))))
end
def Ph(row:LQ)(i:Nat)(x:Str)(s:d3)(z:dA)(t:Bool):Prop:=
 (t=false/\s.looked=none/\s.count=i/\z.ct=i)∨(t=true/\s.looked=some x/\s.count=i+1/\z.ct=i)∨(t=true/\s.looked=none/\s.count=i+1/\z.ct=i+1/\i<row.length)
def nO(ps:Pairs)(sts:List LS)(T:dD)(row:LQ)(i:Nat)(x:Str)(s:d3)(z:dA):Prop:=
 (i8 ps sts T row s z/\s.looked=none/\s.count=i+1/\z.ct=i+1/\i<row.length)∨Fin ps sts T row i x s z
def pG(ps:Pairs)(sts:List LS)(T:dD)(row:LQ)(i:Nat)(x:Str)(s:d3)(z:dA)(t:Bool)(n:Nat):Prop:=
 (i8 ps sts T row s z/\Ph row i x s z t/\n=2*(60-s.moves.length)+1)∨(Fin ps sts T row i x s z/\n=2*(60-s.moves.length))
section
variable{ps:Pairs}{sts:List LS}{T:dD}{row:LQ}{i q:Nat}{x:Str}{s s' s'':d3}{z z'':dA}{t:Bool}{n:Nat}
theorem pG.YV(h:pG ps sts T row i x s z t n)(e:s.answer="more"):i8 ps sts T row s z/\Ph row i x s z t/\n=2*(60-s.moves.length)+1:=h.resolve_right λO=>by
 rcases O.1.2.2.2 with⟨_,q,_⟩|⟨_,q,_⟩<;>(rw[e] at q;revert q;decide)
theorem pG.fin(h:pG ps sts T row i x s z t n)(e:s.answer≠"more"):Fin ps sts T row i x s z:=(h.resolve_left λO=>e O.1.an).1
structure rn(ps:Pairs)(sts:List LS)(T:dD)(row:LQ)(i q:Nat)(x:Str)(s s':d3)(z:dA)(t:Bool):Prop where
b:i8 ps sts T row s' z
em:s'.moves=s.moves
es:s'.states=s.states
ph:Ph row i x s' z t
lo:(s'.looked=none/\eI T q≠0)∨s'.looked=some x
theorem rn.p(h:rn ps sts T row i q x s s' z t)(U:(jt row)[i]?=some x):(s'.looked=none/\eI T q≠0)∨(s'.looked=some x/\s'.count=i+1/\z.ct=i/\(jt row)[i]?=some x):=h.lo.imp id λO=>by
 rcases h.ph with⟨_,e,_⟩|⟨_,_,a,b⟩|⟨_,e,_⟩
 ·rw[O] at e;exact iP e
 ·exact⟨O,a,b,U⟩
 ·rw[O] at e;exact iP e
theorem Rg{a b:Nat}(e:b=a+1)(h:b<=60):2*(60-b)+1<2*(60-a)+1:=Nat.succ_lt_succ (Nat.mul_lt_mul_of_pos_left (Nat.sub_lt_sub_left (ae (bn e.symm) h) (Nat.lt_of_lt_of_eq (bP a) e.symm)) dQ)
theorem rn.step(h:rn ps sts T row i q x s s' z t)(hn:n=2*(60-s.moves.length)+1)(sp:xb ps sts T row i x s' z s'' z''):∃n',n'<n/\pG ps sts T row i x s'' z'' t n':=by
 have O:=sp.ml
 have em:=h.em
 rw[em] at O
 rcases sp.res with⟨U,hl',hc',hd'⟩|⟨_,hf⟩
 ·have hml':=U.ml
  rw[em] at hl'
  refine⟨_,hn▸Rg hl' hml',.inl ⟨U,?_,rfl⟩⟩
  rcases hd' with⟨e1,e2⟩|⟨e1,e2,e3,e4⟩
  ·unfold Ph
   rw[e1,e2,hc'];exact h.ph
  ·rcases h.ph with⟨_,e,_⟩|⟨et,_,a,b⟩|⟨_,e,_⟩
   ·rw[e1] at e;exact iP e
   ·exact .inr (.inr ⟨et,e2,hc'.trans a,e3,e4⟩)
   ·rw[e1] at e;exact iP e
 ·exact⟨_,hn▸Nat.lt_succ_of_le (bS 2 (Nat.sub_le_sub_left O 60)),.inr ⟨hf,rfl⟩⟩
theorem Ph.no(h:Ph row i x s z t)(e:(s.looked.isNone&&decide (eI T q=0))=false):(s.looked=none/\eI T q≠0)∨s.looked=some x:=by
 cases hl:s.looked with
 |none=>
  rw[hl] at e
  exact .inl ⟨rfl,of_decide_eq_false e⟩
 |some y=>
  rcases h with⟨_,q,_⟩|⟨_,q,_⟩|⟨_,q,_⟩
  ·rw[hl] at q;exact iP q
  ·rw[hl] at q;exact .inr q
  ·rw[hl] at q;exact iP q
theorem Ph.yes(h:Ph row i x s z t)(e:(s.looked.isNone&&decide (eI T q=0))=true):(t=false/\s.looked=none/\s.count=i/\z.ct=i)∨(t=true/\s.looked=none/\s.count=i+1/\z.ct=i+1/\i<row.length):=by
 rcases h with h|⟨_,q,_⟩|h
 ·exact .inl h
 ·rw[q] at e;exact cX e
 ·exact .inr h
end
section
variable{G:Gd}{k f n:Nat}{E:Ev}{M:LB}{K:KT}{X:XT}(P:dO G)(gx:Gx G){ps:Pairs}{sts:List LS}{T:dD}(c:Ctx ps sts T){s:d3}(h:CA (cO ps) T M s){row:LQ}(hr:h7 ps row){z:dA}(hb:i8 ps sts T row s z)
include P c h hr hb gx
theorem R0{i:Nat}{x:Str}(hlk:s.looked=none)(hcn:s.count=i)(hct:z.ct=i)(htk:(jt row)[i]?=some x)(hk:14<=k)
 (qq:∀M' s' z',CA (cO ps) T M' s'->nO ps sts T row i x s' z'->K (.sh (.str s'.answer)) M') (xx:∀M' s',CA (cO ps) T M' s'->s'.moves.length=60->X M'):Cl G k 517 [.own 0,.sh (gj x)] M K X:=
 eL (P.g2 9) rfl hk (go (qZ (λu:LB×d3×dA×Bool×Nat=>[some (.own 0),some (.sh (gj x)),some (.sh (.bool u.2.2.2.1))]) (λu=>u.1) (λu=>CA (cO ps) T u.1 u.2.1/\pG ps sts T row i x u.2.1 u.2.2.1 u.2.2.2.1 u.2.2.2.2) (λu=>u.2.2.2.2) (M,s,z,false,2*(60-s.moves.length)+1) ⟨h,.inl ⟨hb,.inl ⟨rfl,hlk,hcn,hct⟩,rfl⟩⟩
  λu P' hI L=>have h:=hI.1
   oI (h.a rfl rfl) (bI (λha=>have U:=hI.2.YV ha
    (U.1.inv.last c).elim λps1 l=>l.elim λq l=>l.elim λst l=>
    jn 1 (λw:LB×d3×Bool=>[some (.own 0),some (.sh (gj x)),some (.sh (.bool w.2.2))]) (λw=>w.1) (λw=>CA (cO ps) T w.1 w.2.1/\rn ps sts T row i q x u.2.1 w.2.1 u.2.2.1 w.2.2)
     (λN nx=>oI (h.Z9 rfl rfl) (Rj P c h l.2.2 U.1.lo (dc l.2.1) dQ λM1 es h1 hlo=>
      have O:i8 ps sts T row {u.2.1 with Z1:=es} u.2.2.1:=⟨U.1.inv,hlo,U.1.ml,U.1.ov,U.1.an,U.1.vl,U.1.fa⟩
      bB (λe=>bB (λht=>L.rt ((show({u.2.1 with Z1:=es}:d3).answer="more" from U.1.an)▸qq M1 _ u.2.2.1 h1 (.inl ⟨O,((U.2.1.yes e).resolve_left λq=>by rw[ht] at q;exact I4 q.1).2⟩)))
       λht=>have a:=((U.2.1.yes e).resolve_right λq=>by rw[ht] at q;exact cX q.1)
        oI (h1.Z9 rfl rfl) (QU P h1 dQ λM2 h2=>nx [] (M2,{u.2.1 with Z1:=es,looked:=some x,count:=u.2.1.count+1},true) ⟨h2,⟨O.inv,O.lo,O.ml,O.ov,O.an,O.vl,O.fa⟩,rfl,rfl,.inr (.inl ⟨rfl,rfl,aj (·+1) a.2.2.1,a.2.2.2⟩),.inr rfl⟩ rfl))
       λe=>nx [] (M1,{u.2.1 with Z1:=es},u.2.2.2.1) ⟨h1,O,rfl,rfl,U.2.1,U.2.1.no e⟩ rfl))
     λw hw=>go (oI (hw.1.Z9 rfl rfl) (Va P gx c hw.1 hr hw.2.b (hw.2.es.trans l.1) l.2.1 (hw.2.p htk) dQ (λM' s'' z'' h' sp=>(hw.2.step U.2.2 sp).elim λn' hn=>L.nx [] (M',s'',z'',w.2.2,n') ⟨hn.1,h',hn.2⟩ rfl) λM' s'' a b=>L.xc (E:=[some (.own 0),some (.sh (gj x)),some (.sh (.bool w.2.2))]) (xx M' s'' a b))))
    λha=>oI (h.a rfl rfl) (qq u.1 u.2.1 u.2.2.1 h (.inr (hI.2.fin ha))))))
end
noncomputable def Bj(E:Ev)(is:LN)(vs:LV):Ev:=(is.zip vs).foldl (λr p=>r.set p.1 (some p.2)) E
section
variable{G:Gd}{F:Fc}{A:Around}{σ₀:H}{s₀ s:Shared}{p:Pt}{ρ:List CV}{E:Ev}{E':Value->Shared->Prop}
theorem dB.YN(eo:pq F.env)(ol:dS σ₀ s₀.heap F.env.locals)(is:LN):∀{es:LX}{vals:LU}{xs:LV}{ρ:List CV}{E:Ev}{s:Shared},jj F.S.names is es=true->vals.length=is.length->
 (∀i∈is,∀n,F.S.names[i]?=some n->mD σ₀ s₀.heap F.env n)->Rel2 (cM p) xs (vals.map cv)->eC p E ρ->dB G F A σ₀ s₀ p.σ ρ s->
 wpAny (model G.prog G.w) A (assignInOrder ((assignEach es F.env).map (·.2)) vals) (uz G F A σ₀ s₀ p (Bj E is xs) s) E' s:=by
 induction is with
 |nil=>
  intro es vals xs ρ E s hk hl ow hr er x
  cases vals with
  |cons=>exact uh hl
  |nil=>cases es with
   |cons=>exact cX hk
   |nil=>exact aw ⟨x,λ_ _ p=>p,er⟩
 |cons i is ih=>
  intro es vals xs ρ E s hk hl ow hr er x
  cases vals with
  |nil=>exact nA hl
  |cons v vs=>cases es with
   |nil=>exact cX hk
   |cons e es=>cases xs with
    |nil=>exact jE ((show cv v::vs.map cv=[] from hr))
    |cons d xs=>
     obtain ⟨⟨n,q,rfl,hn⟩,hk'⟩:=qi hk
     show wpAny _ A (holding vs (assign (.Name n q) F.env v)>>=λ_=>assignInOrder ((assignEach es F.env).map (·.2)) vs) _ _ _
     refine ah (aY (wpAny_assign_Name (az (x.store (E:=E') (v:=v) eo hn (ow i (.head _) n hn) ol) (λ_ s₁ y=>y.casesOn λO U _ _=>?_) λ_ _ e=>e)))
     exact az (ih hk' (bO hl) (λj hj=>ow j (.tail _ hj)) (Rel2.tl hr) (er.set (v:=d) (Rel2.hd hr) i) O) (λ_ s₂ z=>z.casesOn λx₂ k₂ e₂=>⟨x₂,U.trans k₂,e₂⟩) λ_ _ e=>e
end
section
variable{G:Gd}{k n:Nat}{E:Ev}{M:LB}{P:dX}{r:List CS}{X:XT}
theorem SM{args:List CE}{K:KT}(h:fS kc G k args E M (λvs M₁=>K (.own M₁.length) (M₁++[.tup vs])) X):c1 kc G k (.tup args) E M K X:=by
 intro F p ρ m e at_ hk
 refine kE hk λm hk=>?_
 refine gL e (ny e) hk λes k pos U=>?_
 have U:=cN U
 show Tr G F ρ p.σ (standAt pos>>=λ_=>spliced (backTo pos (starEach es F.env))>>=λvs=>newTuple vs) _ _
 refine Tr.standAt (Tr.seq (o4 h _ _ at_ U.2) at_ λq g O r A s am f=>?_)
 have hz:=r.len▸aD U.1
 exact bJ (.mk (am.tup (ix _) (.size _) (qM _ _) (ae hz dQ) ⟨rfl,rfl⟩) (u9 (ob:=.tup _) O.st (am.rep.fresh (ao _)) rfl r.rel q)) (ae hz dQ)
inductive CC(M:LB)(l:Nat)(K:LV->Prop)(v:cJ):Prop
|mk {j vs}:v=.own j->M[j]?=some (.tup vs)->vs.length=l->K vs->CC M l K v
theorem TO{e:CE}{is:LN}(h:c1 kc G k e E M (λv M'=>CC M' is.length (λvs=>Run G k n r (Bj E is vs) M' P) v) (P.exc E)):Run G k n (.assign (.tup is) e::r) E M P:=i3 λF A σ₀ s₀ outer p₀ p ρ l st a hk=>by
 refine pS st hk λt v pos hk=>?_
 have hk:=cN hk
 have h2:=cN hk.1
 refine gL t (ny t) h2.1 λts tk tp hy=>?_
 have sw:swappedStores [.Tuple ts tk tp] v F.env=pure none:=IQ h2.2 hy
 have hy:=cN hy
 refine dw.sets a (vZ h2.2) sw rfl (h l v a.1 hk.2) λ{x M₁ q0 u}q O r s st=>q.casesOn λ{j vs}e1 h1 h2 qr=>?_
 subst e1
 refine(mf O.st h1 rfl r).casesOn λ{b cs}ha hb e rr=>?_
 have i:IsT s.heap b cs:=st.Z6.rep.at_ _ _ e
 revert rr
 refine i.casesOn λ{items}hT _ rr=>?_
 have hl:items.size=is.length:=(aZ.symm.trans (ag _).symm).trans (rr.len.trans h2)
 have q3:=Dw (env:=F.env) hy.1
 refine ah (wpAny_assign_Tuple (st.Z6.hd a.qh) hT (q3.1.trans hl.symm) q3.2 λh₁ hx=>?_)
 have kp:∀b o,s.heap.get? b=some o->h₁.get? b=some o:=λb o e=>hx b o (bz (bD e)) e
 have U:eD G.base q0.σ s.heap q0.σ h₁:=.same kp
 exact az (dB.YN a.en.E.ok a.en.loc is hy.1 ((aZ).trans hl) (λi _ x hx=>a.en.Zx x (ax hx)) rr O.er (st.step (s':={s with heap:=h₁}) ⟨st.Z6.rep.keeps kp,U,rfl,rfl⟩))
  (λ_ s' z=>z.casesOn λst' pk er=>aw ⟨st',(dI.keep U).trans pk,.next (P:=P.then G k n _) O.g O.st er qr⟩) λ_ _ e=>e
def HE(cs:List CE):Sl:=CE.rec_1 (motive_1:=λ_=>Sm) (motive_2:=λ_=>Sl) (motive_3:=λ_=>So) qQ A2 qQ AR AU Bb A5 A7 AW A3 AQ A8 A0 A1 Bg AY AZ Bd Bc AV A6 AS A4 Be Ba A9 Bf AX vx vw oY o3 cs
theorem HF:∀cs:List CE,w3 cs (HE cs)
|[]=>λh=>h
|c::cs=>λh=>((gc c).e h).imp λv M h=>HF cs h
theorem N2{args:List CE}{is:LN}(h:HE args G k E M (λvs M₁=>vs.length=is.length/\Go G k n r (Bj E is vs) (M₁++[.tup vs]) P) (P.exc E)):Go G k n (.assign (.tup is) (.tup args)::r) E M P:=
 ⟨TO (SM (fS.imp (λvs M₁ h=>.mk rfl (oF _ _) h.1 h.2.h) (HF args h)))⟩
end
def AO(z:dA):D:=.tup [cP z.sy,.int (z.ct:Int),.list (z.fo.map gz),cS z.us,.bool z.ov]
theorem E8:∀x∈eK,(PyData.str x).canLay0=true:=by decide+kernel
inductive uB(ps:Pairs)(row:LQ)(a:dA)(m:D)(b:dA):Prop
|sh (x:Str) (q:Nat):row[a.ct]?=some x->m=qS q->b=⟨a.sy++[x],a.ct+1,a.fo,a.us,false⟩->uB ps row a m b
|re (sy0:LQ) (r:Nat) (p:Str×LQ):a.sy=sy0++p.2->ps[r]?=some p->m=qN (r+1)->b=⟨sy0++[p.1],a.ct,a.fo++[sy0++[p.1]++row.drop a.ct],a.us++[r+1],false⟩->uB ps row a m b
|ac:a.sy=sL->a.ct=row.length->m=pP->b=⟨a.sy,a.ct,a.fo,a.us,true⟩->uB ps row a m b
structure mG(ps:Pairs)(row:LQ)(moves:LD)(z:dA)(i:Nat)(a:dA)(A B:LV):Prop where
A:A=a.fo.map λf=>cJ.sh (gz f)
B:B=cV a.us
rs:RS ps row a (moves.drop i) z
b1:a.sy.length<=i
b2:a.fo.length<=i+1
b3:a.us.length<=i
theorem mG.get{ps:Pairs}{row:LQ}{moves:LD}{z:dA}{i:Nat}{a:dA}{A B:LV}{m:D}(h:mG ps row moves z i a A B)(hm:moves[i]?=some m):a.ov=false/\∃b,uB ps row a m b/\RS ps row b (moves.drop (i+1)) z:=by
 have hi:=dc hm
 have O:moves.drop i=m::moves.drop (i+1):=by
  rw[List.drop_eq_getElem_cons hi]
  congr 1
  exact aq ((aC hi).symm.trans hm)
 have U:=h.rs
 rw[O] at U
 cases U with
 |cons hs U=>
  cases hs with
  |shift hx=>exact⟨rfl,_,.sh _ _ hx rfl rfl,U⟩
  |reduce hp=>exact⟨rfl,_,.re _ _ _ rfl hp rfl rfl,U⟩
  |accept=>exact⟨rfl,_,.ac rfl rfl rfl rfl,U⟩
theorem mG.fin{ps:Pairs}{row:LQ}{moves:LD}{z a:dA}{A B:LV}(h:mG ps row moves z moves.length a A B):a=z:=by
 have U:=h.rs
 rw[List.drop_length] at U
 cases U;rfl
section
variable{G:Gd}{k f n:Nat}{E:Ev}{M:LB}{K:KT}{X:XT}
theorem Al{x y:cJ}{l:LQ}{K:Bool->Prop}(hx:c7 M x=some (cP l))(hy:c7 M y=some (cP l))(h:∀c∈l,c∈eK)(q:K false):fq M K x y .NotEq:=(Lay.strs λc hc=>E8 c (h c hc)).elim λp O=>
 have U:SeqAt.shaped p=true:=by unfold SeqAt.shaped;rw[O.2.1,aG (ae O.2.2 dQ)];rfl
 .ne (.py hx hy O.1 O.1 U U) (by rw[SeqAt.eqv_refl p O.2.1];exact q)
theorem HA{z:Int}{i:Nat}{l r:LQ}(e:z=(i:Nat))(hl:l.length<=1000)(er:l.drop i=r)(q:K (.sh (cP r)) M):fU M K (.sh (cP l)) (some (.sh (.int z))) none:=by
 subst er
 exact Hz e hl q
theorem U2{z:Int}{i:Nat}{l r:LQ}(e:z=(i:Nat))(hl:l.length<=1000)(er:l.take i=r)(q:K (.sh (cP r)) M):fU M K (.sh (cP l)) none (some (.sh (.int z))):=by
 subst er
 exact Bn e hl q
theorem mG.step{ps:Pairs}{row:LQ}{moves:LD}{z a b:dA}{i:Nat}{A B A' O:LV}(h:mG ps row moves z i a A B)(hz:RS ps row b (moves.drop (i+1)) z)(U:b.sy.length<=a.sy.length+1)(eA:A'=b.fo.map λf=>cJ.sh (gz f))(eB:O=cV b.us)(e2:b.fo.length<=a.fo.length+1)(e3:b.us.length<=a.us.length+1):
 mG ps row moves z (i+1) b A' O:=⟨eA,eB,hz,ae U (aK h.b1),ae e2 (aK h.b2),ae e3 (aK h.b3)⟩
theorem Bq{α:Type}{l:List α}{x:α}:(l++[x]).length<=l.length+1:=by rw[ak];exact ao _
variable(P:dO G)
include P
theorem G6{ps:Pairs}{row:LQ}{moves:LD}{z:dA}(ok:e9 ps)(h6:ps.length<=6)(hrow:row.length<=6)(h:RS ps row ⟨[],0,[row],[],false⟩ moves z)(hml:moves.length<=60)(hk:2<=k)(q:K (.sh (AO z)) M):Cl G k 1183 [.sh (dP ps),.sh (.list moves),.sh (cP row)] M K X:=
 have hr:row.length<=1000:=ae hrow dQ
 dj (P.g3 13) (ds:=[dP ps,.list moves,cP row]) rfl (R:=λd=>d=AO z) hk (λd h=>h▸q)
  (N2 (.inl ⟨[],rfl,.tuple (ds:=row.map .str) rfl (by rw[ag];exact c3 hr) (.inr (.inr ⟨rfl,gT 1
   (dZ (l:=moves) (f:=λ_ x=>x) (λ_ (s:dA×LV×LV)=>[some (.sh (dP ps)),some (.sh (.list moves)),some (.sh (cP row)),some (.sh (cP s.1.sy)),some (.sh (.int (s.1.ct:Nat))),some (.own 0),some (.own 1),some (.sh (.bool s.1.ov)),none,none,none])
    (λ_ s=>[.list s.2.1,.list s.2.2,.tup [.sh (cP []),.sh (.int 0),.own 0,.own 1,.sh (.bool false)]]) (λi s=>mG ps row moves z i s.1 s.2.1 s.2.2) (⟨[],0,[row],[],false⟩,[.sh (gz row)],[]) ⟨rfl,rfl,h,ao _,ao _,ao _⟩ r3
    (λi m s P' hm O L=>by
     have g:=O.get hm
     obtain ⟨hov,b,hc,hz⟩:=g
     have hi:=aH (dc hm)
     have h1:s.1.sy.length<=60:=ae O.b1 (ae hi hml)
     exact go (bV hov (hc.casesOn (λx q hx em eb=>have i0:∀M,fX M (.sh m) (.sh (.int 0))=some (.sh (.str "shift")):=λM=>by rw[em];rfl
      oI (i0 _) ((jl hr (bF (Int.not_le.mpr (aV.mpr (dc hx))) (oI (dJ (ly hx)) (.inl ⟨_,rfl,jN (a:=s.1.sy) (b:=[x]) rfl rfl (ae (aK h1) dQ)
       (L.nx [8] (⟨s.1.sy++[x],s.1.ct+1,s.1.fo,s.1.us,s.1.ov⟩,s.2.1,s.2.2) (O.step (by rw[hov,←eb];exact hz) Bq O.A O.B (aU _) (aU _)) rfl)⟩))))))
      (λU r p es hp em eb=>have i0:∀M,fX M (.sh m) (.sh (.int 0))=some (.sh (.str "reduce")):=λM=>by rw[em];rfl
       have i1:∀M,fX M (.sh m) (.sh (.int 1))=some (.sh (.int (r+1:Nat))):=λM=>by rw[em];rfl
       have fA:=ok.right p (ax hp)
       have el:(s.1.sy.length:Int)-(p.2.length:Nat)=(U.length:Nat):=by rw[es,ak];lia
       have ls:s.1.sy.length<=1000:=ae h1 dQ
       have lp:p.2.length<=1000:=ae fA.1 dQ
       have l0:(U++[p.1]).length<=s.1.sy.length+1:=by rw[es,ak,ak];exact aK (aW _ _)
       have ld:(row.drop s.1.ct).length<=6:=by rw[cb];exact ae (Nat.sub_le _ _) hrow
       have l2:(U++[p.1]).length+(row.drop s.1.ct).length<=1000:=ae (bw (ae l0 (aK h1)) ld) dQ
       oI (i0 _) ((oI (i0 _) ((oI (i1 _) (oI (vj (Bx r) (lY (f:=pairD) hp)) (jl ls (jl lp (HA (i:=U.length) el ls (by rw[es];exact List.drop_left) (Al (l:=p.2) rfl rfl fA.2
        (jl ls (jl lp (U2 (i:=U.length) el ls (by rw[es];exact List.take_left) (.inl ⟨_,rfl,jN (a:=U) (b:=[p.1]) rfl rfl (by rw[←ak];exact ae l0 (ae (aK h1) dQ))
         (HA (i:=s.1.ct) rfl hr rfl (jN (a:=U++[p.1]) rfl rfl l2 (.tuple rfl (by rw[ag,ak];exact c3 l2) (app rfl (by rw[O.A,ag];exact c3 (ae O.b2 (ae (aK (ae hi hml)) dQ)))
          (oI (i1 _) (app rfl (by rw[O.B,nr];exact c3 (ae O.b3 (ae hi (ae hml dQ)))) (L.nx [8,9,10] (⟨U++[p.1],s.1.ct,s.1.fo++[U++[p.1]++row.drop s.1.ct],s.1.us++[r+1],s.1.ov⟩,_,_)
           (O.step (by rw[hov,←eb];exact hz) l0 (by rw[O.A];exact(ay (l₂:=[_])).symm) (by rw[O.B];exact BH _ _) Bq Bq) rfl)))))))⟩))))))))))))))
      λes ec em eb=>have i0:∀M,fX M (.sh m) (.sh (.int 0))=some (.sh (.str "accept")):=λM=>by rw[em];rfl
       oI (i0 _) ((oI (i0 _) ((u1 (d:=pP) (n:=1) (by rw[em];rfl) rfl (Lay.tup λd hd=>by cases aF.mp hd;exact Lay.str (by decide+kernel)) dQ (.inl ⟨_,rfl,Al (l:=sL) (by rw[es];rfl) rfl dQ
        (jl hr (bN (λq=>absurd (aj _ ec) q) λ_=>L.nx [8] (⟨s.1.sy,s.1.ct,s.1.fo,s.1.us,true⟩,s.2.1,s.2.2) (O.step (eb▸hz) (aU _) O.A O.B (aU _) (aU _)) rfl))⟩))))))))
    λs O=>gF (i:=5) (j:=0) (d:=.list (s.1.fo.map gz)) rfl rfl (by show(data _ s.2.1).map D.list=_;rw[O.A,ig];rfl) (gF (i:=6) (j:=1) (d:=cS s.1.us) rfl rfl (by show(data _ s.2.2).map D.list=_;rw[O.B];unfold cV;rw[ig];rfl) (go ⟨_,rfl,by rw[O.fin];rfl⟩)))⟩))⟩))
end
noncomputable def xG(v:cJ):D:=match v with
| .sh d=>d
| .own _=>.none
def Fj:Option Str->D
|none=>.none
|some x=>gj x
def iG(g:cL)(T:dD)(s:d3):D:=.inst 630 [39,40,41,42,1,43,44,45,46,3,38,30]
 [dF g T,la g,.int 60,.Z7 (s.Z1.map (·.1)) (s.Z1.map λx=>xG x.2),cS s.states,.list s.values,Fj s.looked,.int (s.count:Int),.str s.answer,s.value,.list s.ZT,.list s.moves]
theorem Wu(l:LN):(l.map λi:Nat=>D.int i).map cJ.sh=cV l:=by unfold cV;rw[aJ];rfl
theorem Ak{n:Nat}{x y:cJ}{d:D}{M:LB}{K:Bool->Prop}(U:c7 M x=some d)(hy:c7 M y=some d)(hl:Lay n d)(hn:n<=64)(q:K false):fq M K x y .NotEq:=hl.elim λp h=>
 have O:SeqAt.shaped p=true:=by unfold SeqAt.shaped;rw[h.2.1,aG (ae h.2.2 hn)];rfl
 .ne (.py U hy h.1 h.1 O O) (by rw[SeqAt.eqv_refl p h.2.1];exact q)
theorem Lay.bool{n:Nat}(b:Bool):Lay n (.bool b):=⟨.bool b,rfl,rfl,aL _⟩
theorem iz{o:Option D}{r:List (Option D)}{d:D}{ds:LD}(h:o=some d)(q:i5 r=some ds):i5 (o::r)=some (d::ds):=by
 show o.bind (λd=>(i5 r).map λds=>d::ds)=_
 rw[h,q];rfl
theorem k7{M:LB}{n:Nat}{d:D}:fF M n (.sh d)=some d:=by cases n<;>rfl
theorem Bi{M:LB}{n:Nat}:∀{ds:LD},i5 ((ds.map cJ.sh).map (fF M n))=some ds
|[]=>rfl
|d::ds=>iz k7 Bi
theorem uX{M:LB}{n j:Nat}{ds:LD}(h:M[j]?=some (.list (ds.map .sh))):fF M (n+1) (.own j)=some (.list ds):=by
 show(M[j]?).bind _=_
 rw[h]
 show(i5 ((ds.map cJ.sh).map (fF M n))).map (D.con .list)=_
 rw[Bi];rfl
theorem M5{M:LB}{n j m:Nat}{T:dD}{es:List (Int×cJ)}(hl:gE T m es)(h:M[j]?=some (.Z7 es)):fF M (n+1) (.own j)=some (.Z7 (es.map (·.1)) (es.map λx=>xG x.2)):=by
 have e:es.map (·.2)=(es.map λx=>xG x.2).map cJ.sh:=by
  rw[aJ]
  refine cx λx U=>?_
  obtain ⟨q,_,rfl⟩:=hl.2 x U
  rfl
 show(M[j]?).bind _=_
 rw[h]
 show(i5 ((es.map (·.2)).map (fF M n))).map (D.con (.Z7 (es.map (·.1))))=_
 rw[e,Bi];rfl
theorem CA.deep{g:cL}{T:dD}{M:LB}{s:d3}{m:Nat}(h:CA g T M s)(hl:gE T m s.Z1):fF M 2 (.own 0)=some (iG g T s):=by
 have c9:M[s.js]?=some (.list ((s.states.map λi:Nat=>D.int i).map .sh)):=by rw[Wu];exact h.st
 have hk:Mine.Internal.fF M 1 (yC s.looked)=some (Fj s.looked):=by cases s.looked<;>rfl
 show(M[0]?).bind _=_
 rw[h.core]
 show(i5 [Mine.Internal.fF M 1 (.sh (dF g T)),Mine.Internal.fF M 1 (.sh (la g)),Mine.Internal.fF M 1 (.sh (.int 60)),Mine.Internal.fF M 1 (.own 1),Mine.Internal.fF M 1 (.own s.js),Mine.Internal.fF M 1 (.own s.jv),Mine.Internal.fF M 1 (yC s.looked),Mine.Internal.fF M 1 (.sh (.int (s.count:Int))),Mine.Internal.fF M 1 (.sh (.str s.answer)),Mine.Internal.fF M 1 (.sh s.value),Mine.Internal.fF M 1 (.own 4),Mine.Internal.fF M 1 (.own 5)]).map (D.con (.inst 630 [39,40,41,42,1,43,44,45,46,3,38,30]))=_
 rw[iz k7 (iz k7 (iz k7 (iz (M5 hl h.Z1) (iz (uX c9) (iz (uX h.va) (iz hk (iz k7 (iz k7 (iz k7 (iz (uX h.fa) (iz (uX h.mo) (show i5 []=some [] from rfl))))))))))))]
 rfl
theorem Wy.at{sts:List LS}{ps xs:LN}{p:Nat}(O:Wy sts ps p xs):(ps++[p])[0]?=some 0/\∀i X,xs[i]?=some X->∃U q s,(ps++[p])[i]?=some U/\(ps++[p])[i+1]?=some q/\sts[U]?=some s/\s.moves.lookup X=some q:=by
 induction O with
 |nil=>exact⟨rfl,λi X h=>cR h⟩
 |@snoc ps xs p X q s O hs hm ih=>
  refine⟨lO ih.1,λi Y hY=>(m9 hY).elim (λh=>(ih.2 i Y h).imp λU h=>h.imp λq' h=>h.imp λs' h=>⟨lO h.1,lO h.2.1,h.2.2⟩) λh=>⟨p,q,s,?_,?_,hs,h.2▸hm⟩⟩
  ·rw[h.1,←O.len];exact lO (tW _ _)
  ·have:=tW (ps++[p]) q
   rwa [ak,O.len,show xs.length+[p].length=i+1 from aj (·+1) h.1.symm] at this
theorem gm.at{sts:List LS}{pp xs:LN}(O:gm sts pp xs):pp[0]?=some 0/\∀i X,xs[i]?=some X->∃p q s,pp[i]?=some p/\pp[i+1]?=some q/\sts[p]?=some s/\s.moves.lookup X=some q:=O.casesOn λe w=>e▸w.at
section
variable{G:Gd}{k f n:Nat}{E:Ev}{M:LB}{K:KT}{X:XT}(P:dO G){ps:Pairs}{sts:List LS}{T:dD}(c:Ctx ps sts T){row:LQ}(hr:h7 ps row){s:d3}{z:dA}(hi:Inv ps sts row s.states s.values s.moves z)
include P c hr hi
theorem Rd(hm:s.moves.length<=60)(O:z.ov=decide (s.answer="accepted"))(hk:6<=k)(q:K (.sh (.bool true)) M):Cl G k 1190 [.sh (iG (cO ps) T s),.sh (fy (cO ps) sts),.sh (dP ps),.sh (cP row)] M K X:=
 have hl:=hi.ZF
 have w:=hi.way.at
 dj (P.g4 7) (ds:=[iG (cO ps) T s,fy (cO ps) sts,dP ps,cP row]) rfl (R:=λd=>d=.bool true) hk (λd h=>h▸q)
  (gT 4 (G6 P c.ok c.le hr.len hi.rs hm dQ (Ak (n:=0) (d:=.bool z.ov) rfl (by rw[O];rfl) (.bool _) dQ (.inr
   (dZ (l:=z.sy) (λ_ (_:LN)=>[some (.sh (iG (cO ps) T s)),some (.sh (fy (cO ps) sts)),some (.sh (dP ps)),some (.sh (cP row)),some (.sh (AO z)),some (.own 0),none]) (λ_ l=>[.list (cV l)]) (λi l=>l=s.states.take (i+1)) [0] (by rw[take_snoc w.1];rfl) dG
    (λi x l P' U e L=>(w.2 i (c4 ps x) (by rw[aA,U];rfl)).elim λp a=>a.elim λq' a=>a.elim λst a=>
     go (oI (yo rfl (E5 (q:=p) (by rw[e,take_snoc a.1];exact List.getLast?_concat ..))) (Eo P c.gk (hi.sym x (ax U)) dQ (JI P a.2.2.1 a.2.2.2 dQ (kY rfl (by
      rw[e,bb]
      exact ae (Nat.min_le_right _ _) (by lia)) (L.nx [6] (l++[q']) (by rw[e,take_snoc a.2.1]) rfl))))))
    λl e=>go (u1 (n:=1) (d:=cS s.states) rfl (by rw[e,cz (by lia)];exact mN rfl) Lay.nats dQ ⟨_,rfl,rfl⟩))))))
omit P c hr hi in
theorem Fg{s:d3}{a b d:D}{O:Nat}(h:CA (cO ps) T M s)(hl:gE T O s.Z1)(hf:Cl G k f [.sh (iG (cO ps) T s),.sh a,.sh b,.sh d] [] (λv M'=>∃e,c7 M' v=some e/\AJ e=true/\e=.bool true) λ_=>False)(q:K (.sh (.bool true)) M):Cl G k f [.own 0,.sh a,.sh b,.sh d] M K X:=
 ⟨Fn.lend (n:=2) (ds:=[iG (cO ps) T s,a,b,d]) (R:=λe=>e=.bool true) hf.h (iz (h.deep hl) (iz k7 (iz k7 (iz k7 (show i5 []=some [] from rfl))))) λe he=>he▸q⟩
end
def rG:LQ:=iN++eK++uH
theorem E9:∀x∈rG,(PyData.str x).canLay0=true:=by decide+kernel
theorem Rt{ps:Pairs}(ok:e9 ps){x:Str}(h:x∈de ps):x∈rG:=by
 unfold rG
 rcases aI.mp h with h|h
 ·rcases aI.mp h with h|h
  ·rcases vG ok h with h|h
   ·exact bM _ (bM _ h)
   ·exact bM _ (b6 _ h.1)
  ·exact b6 _ h
 ·have:∀x∈gR,x∈eK:=by decide
  exact bM _ (b6 _ (this x (mT ok h)))
def FP(ps:Pairs)(row:LQ)(a:dA):Prop:=(∀x∈a.sy,x∈eK/\(x∈de ps∨x∈row))/\∀f∈a.fo,f.length<=100/\∀x∈f,x∈eK/\(x∈de ps∨x∈row)
theorem RS.YT{ps:Pairs}{row:LQ}(ok:e9 ps)(hr:h7 ps row){a z:dA}{l:LD}(h:RS ps row a l z):a.sy.length+l.length<=70->FP ps row a->FP ps row z:=by
 induction h with
 |nil=>exactλ_ h=>h
 |@cons a m b l z hs _ ih=>
  intro hl U
  rw[bU] at hl
  cases hs with
  |@shift sy c fo us x q hx=>
   refine ih (by show(sy++[x]).length+_<=_;have:sy.length+(l.length+1)<=70:=hl;rw[ak,List.length_singleton];lia) ⟨λy hy=>?_,U.2⟩
   rcases aI.mp hy with hy|hy
   ·exact U.1 y hy
   ·cases aF.mp hy
    have:=ax hx
    exact⟨(hr.mem _ this).1,.inr this⟩
  |@reduce O c fo us r p hp=>
   have hl:(O++p.2).length+(l.length+1)<=70:=hl
   rw[ak] at hl
   have h3:∀x∈gR,x∈eK:=by decide
   have hpm:=ax hp
   have hsy:∀y∈O++[p.1],y∈eK/\(y∈de ps∨y∈row):=λy hy=>by
    rcases aI.mp hy with hy|hy
    ·exact U.1 y (bM _ hy)
    ·cases aF.mp hy
     exact⟨h3 _ (ok.left p hpm),.inl (oG (jo.mpr (jQ.mpr ⟨p,hpm,rfl⟩)))⟩
   have hrl:=hr.len
   refine ih (by show(O++[p.1]).length+_<=_;rw[ak,List.length_singleton];lia) ⟨hsy,λf hf'=>?_⟩
   rcases aI.mp hf' with hf'|hf'
   ·exact U.2 f hf'
   ·cases aF.mp hf'
    refine⟨by rw[ak,ak,List.length_singleton,cb];lia,λy hy=>?_⟩
    rcases aI.mp hy with hy|hy
    ·exact hsy y hy
    ·have:=List.mem_of_mem_drop hy
     exact⟨(hr.mem _ this).1,.inr this⟩
  |accept=>exact ih (by have:=hl;show sL.length+_<=70;have h:sL.length+(l.length+1)<=70:=hl;exact aH (by assumption)) U
def ud(ps:Pairs)(t:Nat):Str:=((de ps)[t]?).getD ""
theorem OE{j:Nat}{M:LB}{K:Bool->Prop}(a:j≠1->j≠2->K true)(b:j=1∨j=2->K false):fq M K (.sh (.int (j:Int))) (.sh (.tup [.int 1,.int 2])) .NotIn:=.Zz (b:=([1,2]:LJ).any (·==(j:Int))) (.Z0 (.inr rfl) rfl) (by
 by_cases U:j=1
 ·subst U;exact b (.inl rfl)
 ·by_cases O:j=2
  ·subst O;exact b (.inr rfl)
  ·have e:([1,2]:LJ).any (·==(j:Int))=false:=by
    show(((1:Int)==(j:Int))||(((2:Int)==(j:Int))||false))=false
    rw[ca.mpr λq:(1:Int)=(j:Int)=>U (by lia),ca.mpr λq:(2:Int)=(j:Int)=>O (by lia)];rfl
   rw[e];exact a U O)
theorem V5{row:LQ}{i:Nat}{x:Str}(h:(jt row)[i]?=some x):(i<row.length->row[i]?=some x)/\(¬i<row.length->x="$end"):=by
 unfold jt at h
 refine⟨λq=>by rwa [bg q] at h,λq=>?_⟩
 have q:=Nat.not_lt.mp q
 rw[ba q] at h
 have O:=dc h
 have h2:kj.length=1:=rfl
 have U:i-row.length=0:=by lia
 rw[U] at h
 cases h;rfl
theorem Qx{ps:Pairs}(ok:e9 ps){row:LQ}(hr:h7 ps row){i q:Nat}{x:Str}{O:LJ}(h:(jt row)[i]?=some x):Lay 2 (.tup [.str x,.int (q:Int),cP (kK ps O)]):=Lay.tup λd hd=>by
 have hx:x∈rG:=by
  have:∀x∈eK++kj,x∈rG:=by decide
  refine this x ?_
  rcases aI.mp (ax h) with hm|hm
  ·exact bM _ (hr.mem x hm).1
  ·exact b6 _ hm
 rcases aM.mp hd with rfl|hd
 ·exact Lay.str (E9 x hx)
 ·rcases aM.mp hd with rfl|hd
  ·exact Lay.int _
  ·cases aF.mp hd
   refine Lay.strs λy hy=>?_
   obtain ⟨t,ht,rfl⟩:=aB.mp hy
   have htl:=ch.mp (aT.mp ht).1
   have U:t<(de ps).length:=by unfold de;rw[ak,ak];lia
   rw[aC U]
   exact E9 _ (Rt ok (List.getElem_mem U))
section
variable{G:Gd}{k f n:Nat}{E:Ev}{M:LB}{K:KT}{X:XT}(P:dO G){ps:Pairs}{sts:List LS}{T:dD}(c:Ctx ps sts T){row:LQ}(hr:h7 ps row){s:d3}
include P
theorem R3(hm:s.moves.length<=60)(hf:s.ZT.length<=60)(hk:4<=k)(q:K (.sh (lu (decide (s.answer="accepted")) s.value s.ZT s.moves)) M):Cl G k 496 [.sh (iG (cO ps) T s)] M K X:=
 dj (P.g1 7) (ds:=[iG (cO ps) T s]) rfl (R:=λd=>d=lu (decide (s.answer="accepted")) s.value s.ZT s.moves) hk (λd h=>h▸q)
  (go (sk (ae hf dQ) (sk (ae hm dQ) (R4 P dQ ⟨_,rfl,rfl⟩))))
include c hr
theorem Uc{i q:Nat}{x:Str}{O:LJ}{mo:LD}(U:(jt row)[i]?=some x)(hq:s.states.getLast?=some q)(hrow:T.rows[q]?=some O)(hl:O.length=(toks ps).length)(hk:4<=k)(qq:K (.sh (.bool true)) M):
 Cl G k 1197 [.sh (lu false .none [km x q (kK ps O) i] mo),.sh (iG (cO ps) T s),.sh (dF (cO ps) T),.sh (.int (i:Int)),.sh (cP row)] M K X:=
 have htc:(toks ps).length<=8:=c.gk.ZN
 have hrl:row.length<=1000:=ae hr.len dQ
 have ta:=V5 U
 have hwl:∀{j},j<=(toks ps).length->((ij O j).map (ud ps)).length<=1000:=λh=>by rw[ag];exact ae (br ..) (by rw[aQ];exact ae h (ae htc dQ))
 dj (P.g5 3) (ds:=[lu false .none [km x q (kK ps O) i] mo,iG (cO ps) T s,dF (cO ps) T,.int (i:Int),cP row]) rfl (R:=λd=>d=.bool true) hk (λd h=>h▸qq)
  (jn 2 (λ_:Unit=>[some (.sh (lu false .none [km x q (kK ps O) i] mo)),some (.sh (iG (cO ps) T s)),some (.sh (dF (cO ps) T)),some (.sh (.int (i:Int))),some (.sh (cP row)),some (.sh (.str x)),none,none,none,none]) (λ_=>[]) (λ_=>True)
   (λN nx=>qm (ds:=[km x q (kK ps O) i]) (show 1<=mx by decide) (jl hrl (bI (λh=>oI (dJ (ly (ta.1 (aV.mp h)))) (nx [] () trivial rfl)) λh=>nx [] () trivial (by rw[ta.2 λq=>h (aV.mpr q)];rfl))))
   λ_ _=>gT 3 (oI (ER hq) (.inr (oI (kB (c3 (ae htc dQ)))
    (kx (λ_ (_:LQ)=>[some (.sh (lu false .none [km x q (kK ps O) i] mo)),some (.sh (iG (cO ps) T s)),some (.sh (dF (cO ps) T)),some (.sh (.int (i:Int))),some (.sh (cP row)),some (.sh (.str x)),some (.sh (.int (q:Nat))),some (.own 0),none,none]) (λ_ l=>[.list (dy l)]) (λj l=>l=(ij O j).map (ud ps)) [] rfl
     (λj l P' hj e L=>have hj:j<(toks ps).length:=hj
      have hv:=xi (Nat.lt_of_lt_of_eq hj hl.symm)
      have hjn:j<(de ps).length:=by unfold de;rw[ak,ak];lia
      have no:¬(j≠1/\j≠2/\O.getD j 0≠0)->l=(ij O (j+1)).map (ud ps):=λh=>by rw[DB h,e]
      go (oI (dJ (lY (f:=e6) hrow)) (oI (dJ (qg hv)) (bN (λh3=>OE (λh1 h2=>oI (dJ (ly (x:=ud ps j) (by show(de ps)[j]?=some (((de ps)[j]?).getD "");rw[aC hjn];rfl))) (pR rfl (e▸hwl (aH hj)) (L.nx [8,9] (l++[ud ps j]) (by
       rw[e,DC ⟨h1,h2,λq=>h3 ((uK hv).symm.trans q)⟩,ay];rfl) rfl))) λh=>L.nx [8,9] l (no λq=>h.elim q.1 q.2.1) rfl)
       λh3=>L.nx [8,9] l (no λh=>h.2.2 ((uK hv).trans h3)) rfl))))
     λl e=>gF (i:=7) (j:=0) (d:=cP (kK ps O)) rfl rfl (by rw[e];show(data _ (dy _)).map D.list=_;rw[uW];rfl)
      (go (Wa P (hwl (ao _)) dQ (u1 rfl rfl (Qx c.ok hr U) dQ ⟨_,rfl,aj D.bool (aG rfl)⟩))))))))
end
structure B8(ps:Pairs)(row:LQ)(s:d3)(z:dA)(nodes:LD)(fs:List LQ):Prop where
fo:∃ns,Fo [s.value] ns nodes row z.us
dv:DV (·∈row) ps [s.value] fs z.us.reverse
t:gG s.value
nm:dn s.value="s"
rev:z.fo.reverse=[dn s.value]::fs
toks:∀y∈row,y∈toks ps
mem:∀f∈[dn s.value]::fs,f.length<=100/\∀x∈f,x∈eK/\x∈de ps
Zf:∀f∈fs,f.length<=500
Zu:fs.length<=500
nl:nodes.length<=1000
theorem Ni{ps:Pairs}{sts:List LS}{row:LQ}(ok:e9 ps)(hr:h7 ps row){s:d3}{z:dA}(hi:Inv ps sts row s.states s.values s.moves z)(hml:s.moves.length<=60)(hsy:z.sy=sL)(hct:z.ct=row.length)(hv:s.values=[s.value]):∃U fs,B8 ps row s z U fs:=by
 have hrl:=hr.len
 obtain ⟨U,hfo,hnl⟩:=hi.fo
 obtain ⟨fs,hdv,O,hfsl⟩:=hi.dv
 rw[hv] at hfo hdv
 rw[hct,List.drop_length,aS] at O
 rw[hct,List.drop_length] at hdv
 rw[hct,List.take_length] at hfo
 have hdv:DV (·∈row) ps [s.value] fs z.us.reverse:=hdv
 have hnm:dn s.value="s":=by
  have:=hfo.ZA.2
  rw[hsy] at this
  exact(bZ this).1
 have O:z.fo.reverse=[dn s.value]::fs:=by rw[O,hsy,hnm];rfl
 have hFP:=hi.rs.YT ok hr (by show 0+_<=70;exact ae (bq (by assumption) _) dQ) ⟨λx hx=>(dh hx),λf hf=>by
  cases aF.mp hf
  exact⟨ae hrl dQ,λx hx=>⟨(hr.mem x hx).1,.inr hx⟩⟩⟩
 have htoks:∀y∈row,y∈toks ps:=λy hy=>hi.tok y (by rw[hct,List.take_length];exact hy)
 have hmemf:∀f∈[dn s.value]::fs,f.length<=100/\∀x∈f,x∈eK/\x∈de ps:=λf hf=>by
  rw[←O] at hf
  have:=hFP.2 f (List.mem_reverse.mp hf)
  exact⟨this.1,λx hx=>⟨(this.2 x hx).1,(this.2 x hx).2.elim id λh=>wC (htoks x h)⟩⟩
 exact⟨U,fs,⟨_,hfo⟩,hdv,hfo.ZA.1 s.value (.head _),hnm,O,htoks,hmemf,λf hf=>ae (hmemf f (.tail _ hf)).1 dQ,by exact ae (by assumption) (ae (by assumption) dQ),by exact ae (by assumption) (ae (by assumption) dQ)⟩
theorem gG.Z9{d:D}{M:LB}(h:gG d):jR M (.sh d) 32=some (.fn 1020)/\jR M (.sh d) 115=some (.fn 1015):=by cases h<;>exact⟨rfl,rfl⟩
section
variable{G:Gd}{k f n:Nat}{E:Ev}{M:LB}{K:KT}{X:XT}(P:dO G){ps:Pairs}{sts:List LS}{T:dD}(c:Ctx ps sts T){row:LQ}(hr:h7 ps row){s:d3}{z:dA}
theorem G8{ds r:LD}(hl:ds.length<=1000)(e:ds.reverse=r)(q:K (.sh (.list r)) M):pH M K (.sh (.list ds)):=by
 subst e
 exact .mk rfl (c3 hl) (.inl q)
include P c hr
theorem Ud{i q m:Nat}{x:Str}{O:LJ}{mo:LD}{o:D}(eo:o=lu false .none [km x q (kK ps O) i] mo)(em:m=i)(htk:(jt row)[i]?=some x)(hq:s.states.getLast?=some q)(U:T.rows[q]?=some O)(hl:O.length=(toks ps).length)(hk:4<=k)(qq:K (.sh (.bool true)) M):
 Cl G k 1197 [.sh o,.sh (iG (cO ps) T s),.sh (dF (cO ps) T),.sh (.int (m:Int)),.sh (cP row)] M K X:=by
 subst eo em
 exact Uc P c hr htk hq U hl hk qq
theorem Nj{nodes:LD}{fs:List LQ}(a:B8 ps row s z nodes fs)(gQ:(decide (s.answer="accepted")&&s.ZT.isEmpty)=true):
 Go G 4 0 (C4.drop 3) [some (.sh (iG (cO ps) T s)),some (.sh (dF (cO ps) T)),some (.sh (dP ps)),some (.sh (cP row)),some (.sh (cP z.sy)),some (.sh (.int (z.ct:Nat))),some (.sh (.list (z.fo.map gz))),some (.sh (cS z.us)),some (.sh (.bool z.ov)),some (.sh (lu (decide (s.answer="accepted")) s.value s.ZT s.moves)),none,none] [] (wq λd=>d=.bool true):=
 have hrl:row.length<=1000:=ae hr.len dQ
 have O:Lay 2 (.list (([dn s.value]::fs).map gz)):=Lay.list λd hd=>(aB.mp hd).elim λf hf=>hf.2▸Lay.YD λy hy=>E8 y ((a.mem f hf.1).2 y hy).1
 have hfl:(z.fo.map gz).length<=1000:=by rw[ag,←List.length_reverse,a.rev,bU];exact ae (aK a.Zu) dQ
 have U:([dn s.value]::fs).length<=1000:=ae (aK a.Zu) dQ
 have hrev:(z.fo.map gz).reverse=([dn s.value]::fs).map gz:=by rw[←List.map_reverse,a.rev]
 a.fo.elim λns hfo=>gT 3 (OQ P dQ (bV gQ (oI a.t.Z9.1 (Ub P hfo a.nl dQ (Ak (d:=cS z.us) rfl rfl Lay.nats dQ (oI a.t.Z9.2 (QB P hfo a.nl dQ (uQ (l:=row) (λy=>y) dG hrl (λi y R hy h=>h)
  (Al (l:=row) (by rw[List.map_id'];rfl) rfl (λy hy=>(hr.mem y hy).1) (M9 P a.t a.dv a.Zu a.Zf dQ (sk (by rw[ag];exact U) (G8 hfl hrev (Ak rfl rfl O dQ
   (go (by
    have rd:=λ(K:KT)(X:XT)(qq:K (.sh (.list (([dn s.value]::fs).map (qU ps)))) [])=>Um (G:=G) (k:=4) (X:=X) P c.ok c.ne c.le a.nm (a.dv.mono a.toks) a.Zu a.Zf dQ qq
    rw[List.reverse_reverse] at rd
    exact rd _ _ (lP (l:=[dn s.value]::fs) (g:=gz) dG U (λj f R hf h=>have hm:=a.mem f (ax hf)
     have hl3:f.length<=1000:=ae hm.1 dQ
     lP (l:=f) (g:=λy=>.str y) vD hl3 (λi y R hy h=>oI (dJ (ly (we (hm.2 y (ax hy)).2))) h) (.tuple rfl (by rw[ag];exact c3 hl3) h))
     (G8 hfl hrev (u1 rfl rfl O dQ ⟨_,rfl,rfl⟩))))))))))))))))))
theorem Nk{i:Nat}{x:Str}(U:(jt row)[i]?=some x)(hf:Fin ps sts T row i x s z)(hk:6<=k)(q:K (.sh (.bool true)) M):Cl G k 1202 [.sh (iG (cO ps) T s),.sh (dF (cO ps) T),.sh (dP ps),.sh (cP row)] M K X:=
 have O:s.ZT.length<=60:=by
  rcases hf.2.2.2 with⟨_,_,_,_,_,e⟩|⟨_,_,_,_,_,_,_,_,_,e⟩
  ·rw[e];exact aL _
  ·rw[e];exact(show 1<=60 by decide)
 dj (P.g4 8) (ds:=[iG (cO ps) T s,dF (cO ps) T,dP ps,cP row]) rfl (R:=λd=>d=.bool true) hk (λd h=>h▸q)
  (gT 3 (G6 P c.ok c.le hr.len hf.1.rs hf.2.1 dQ (R3 P hf.2.1 O dQ (hf.2.2.2.elim
   (λh=>bV h.1 ((Ni c.ok hr hf.1 hf.2.1 h.2.2.1 h.2.2.2.1 h.2.2.2.2.1).elim λnodes e=>e.elim λfs e=>Nj P c hr e (by rw[h.2.2.2.2.2,h.2.1];rfl)))
   λh=>bV h.1 (bT h.2.1 (h.2.2.2.2.elim λqq e=>e.elim λrow' e=>Ud P c hr (by rw[h.2.2.1,e.2.2.2,bu (by rw[h.2.1];decide)]) h.2.2.2.1 U e.1 e.2.1 e.2.2.1 dQ ⟨_,rfl,rfl⟩))))))
end
structure Jq(ps:Pairs)(sts:List LS)(T:dD)(row:LQ)(s:d3)(z:dA):Prop where
inv:Inv ps sts row s.states s.values s.moves z
ml:s.moves.length<=60
lo:gE T sts.length s.Z1
ov:z.ov=decide (s.answer="accepted")
theorem nO.i{ps:Pairs}{sts:List LS}{T:dD}{row:LQ}{i:Nat}{x:Str}{s:d3}{z:dA}(h:nO ps sts T row i x s z):Jq ps sts T row s z:=by
 rcases h with⟨hb,_⟩|⟨a1,a2,a3,a4⟩
 ·exact⟨hb.inv,hb.ml,hb.lo,by rw[hb.ov,hb.an];rfl⟩
 ·refine⟨a1,a2,a3,?_⟩
  rcases a4 with⟨U,O,_⟩|⟨U,O,_⟩<;>(rw[U,O];rfl)
theorem nO.more{ps:Pairs}{sts:List LS}{T:dD}{row:LQ}{i:Nat}{x:Str}{s:d3}{z:dA}(h:nO ps sts T row i x s z)(e:s.answer="more"):i8 ps sts T row s z/\s.looked=none/\s.count=i+1/\z.ct=i+1:=(h.resolve_right λO=>by
 rcases O.2.2.2 with⟨_,q,_⟩|⟨_,q,_⟩<;>(rw[e] at q;revert q;decide)).imp id λh=>h.imp id λh=>h.imp id λh=>h.1
theorem nO.fin{ps:Pairs}{sts:List LS}{T:dD}{row:LQ}{i:Nat}{x:Str}{s:d3}{z:dA}(h:nO ps sts T row i x s z)(e:s.answer≠"more"):Fin ps sts T row i x s z:=h.resolve_left λO=>e O.1.an
theorem JX{ps:Pairs}{sts:List LS}{T:dD}{row:LQ}:i8 ps sts T row xD ⟨[],0,[row],[],false⟩:=
 ⟨⟨.nil,.mk (ps:=[]) rfl .nil,⟨[],.nil,ao _⟩,⟨[],.nil λx U=>U,rfl,ao _⟩,λx U=>(dh U),aL _,λx U=>(dh U)⟩,⟨bx,λx U=>(dh U)⟩,aL _,rfl,rfl,rfl,rfl⟩
section
variable{G:Gd}{k f n:Nat}{E:Ev}{M:LB}{K:KT}{X:XT}(P:dO G)(gx:Gx G)(ex:exmOne G.K (.ref G.C) (.ref G.C)=some true){ps:Pairs}{sts:List LS}{T:dD}(c:Ctx ps sts T){row:LQ}(hr:h7 ps row)
include P c hr gx ex
theorem Q2(hk:16<=k)(q:K (.sh (.bool true)) M):Cl G k 1209 [.sh (dF (cO ps) T),.sh (fy (cO ps) sts),.sh (dP ps),.sh (cP row)] M K X:=
 dj (P.g4 9) (ds:=[dF (cO ps) T,fy (cO ps) sts,dP ps,cP row]) rfl (R:=λd=>d=.bool true) hk (λd h=>h▸q)
  (go (QF P c.gk dQ (Oj P dQ (MT P dQ λM0 h0=>⟨ex,go (.inl ⟨_,rfl,jN (a:=row) (b:=kj) rfl rfl (ae (aK hr.len) dQ)
   (dZ (l:=jt row) (λ_ (_:LB×d3×dA)=>[some (.sh (dF (cO ps) T)),some (.sh (fy (cO ps) sts)),some (.sh (dP ps)),some (.sh (cP row)),some (.own 0),none]) (λ_ u=>u.1) (λi u=>CA (cO ps) T u.1 u.2.1/\i8 ps sts T row u.2.1 u.2.2/\u.2.1.looked=none/\u.2.1.count=i/\u.2.2.ct=i) (M0,xD,⟨[],0,[row],[],false⟩) ⟨h0,JX,rfl,rfl,rfl⟩ dG
    (λi x u P' hx O L=>go (oI (O.1.Z9 rfl rfl) (V6 P dQ (R0 P gx c O.1 hr O.2.1 O.2.2.1 O.2.2.2.1 O.2.2.2.2 hx dQ (λM' s' z' h' U=>have o:=U.i
     Fg h' o.lo (Rd P c hr o.inv o.ml o.ov dQ ⟨_,rfl,rfl,rfl⟩) (oI (h'.a rfl rfl) (bN (λhne=>L.bk (Fg h' o.lo (Nk P c hr hx (U.fin hne) dQ ⟨_,rfl,rfl,rfl⟩) ⟨_,rfl,rfl⟩))
      λhe=>L.nx [5] (M',s',z') ⟨h',U.more he⟩ rfl)))
     λM' s' h' h6=>L.xc (.mk rfl (h'.a rfl rfl) (gY h'.mo) (by rw[ag,h6];decide) ⟨_,rfl,by rw[ag,h6];rfl⟩)))))
    λu O=>absurd (O.2.1.inv.ct) (by rw[O.2.2.2.2];exact Nat.not_le.mpr (Nat.lt_of_lt_of_eq (bP row.length) (show row.length+kj.length=(row++kj).length from List.length_append.symm))))⟩)⟩))))
end
noncomputable def rF:LQ:=["a","b","c"]
structure nD(s1 d i:Nat)(acc:LV)(u:LQ×Nat×Int):Prop where
e:acc=dy u.1
l:u.1.length=i
d:i<=d
m:∀x∈u.1,x∈rF
s:u.2.1<=s1+1+i
theorem nD.row{s d:Nat}{acc:LV}{u:LQ×Nat×Int}{ps:Pairs}(h:nD s d d acc u)(ok:e9 ps)(hd:d<=6):h7 ps u.1:=⟨ae (bn h.l) hd,λx U=>by
 have O:∀x∈rF,x∈eK/\x∉gR:=by decide
 obtain ⟨h2,h3⟩:=O x (h.m x U)
 exact⟨h2,λq=>h3 (mT ok (jo.mpr q))⟩⟩
theorem nD.step{s d i:Nat}{acc:LV}{u:LQ×Nat×Int}(h:nD s d i acc u)(hi:i<d){y:Str}(O:y∈rF){s':Nat}{a':Int}(hs:s'<=u.2.1+1):nD s d (i+1) (acc++[.sh (.str y)]) (u.1++[y],s',a'):=
 ⟨by rw[h.e];unfold dy;rw[ay];rfl,by rw[ak,h.l];rfl,hi,λx U=>(aI.mp U).elim (h.m x) λU=>aF.mp U▸O,ae hs (aK h.s)⟩
structure uv(ps:Pairs)(s6 j:Nat)(u:List LQ×LV×Nat×Int):Prop where
A:u.2.1=u.1.map λr=>cJ.sh (cP r)
r:∀r∈u.1,h7 ps r
l:u.1.length=j+2
s:u.2.2.1<=s6+8*j
theorem uv.step{ps:Pairs}{s6 j:Nat}{u:List LQ×LV×Nat×Int}(h:uv ps s6 j u){row:LQ}{s':Nat}{O:Int}(hr:h7 ps row)(hs:s'<=u.2.2.1+8):uv ps s6 (j+1) (u.1++[row],u.2.1++[.sh (cP row)],s',O):=
 ⟨by rw[h.A];exact(ay (l₂:=[_])).symm,λr U=>(aI.mp U).elim (h.r r) λU=>aF.mp U▸hr,by rw[ak,h.l];rfl,ae hs (ae (bf h.s 8) (bn (by rw[Nat.mul_succ,Nat.add_assoc])))⟩
section
variable{G:Gd}{k f n:Nat}{E:Ev}{M:LB}{K:KT}{X:XT}(P:dO G)(gx:Gx G)(ex:exmOne G.K (.ref G.C) (.ref G.C)=some true)
include P gx ex
theorem Qu{ps:Pairs}{sts:List LS}{T:dD}(c:Ctx ps sts T){way s6:Nat}{a6:Int}{r1 r2:LQ}(h1:h7 ps r1)(h2:h7 ps r2)(hs:s6<=2^24):
 Go G 18 0 (C5.drop 6) [some (.sh (.raw G.sa)),some (.own 0),some (.sh (dP ps)),some (.sh (fy (cO ps) sts)),some (.sh (.int (way:Nat))),some (.sh (dF (cO ps) T)),some (.own 1),none,none] [eZ (G.ZS.take 24) s6 a6,.list [.sh (cP r1),.sh (cP r2)]] (wq λd=>d=.bool true):=
 have hl:(G.ZS.take 24).length<=24:=by rw[bb];exact cr _ _
 gT 1 (kx (z:=2) (λ_ (_:List LQ×LV×Nat×Int)=>[some (.sh (.raw G.sa)),some (.own 0),some (.sh (dP ps)),some (.sh (fy (cO ps) sts)),some (.sh (.int (way:Nat))),some (.sh (dF (cO ps) T)),some (.own 1),none,none])
  (λ_ u=>[eZ (G.ZS.take 24) u.2.2.1 u.2.2.2,.list u.2.1]) (λj u=>uv ps s6 j u) ([r1,r2],[.sh (cP r1),.sh (cP r2)],s6,a6) ⟨rfl,λr hr=>(aM.mp hr).elim (λe=>e▸h1) λhr=>aF.mp hr▸h2,rfl,ao _⟩
  (λj u P' hj U L=>have hb:u.2.2.1<=s6+16:=ae U.s (bq (bS 8 (aH hj)) s6)
   have b40:∀{x m:Nat},x<=u.2.2.1+m->m<=16->x<=2^40:=λh hm=>by lia
   go (k8 P (j:=0) (m:=7) dQ rfl hl (b40 (ao _) (aL _)) dQ dQ λd s1 a1 hd hs1=>have O:d<=6:=Nat.le_of_lt_succ hd
    oI (kB (c3 (ae O dQ))) (uR (l:=List.range d) (f:=λ_ (i:Nat)=>D.int i) (λw:LQ×Nat×Int=>[eZ (G.ZS.take 24) w.2.1 w.2.2,.list u.2.1]) (λi acc w=>nD u.2.2.1 d i acc w) ([],s1,a1) ⟨rfl,rfl,aL _,λx hx=>(dh hx),hs1⟩ dG
     (λi acc w h=>by rw[h.e];unfold dy;rw[ag,h.l];exact c3 (ae h.d (ae O dQ)))
     (λi x acc w R hx h a _=>have hi:i<d:=by have:=dc hx;rwa [aQ] at this
      .inl ⟨_,rfl,k8 P (j:=0) (m:=3) dQ rfl hl (b40 (ae h.s (bn (Nat.add_assoc ..))) (ae (bq (ae (aH hi) O) 1) dQ)) dQ dQ λe s2 a2 he hs2=>
       have hy:rF[e]?=some _:=aC (show e<rF.length from he)
       oI (dJ (ly hy)) (a _ (w.1++[_],s2,a2) (h.step hi (ax hy) hs2))⟩)
     λacc w h=>have h:nD u.2.2.1 d d acc w:=by rwa [aQ] at h
      .inl ⟨w.1.map .str,by rw[h.e];exact uW _,app rfl (by rw[U.A,ag,U.l];exact c3 (ae (bf (aH hj) 2) dQ)) (L.nx [7] (u.1++[w.1],_,w.2.1,w.2.2) (U.step (h.row c.ok O) (ae h.s (by lia))) rfl)⟩)))
  λu U=>gF (i:=6) (j:=1) (d:=.list (u.1.map cP)) rfl rfl (by show(data _ u.2.1).map D.list=_;rw[U.A,ig];rfl) (go (dZ (l:=u.1) (λ_ (_:Unit)=>[some (.sh (.raw G.sa)),some (.own 0),some (.sh (dP ps)),some (.sh (fy (cO ps) sts)),some (.sh (.int (way:Nat))),some (.sh (dF (cO ps) T)),some (.sh (.list (u.1.map cP))),none,none])
   (λ_ _=>[eZ (G.ZS.take 24) u.2.2.1 u.2.2.2,.Z3 (.list (u.1.map cP))]) (λ_ _=>True) () trivial dG
   (λj r _ P' hr _ L=>go (Q2 P gx ex c (U.r r (ax hr)) dQ (L.nx [8] () trivial rfl)))
   λ_ _=>⟨_,rfl,rfl⟩)))
theorem Qt(hk:20<=k)(q:K (.sh (.bool true)) M):Cl G k 1214 [.sh (.raw G.sa)] M K X:=
 have hl:(G.ZS.take 24).length<=24:=by rw[bb];exact cr _ _
 dj (j:=18) (P.g1 28) (ds:=[.raw G.sa]) rfl (R:=λd=>d=.bool true) hk (λd h=>h▸q)
  (gT 6 (SS P dQ (SN P hl dQ dQ λps s1 a1 ok O h6 hs1=>have gk:=qe ok O h6
   S3 P ok O h6 dQ (Ko P gk dQ λsts au=>k8 P (j:=0) (m:=3) dQ rfl hl (ae hs1 dQ) dQ dQ λway s2 a2 _ U=>
    have U:s2<=100:=ae U (ae (aK hs1) dQ)
    UJ P ok O h6 au hl (ae U dQ) dQ λks ms s3 a3 mk hs3=>
     have hs3:s3<=2^23:=ae hs3 (ae (bf U _) dQ)
     k8 P (j:=0) (m:=2) dQ rfl hl (ae hs3 dQ) dQ dQ λwd s4 a4 _ hs4=>have hs4:s4<=2^23+1:=ae hs4 (aK hs3)
      NF P gk dQ au mk λT tk=>Ep P hl dQ ok h6 (ae hs4 dQ) λr1 s5 a5 hr1 hs5=>have hs5:s5<=2^23+9:=ae hs5 (bf hs4 8)
       Ep P hl dQ ok h6 (ae hs5 dQ) λr2 s6 a6 hr2 hs6=>.inr (Qu P gx ex ⟨ok,O,h6,au,tk⟩ hr1 hr2 (ae hs6 (ae (bf hs5 8) dQ)))))))
end
noncomputable abbrev Pq:Program:=PySem.Challenge.pw_nn0421_01
theorem S8:PySem.Challenge.pw_nn0421_01=Pq:=rfl
noncomputable def Oo(f:Nat):Nat->LN:=Nat.rec (motive:=λ_=>Nat->LN) (λ_=>[]) (λ_ O c=>Nat.rec (motive:=λ_=>LN) [] (λ_ _=>Nat.mod c 256::O (Nat.div c 256)) c) f
abbrev cK(c:Nat):Str:=⟨⟨Oo 99 c⟩⟩
def n1:=cK 0x79702e7475632f6d69616c632f
def n2:=cK 0x5f5f6e69616d5f5f
def n6:=cK 0x6c6c61775f
def n7:=cK 0x5f5f656c75646f6d5f5f
def n8:=cK 0x656372756f732e6c6c696d72616d6d617267
def n9:=cK 0x5f5f656d616e6c6175715f5f
def oQ:=cK 0x726f7272456c6f6f54
def dK:=cK 0x5f5f6f6e656e696c74737269665f5f
def du:=cK 0x5f5f74696e695f5f
def iv:=cK 0x646c6f74
def dM:=cK 0x5f5f736574756269727474615f6369746174735f5f
def cW:=cK 0x666c6573
def FQ:=cK 0x74616877
def oR:=cK 0x7461
def zg:=cK 0x5f5f74696e695f5f2e726f7272456c6f6f54
def ew:=cK 0x5f5f6665726b6165775f5f
def fP:=cK 0x5f5f636f645f5f
def sV:=cK 0x726f72724572616d6d617247
def sX:=cK 0x726f727245656c626154
def l8:=cK 0x726f7272456573726150
def sY:=cK 0x6e656b6f54
def zU:=cK 0x646e655f7369
def zW:=cK 0x646e696b
def Ge:=cK 0x74786574
def Gf:=cK 0x6874726f77
def z9:=cK 0x5f5f74696e695f5f2e6e656b6f54
def eE:=cK 0x5f5f746369645f5f
def Aa:=cK 0x6b73616d
def kF:=cK 0x646e756f66
def oU:=cK 0x7466656c
def Ab:=cK 0x73746962
def dN:=cK 0x73656c6261742e6c6c696d72616d6d617267
def l9:=cK 0x73656c626154
def gV:=cK 0x6c616e696d726574
def vT:=cK 0x6874676e656c
def tB:=cK 0x65726f666562
def qC:=cK 0x746e756f635f6574617473
def qD:=cK 0x746963696c707865
def Ac:=cK 0x746c7561666564
def jS:=cK 0x6f746f67
def qE:=cK 0x6e6f69746361
def mW:=cK 0x6465746365707865
def qF:=cK 0x746e65747369736e6f635f7369
def tC:=cK 0x73656d616e
def vU:=cK 0x746e756f635f6c616e696d726574
def Gh:=cK 0x737466656c
def Gi:=cK 0x736874676e656c
def Gj:=cK 0x7365726f666562
def jq:=cK 0x7265626d756e
def qG:=cK 0x656d616e
def gW:=cK 0x656c7572
def gb:=cK 0x6574617473
def Gk:=cK 0x6c616e696d7265746e6f6e
def Ad:=cK 0x73746c7561666564
def Gl:=cK 0x737265626d756e
def tD:=cK 0x7463696c666e6f43
def tE:=cK 0x796177
def Ae:=cK 0x73656c7572
def Af:=cK 0x6e65736f6863
def oV:=cK 0x73656c6261546573726150
def Gm:=cK 0x5f5f7373616c635f5f
def Ag:=cK 0x5f5f74696e695f5f2e73656c6261546573726150
def tF:=cK 0x737463696c666e6f63
def yM:=cK 0x736f746f67
def iW:=cK 0x72616d6d617267
def FJ:=cK 0x65646f6d
def vL:=cK 0x73776f72
def yN:=cK 0x64656c74746573
def FK:=cK 0x726568746f
def yO:=cK 0x656c74746573
def sx:=cK 0x72656b614d776f52
def yP:=cK 0x736c6576656c5f656c74746573
def yQ:=cK 0x656e6f5f656c74746573
def lj:=cK 0x776f72
def FL:=cK 0x736b73616d
def iM:=cK 0x6c6f626d7973
def qv:=cK 0x6b6f6f6c
def yR:=cK 0x737463696c666e6f632e72656b614d776f52
def yS:=cK 0x666f5f746c7561666564
def sC:=cK 0x74756f68746977
def vM:=cK 0x6e6f74616d6f747561
def sD:=cK 0x6c6c6966
def dE:=cK 0x7265766972642e6c6c696d72616d6d617267
def sE:=cK 0x72656c646e6148
def l4:=cK 0x7466696873
def l5:=cK 0x656375646572
def qw:=cK 0x7265766f636572
def l6:=cK 0x6e656b6f74
def vN:=cK 0x7365756c6176
def FM:=cK 0x6c6f72746e6f63
def sF:=cK 0x746c756146
def yT:=cK 0x6567617373656d
def FN:=cK 0x7865646e69
def yU:=cK 0x5f5f74696e695f5f2e746c756146
def sG:=cK 0x656d6f6374754f
def yV:=cK 0x6e61656c635f7369
def FO:=cK 0x6465747065636361
def qx:=cK 0x65756c6176
def yW:=cK 0x73746c756166
def sH:=cK 0x7365766f6d
def sI:=cK 0x65726f43
def yX:=cK 0x6e69676562
def vO:=cK 0x656d6f6374756f
def yY:=cK 0x6573726170
def yZ:=cK 0x6c6c7570
def y0:=cK 0x726566666f
def y4:=cK 0x736465656e
def y5:=cK 0x656c75725f656e6f6c
def y6:=cK 0x666f5f6c616e696d726574
def y7:=cK 0x65746f6e
def y8:=cK 0x6563616c70
def y9:=cK 0x6873696e6966
def za:=cK 0x70657473
def zb:=cK 0x64656873696c62617473655f7369
def zc:=cK 0x746361
def zd:=cK 0x6e6f5f6f67
def ze:=cK 0x746c7561665f6c6c6574
def zf:=cK 0x6c696166
def FR:=cK 0x73656c626174
def FS:=cK 0x72656c646e6168
def FT:=cK 0x74736f6d
def zh:=cK 0x5f5f74696e695f5f2e65726f43
def FU:=cK 0x65766f6d
def FV:=cK 0x726577736e61
def FW:=cK 0x656e6f6c
def FX:=cK 0x6c616f67
def zi:=cK 0x746c7561665f6c6c65742e65726f43
def zj:=cK 0x746e756f63
def vP:=cK 0x736574617473
def fQ:=cK 0x72616d6d6172672e6c6c696d72616d6d617267
def sJ:=cK 0x656c7552
def qy:=cK 0x7468676972
def FY:=cK 0x666f5f6c6576656c
def zk:=cK 0x656e696c
def zl:=cK 0x5f5f74696e695f5f2e656c7552
def sM:=cK 0x72616d6d617247
def zm:=cK 0x746e756f635f6c6f626d7973
def zo:=cK 0x6c616e696d7265745f7369
def zp:=cK 0x656c6464696d5f7369
def zq:=cK 0x666f5f73656c7572
def kD:=cK 0x6d657469
def zr:=cK 0x666f5f656c7572
def zt:=cK 0x666f5f746f64
def zu:=cK 0x7265746661
def zv:=cK 0x5f5f74696e695f5f2e72616d6d617247
def FZ:=cK 0x746f64
def F0:=cK 0x7472617473
def sN:=cK 0x656c75725f776f6873
def zw:=cK 0x6c616e696d7265745f7473616c
def sO:=cK 0x72616d6d6172675f6e69616c70
def sP:=cK 0x736e6f69746375646572
def F8:=cK 0x736d726f66
def zx:=cK 0x6e6f69746176697265645f7468676972
def sQ:=cK 0x656e6f
def zy:=cK 0x6576697469736e617274
def d0:=cK 0x6f72657a726c2e6c6c696d72616d6d617267
def sR:=cK 0x6574617453724c
def qz:=cK 0x6c656e72656b
def zA:=cK 0x736d657469
def sT:=cK 0x7265736f6c43
def vQ:=cK 0x6465746e6177
def zB:=cK 0x6465646461
def zC:=cK 0x65736f6c63
def zD:=cK 0x6465636e61766461
def zE:=cK 0x646e696865625f736c656e72656b
def zF:=cK 0x73656c75725f6574656c706d6f63
def sU:=cK 0x6e6f74616d6f747541
def zG:=cK 0x6b6c6177
def vR:=cK 0x68746170
def zH:=cK 0x65746174735f6c616e6966
def zI:=cK 0x746e756f635f6e6f697469736e617274
def zJ:=cK 0x736c6f626d7973
def F9:=cK 0x65726568
def sW:=cK 0x7265646c697542
def zK:=cK 0x666f5f7265626d756e
def zL:=cK 0x646e61707865
def zM:=cK 0x746c697562
def Ga:=cK 0x646e69686562
def zN:=cK 0x646c697562
def eM:=cK 0x7365646f6e2e6c6c696d72616d6d617267
def l7:=cK 0x65657254
def qA:=cK 0x6661656c5f7369
def qB:=cK 0x64616568
def zO:=cK 0x73657661656c
def zP:=cK 0x746867696568
def zQ:=cK 0x776f6873
def zR:=cK 0x6e6572646c696863
def Gb:=cK 0x65646f6e
def zS:=cK 0x73657661656c2e65657254
def zT:=cK 0x736e6f697463756465722e65657254
def oS:=cK 0x6661654c
def zV:=cK 0x726564726f74736f70
def sZ:=cK 0x6e6f6974617669726564
def te:=cK 0x72656c646e614865657254
def tj:=cK 0x73656d616e5f7466656c
def zX:=cK 0x6e65705f77616c5f
def iX:=cK 0x31305f313234306e6e5f77616c
def Gc:=cK 0x6e6570
def zY:=cK 0x776172645f77616c5f
def tm:=cK 0x73726961705f77616c5f
def tq:=cK 0x6e776f72675f77616c5f
def tu:=cK 0x646e696865625f77616c5f
def zZ:=cK 0x73646165685f77616c5f
def vS:=cK 0x7372696170
def z0:=cK 0x737465735f77616c5f
def z4:=cK 0x646579616c7065725f77616c5f
def z5:=cK 0x726573726170
def z6:=cK 0x74686769725f746e656d6f6d5f77616c5f
def Gg:=cK 0x6564616d
def z7:=cK 0x74686769725f6c6173756665725f77616c5f
def tw:=cK 0x74686769725f646e655f77616c5f
def z8:=cK 0x74686769725f776f725f77616c5f
def tA:=cK 0x77616c
def Gp:=cK 0x5f5f656d616e5f5f
noncomputable def Av:List Stmt->Nat->Stmt
|[],_=>.Pass default
|s::_,0=>s
|_::r,n+1=>Av r n
def q1(i:Nat):Stmt:=Av Pq.main.body i
noncomputable def tP{α:Type}(d:α)(f:Str->Arguments->List Stmt->Scope->Pos->α)(c:Str->List Stmt->α)(g:LX->α)(s:Stmt):α:=Stmt.casesOn (motive_2:=λ_=>α) s (λn a b _ _ _ sc _ _ p=>f n a b sc p) (λ_ _ _ _ _ _ _ _ _ _=>d) (λn _ _ b _ _ _ _ _ _ _=>c n b) (λ_ _=>d) (λ_ _=>d) (λl _ _=>g l) (λ_ _ _ _ _ _ _=>d) (λ_ _ _ _=>d) (λ_ _ _ _ _=>d) (λ_ _ _ _ _=>d) (λ_ _ _ _ _=>d) (λ_ _ _ _=>d) (λ_ _ _ _=>d) (λ_ _ _=>d) (λ_ _ _=>d) (λ_ _ _=>d) (λ_ _ _=>d) (λ_ _ _ _ _=>d) (λ_ _ _ _ _=>d) (λ_ _ _=>d) (λ_ _=>d) (λ_ _ _ _=>d) (λ_ _=>d) (λ_ _=>d) (λ_ _=>d) (λ_=>d) (λ_=>d) (λ_=>d)
def OF(s:Stmt):List Stmt:=tP [] (λ_ _ _ _ _=>[]) (λ_ b=>b) (λ_=>[]) s
def q2(i j:Nat):Stmt:=Av (OF (q1 i)) j
noncomputable abbrev Vn:Value:=.none
noncomputable abbrev Vb(b:Bool):Value:=.bool b
noncomputable abbrev V0(i:Int):Value:=.int i 0
noncomputable abbrev Vi(i:Int)(t:Nat):Value:=.int i t
noncomputable abbrev Vs(s:Str)(t:Nat):Value:=.str s t
noncomputable abbrev r(a:Nat):Value:=.ref a
noncomputable abbrev Vt(s:String):Value:=.type s
noncomputable abbrev Vu(s:String):Value:=.builtin s
noncomputable abbrev e(P:Params)(k:Str)(t:Nat)(v:Value):DictEntry:=⟨PyData.keyHash P k,.str k t,v⟩
noncomputable abbrev ot(l:LU):Obj:={cls:=.type "tuple",data:=.seq ⟨l⟩}
noncomputable abbrev od(c:Value)(l:List DictEntry)(n:Nat):Obj:={cls:=c,data:=.dict ⟨l⟩ n}
noncomputable abbrev of(c:Value)(l:LU):Obj:={cls:=c,data:=.fields ⟨l⟩}
noncomputable abbrev op(c:Value)(l:List (Option Value)):Obj:={cls:=c,data:=.plain,slots:=⟨l⟩}
noncomputable abbrev oc(c:Value)(l:Option Value):Obj:={cls:=c,data:=.cell l}
noncomputable abbrev ok(n:Str)(b m:LU)(ns:Nat)(q:Str)(sub:LU)(l:List (Option Value)):Obj:={cls:=.type "type",data:=.cls {name:=n,bases:=b,mro:=m,ns:=ns,qualname:=q,subclasses:=sub},slots:=⟨l⟩}
def fA:Obj:=of (Vt "builtin_function_or_method") [(Vu "type.__prepare__"),(Vt "type")]
def fj(k:Nat):Obj:=of (Vt "builtin_function_or_method") [(Vu "object.__init_subclass__"),(r k)]
def fO(a b:Nat)(n:Str)(t:Nat):Obj:=op (Vt "frame") [some (r a),some (r 3),some (r b),none,some (Vs n t),none,some (r 0)]
def iL(n:Str)(t k:Nat):Obj:=of (Vt "getset_descriptor") [(Vs n t),(r k),(Vu "function.__dict__"),(Vu "function.__dict__#set")]
def il(n:Str)(t k:Nat):Obj:=of (Vt "getset_descriptor") [(Vs n t),(r k),(Vu "ExceptionGroup.__weakref__"),Vn]
def fW(k:Nat):Obj:=of (Vt "super") [(r k),(r k),(r k)]
def gQ(n:Str)(k:Nat)(m:Str)(a b:Nat):Obj:=ok n [(Vt "object")] [(r k),(Vt "object")] (k-1) n [] [none,none,some (Vs m a),some (Vs n b),some (Vu "object.__new__"),some (Vb true)]
def hex(n:Str)(k:Nat)(l:LU)(x:Nat)(m:Str)(a b:Nat):Obj:=ok n [(r 46)] [(r k),(r 46),(Vt "Exception"),(Vt "BaseException"),(Vt "object")] (k-1) n l [some (r x),none,some (Vs m a),some (Vs n b),some (Vu "Exception.__new__"),some (Vb true)]
def vd(l:LU):Obj:=ok oQ [(Vt "Exception")] [(r 46),(Vt "Exception"),(Vt "BaseException"),(Vt "object")] 45 oQ l [some (r 22),none,some (Vs oQ 196),some (Vs oQ 204),some (Vu "Exception.__new__"),some (Vb true)]
def hD:List DictEntry->Nat->Obj:=od (Vt "dict")
def fG(P:Params)(n:Str)(t:Nat)(g:List DictEntry)(k:Nat)(f:LU)(l:List (Nat×Obj)):List (Nat×Obj):=(3,hD (e P Gp 165 (Vs n t)::g) k)::(12,of Vn f)::l
noncomputable def hn(k:Nat)(l:List Obj):List (Nat×Obj):=List.rec (motive:=λ_=>Nat->List (Nat×Obj)) (λ_=>[]) (λo _ O k=>(k,o)::O (k+1)) l k
def eX(t:Nat)(l:LQ):Obj:=ot (List.rec (motive:=λ_=>Nat->LU) (λ_=>[]) (λa _ O t=>Vs a t::O (t+1)) l t)
def yh(f q:Str)(t L c b u:Nat)(k:Int)(w:Bool)(x:LU):Obj:=of (Vt "code") (Vs f t::Vs q (t+1)::Vs n1 (t+2)::V0 L::V0 c::V0 0::V0 0::V0 k::r b::Vb w::V0 181::r (b+1)::Vn::(x++[V0 u,V0 L,Vs n1 (u+1)]))
def lU(f q:Str)(t L c b u:Nat):Obj:=yh f q t L c b u 3 true [r (b+2),r (b+3),r (b+4)]
def iK(f q:Str)(t L c b u:Nat):Obj:=yh f q t L c b u 3 true [Vn,Vn,r (b+2)]
def fN(f:Str)(t L b:Nat):Obj:=yh f f t L 0 b (t+3) 0 false [Vn,Vn,Vn]
def gH(k:Int)(l:LN):LU:=List.rec (motive:=λ_=>Bool->LU) (λ_=>[]) (λ(a:Nat)_ O b=>Bool.casesOn (motive:=λ_=>LU) b (V0 (Int.ofNat a)::V0 k::O true) (r a::O false)) l false
def om(s:Stmt)(q:Str):Obj:=tP default (λname O body scope _=>{cls:=.none,data:=.func {name:=name,qualname:=q,params:=O,body:=.stmts body,scope:=scope,globals:=0,closure:=[],defaults:=.none,kwdefaults:=.none}}) (λ_ _=>default) (λ_=>default) s
def ow(s:Stmt)(q:Str)(cl:List (Str×Addr))(dv U cd ct:Value):Obj:=tP default (λname O body scope _=>{cls:=.type "function",data:=.func {name:=name,qualname:=q,params:=O,body:=.stmts body,scope:=scope,globals:=3,closure:=cl,defaults:=dv,kwdefaults:=.none,pyModule:=U,code:=cd,closureTuple:=ct}}) (λ_ _=>default) (λ_=>default) s
noncomputable def eg(l z:List (Nat×Obj)):List (Nat×Obj):=l++z
def gh(b:Nat)(st:Stmt)(f q:Str)(t L c:Nat)(l:LQ)(m:Str)(k:Nat)(z:List (Nat×Obj)):List (Nat×Obj):=(b,ot [])::(b+1,of Vn [])::(b+2,eX (t+3) l)::(b+3,ot [])::(b+4,om st q)::(b+5,lU f q t L c b (t+3+l.length))::(b+6,ow st q [] Vn (Vs m k) (r (b+5)) Vn)::z
def cY(b i j:Nat):Str->Str->Nat->Nat->Nat->LQ->Str->Nat->List (Nat×Obj)->List (Nat×Obj):=gh b (q2 i j)
def bi(t:BT):Nat->Obj->BT:=@BT.rec (λ_=>Nat->Obj->BT) (λ_ o=>.node o .nil .nil)
 (λv l r O U i o=>@Bool.rec (λ_=>BT) (@Bool.rec (λ_=>BT) (.node v l (U (i/2-1) o)) (.node v (O (i/2) o) r) (Nat.beq (i%2) 1)) (.node o l r) (Nat.beq i 0)) t
def fm(l:List (Nat×Obj)):BT->BT:=@List.rec (Nat×Obj) (λ_=>BT->BT) (λt=>t) (λp _ O t=>O (bi t p.1 p.2)) l
noncomputable abbrev Bk:=PySem.W.Fast.tw10110043849684766642
noncomputable abbrev tT:=PySem.W.Fast.tw14364793385576792824
noncomputable abbrev eT:=PySem.W.Fast.tw12563942051412417395
noncomputable def ann:Option Value:=some (.ref 6)
noncomputable def qV:Nat->List Stmt->List Stmt
|0,_=>[]
|_,[]=>[]
|n+1,a::l=>a::qV n l
noncomputable def gq:Nat->List Stmt->List Stmt
|0,l=>l
|_,[]=>[]
|n+1,_::l=>gq n l
def en:Env:={scope:=Pq.main.scope,locals:=mainNs,globals:=mainNs,cells:=[],code:=.ref 13,frame:=some 14}
noncomputable def p0:Pos:=⟨0,0,0,0⟩
def cE:Code:=.body Pq.main.body en
def th(i k:Nat)(p:Pos):Thread:=⟨(eT (qV k (gq i Pq.main.body)) en).wrap doneF deadEnd id id,cE,p,[topFrame p0]⟩
noncomputable def mk(t:Params->BT)(n k:Nat)(w:World)(os:OsState):SharedT:=⟨t w.params,n,(boot_heap w.params).life,Array.mk [],boot_drawn,k,os⟩
abbrev c9(w:World)(os:OsState)(n:Nat)(a:World->OsState->SharedT)(i k:Nat)(p:Pos):=Bk tT Pq w 11 ann 1 n (a w os) (th i k p)
abbrev eR(w:World)(os:OsState)(b:World->OsState->SharedT)(q:Pos):=some (Flow.next,b w os,cE,q)
section
variable(P:Params)(w:World)(os:OsState)
def u0:List (Nat×Obj):=[(0,boot_o_0 P),(1,boot_o_1 P),(2,boot_o_2 P),(3,boot_o_3 P),(4,boot_o_4 P),(5,boot_o_5 P),(6,boot_o_6 P),(7,boot_o_7 P),(8,boot_o_8 P),(9,boot_o_9 P),(10,boot_o_10 P),(11,ot []),(12,of Vn []),(13,fN (cK 0x3e656c75646f6d3c) 182 1 11),(14,fO 13 3 n2 164)]
def t0:BT:=fm (u0 P) .nil
abbrev s0:=mk t0 15 187
def f1:LU:=[(V0 1),(V0 0),(r 20),(V0 5),(V0 0),(r 27)]
def g1:List DictEntry:=[e P fP 166 Vn,e P (cK 0x5f5f6567616b6361705f5f) 167 Vn,e P (cK 0x5f5f726564616f6c5f5f) 168 (Vu "__main__.__loader__#\x6fpaque"),e P (cK 0x5f5f636570735f5f) 169 Vn,e P (cK 0x5f5f736e6f697461746f6e6e615f5f) 170 (r 6),e P (cK 0x5f5f736e69746c6975625f5f) 171 (r 4),e P (cK 0x5f5f656c69665f5f) 173 (Vs n1 172),e P (cK 0x5f5f6465686361635f5f) 174 Vn,e P n6 193 (r 21),e P oQ 233 (r 46)]
def t1:BT:=fm (eg (hn 2 [od Vn [e P (cK 0x302e6e6f697470656378452e5f5f73657373616c636275735f5f2e65707974) 230 (V0 46),e P (cK 0x6e2e6e6f697470656378452e5f5f73657373616c636275735f5f2e65707974) 231 (V0 1)] 2,hD (e P Gp 165 (Vs n8 194)::g1 P) 11]++hn 12 [of Vn (f1)])<|gh 15 (q1 0) n6 n6 187 1 1 [(cK 0x6b)] n2 164<|eg (hn 22 [ot [(Vt "Exception")],fA,hD [e P n7 203 (Vs n8 194),e P n9 205 (Vs oQ 204),e P dK 207 (Vi 5 206),e P du 216 (r 36),e P iv 223 (r 43),e P dM 226 (r 44)] 6,ot [],of Vn (gH 4 [7,35,12,42]),fN oQ 198 5 25,fO 27 24 n8 194,ot [Vn],ot [],of Vn [],eX 211 [cW,FQ,oR],ot [],om (q2 2 0) zg,lU du zg 208 7 3 30 214,ow (q2 2 0) zg [] (r 29) (Vs n8 194) (r 35) Vn])<|cY 37 2 1 iv (cK 0x646c6f742e726f7272456c6f6f54) 217 12 1 [cW] n8 194<|(hn 44 [eX 224 [oR,FQ],hD [e P n7 203 (Vs n8 194),e P dK 207 (Vi 5 206),e P du 216 (r 36),e P iv 223 (r 43),e P dM 226 (r 44),e P ew 228 (r 47),e P fP 229 Vn] 3,vd [],il ew 227 46,fW 46,fj 46])) (t0 P)
abbrev s1:=mk t1 50 234
theorem p1:c9 w os 301 s0 0 3 ⟨0,0,0,0⟩=eR w os s1 ⟨5,0,15,29⟩:=by kernel_rfl
def f2:LU:=f1++[(V0 16),(V0 0),(r 55)]
def g2:List DictEntry:=g1 P++[e P sV 249 (r 59)]
def t2:BT:=fm (fG P n8 194 (g2 P) 12 (f2) (hn 46 [vd [(r 59)]]++hn 50 [ot [(r 46)],fA,hD [e P n7 241 (Vs n8 194),e P n9 243 (Vs sV 242),e P dK 245 (Vi 16 244),e P dM 246 (r 57)] 4,ot [],of Vn [],fN sV 236 16 53,fO 55 52 n8 194,ot [],hD [e P n7 241 (Vs n8 194),e P dK 245 (Vi 16 244),e P dM 246 (r 57),e P fP 247 Vn] 2,hex sV 59 [] 50 sV 234 242,fW 59,fj 59])) (t1 P)
abbrev s2:=mk t2 62 250
theorem p2:c9 w os 214 s1 3 1 ⟨5,0,15,29⟩=eR w os s2 ⟨16,0,17,8⟩:=by kernel_rfl
def f3:LU:=f2++[(V0 18),(V0 0),(r 67)]
def g3:List DictEntry:=g2 P++[e P sX 265 (r 71)]
def t3:BT:=fm (fG P n8 194 (g3 P) 13 (f3) (hn 46 [vd [(r 59),(r 71)]]++hn 62 [ot [(r 46)],fA,hD [e P n7 257 (Vs n8 194),e P n9 259 (Vs sX 258),e P dK 261 (Vi 18 260),e P dM 262 (r 69)] 4,ot [],of Vn [],fN sX 252 18 65,fO 67 64 n8 194,ot [],hD [e P n7 257 (Vs n8 194),e P dK 261 (Vi 18 260),e P dM 262 (r 69),e P fP 263 Vn] 2,hex sX 71 [] 62 sX 250 258,fW 71,fj 71])) (t2 P)
abbrev s3:=mk t3 74 266
theorem p3:c9 w os 214 s2 4 1 ⟨16,0,17,8⟩=eR w os s3 ⟨18,0,19,8⟩:=by kernel_rfl
def f4:LU:=f3++[(V0 20),(V0 0),(r 79)]
def g4:List DictEntry:=g3 P++[e P l8 281 (r 83)]
def t4:BT:=fm (fG P n8 194 (g4 P) 14 (f4) (hn 46 [vd [(r 59),(r 71),(r 83)]]++hn 74 [ot [(r 46)],fA,hD [e P n7 273 (Vs n8 194),e P n9 275 (Vs l8 274),e P dK 277 (Vi 20 276),e P dM 278 (r 81)] 4,ot [],of Vn [],fN l8 268 20 77,fO 79 76 n8 194,ot [],hD [e P n7 273 (Vs n8 194),e P dK 277 (Vi 20 276),e P dM 278 (r 81),e P fP 279 Vn] 2,hex l8 83 [] 74 l8 266 274,fW 83,fj 83])) (t3 P)
abbrev s4:=mk t4 86 282
theorem p4:c9 w os 214 s3 5 1 ⟨18,0,19,8⟩=eR w os s4 ⟨20,0,21,8⟩:=by kernel_rfl
def f5:LU:=f4++[(V0 22),(V0 0),(r 91),(V0 35),(V0 0),(r 127)]
def g5:List DictEntry:=g4 P++[e P sY 330 (r 117),e P Ab 340 (r 128),e P (cK 0x545045434341) 346 (Vi 1048576 345),e P (cK 0x444552524142) 351 (Vi (-1048576) 350),e P (cK 0x73656c6261745f444e45) 353 (Vi 0 352),e P (cK 0x73656c6261745f524f525245) 355 (Vi 1 354),e P (cK 0x73656c6261745f44454e494645444e55) 357 (Vi 2 356)]
def t5:BT:=fm (eg (fG P dN 341 (g5 P) 21 (f5) (hn 86 [ot [],fA,hD [e P n7 289 (Vs n8 194),e P n9 291 (Vs sY 290),e P dK 293 (Vi 22 292),e P du 304 (r 100),e P iv 311 (r 107),e P zU 318 (r 114),e P dM 323 (r 115)] 7,ot [],of Vn (gH 4 [24,99,30,106,33,113]),fN sY 284 22 89,fO 91 88 n8 194,ot [Vn],ot [],of Vn [],eX 297 [cW,zW,Ge,oR,Gf],ot [],om (q2 6 0) z9,lU du z9 294 24 5 94 302,ow (q2 6 0) z9 [] (r 93) (Vs n8 194) (r 99) Vn]))<|cY 101 6 1 iv (cK 0x646c6f742e6e656b6f54) 305 30 1 [cW] n8 194<|cY 108 6 2 zU (cK 0x646e655f73692e6e656b6f54) 312 33 1 [cW] n8 194<|eg (hn 115 [eX 319 [oR,zW,Ge,Gf],hD [e P n7 289 (Vs n8 194),e P dK 293 (Vi 22 292),e P du 304 (r 100),e P iv 311 (r 107),e P zU 318 (r 114),e P dM 323 (r 115),e P eE 325 (r 118),e P ew 327 (r 119),e P fP 328 Vn] 4,gQ sY 117 sY 282 290,iL eE 324 117,il ew 326 117,fW 117,fj 117])<|gh 122 (q1 7) Ab Ab 331 35 1 [Aa,kF,oR,oU] n8 194 []) (t4 P)
abbrev s5:=mk t5 129 358
theorem p5:c9 w os 395 s4 6 8 ⟨20,0,21,8⟩=eR w os s5 ⟨50,0,50,16⟩:=by kernel_rfl
def f6:LU:=f5++[(V0 51),(V0 0),(r 134)]
def g6:List DictEntry:=g5 P++[e P l9 492 (r 222)]
def t6:BT:=fm (eg (fG P dN 341 (g6 P) 22 (f6) (hn 129 [ot [],fA,hD [e P n7 365 (Vs dN 341),e P n9 367 (Vs l9 366),e P dK 369 (Vi 51 368),e P du 382 (r 142),e P gV 390 (r 149),e P oU 398 (r 156),e P vT 406 (r 163),e P tB 414 (r 170),e P qC 421 (r 177),e P qD 430 (r 184),e P Ac 438 (r 191),e P jS 447 (r 198),e P qE 457 (r 205),e P mW 468 (r 212),e P qF 477 (r 219),e P dM 485 (r 220)] 16,ot [],of Vn (gH 4 [53,141,64,148,67,155,70,162,73,169,76,176,79,183,82,190,85,197,88,204,96,211,105,218]),fN l9 360 51 132,fO 134 131 dN 341]))<|cY 136 14 0 du (cK 0x5f5f74696e695f5f2e73656c626154) 370 53 6 [cW,tC,vU,Gh,Gi,Gj,jq] dN 341<|cY 143 14 1 gV (cK 0x6c616e696d7265742e73656c626154) 383 64 2 [cW,qG] dN 341<|cY 150 14 2 oU (cK 0x7466656c2e73656c626154) 391 67 2 [cW,gW] dN 341<|cY 157 14 3 vT (cK 0x6874676e656c2e73656c626154) 399 70 2 [cW,gW] dN 341<|cY 164 14 4 tB (cK 0x65726f6665622e73656c626154) 407 73 2 [cW,gW] dN 341<|cY 171 14 5 qC (cK 0x746e756f635f65746174732e73656c626154) 415 76 1 [cW] dN 341<|cY 178 14 6 qD (cK 0x746963696c7078652e73656c626154) 422 79 3 [cW,gb,gV] dN 341<|cY 185 14 7 Ac (cK 0x746c75616665642e73656c626154) 431 82 2 [cW,gb] dN 341<|cY 192 14 8 jS (cK 0x6f746f672e73656c626154) 439 85 3 [cW,gb,Gk] dN 341<|cY 199 14 9 qE (cK 0x6e6f697463612e73656c626154) 448 88 3 [cW,gb,gV,iv] dN 341<|cY 206 14 10 mW (cK 0x64657463657078652e73656c626154) 458 96 2 [cW,gb,kF,gV,iv] dN 341<|cY 213 14 11 qF (cK 0x746e65747369736e6f635f73692e73656c626154) 469 105 2 [cW,gb,gV] dN 341<|(hn 220 [eX 478 [Gj,Ad,Gh,Gi,tC,Gl,vU],hD [e P n7 365 (Vs dN 341),e P dK 369 (Vi 51 368),e P du 382 (r 142),e P gV 390 (r 149),e P oU 398 (r 156),e P vT 406 (r 163),e P tB 414 (r 170),e P qC 421 (r 177),e P qD 430 (r 184),e P Ac 438 (r 191),e P jS 447 (r 198),e P qE 457 (r 205),e P mW 468 (r 212),e P qF 477 (r 219),e P dM 485 (r 220),e P eE 487 (r 223),e P ew 489 (r 224),e P fP 490 Vn] 4,gQ l9 222 l9 358 366,iL eE 486 222,il ew 488 222,fW 222,fj 222])) (t5 P)
abbrev s6:=mk t6 227 493
theorem p6:c9 w os 593 s5 14 1 ⟨50,0,50,16⟩=eR w os s6 ⟨51,0,111,19⟩:=by kernel_rfl
def f7:LU:=f6++[(V0 112),(V0 0),(r 232)]
def g7:List DictEntry:=g6 P++[e P tD 536 (r 250)]
def t7:BT:=fm (eg (fG P dN 341 (g7 P) 23 (f7) (hn 227 [ot [],fA,hD [e P n7 500 (Vs dN 341),e P n9 502 (Vs tD 501),e P dK 504 (Vi 112 503),e P du 516 (r 240),e P iv 523 (r 247),e P dM 529 (r 248)] 6,ot [],of Vn (gH 4 [114,239,121,246]),fN tD 495 112 230,fO 232 229 dN 341]))<|cY 234 15 0 du (cK 0x5f5f74696e695f5f2e7463696c666e6f43) 505 114 6 [cW,gb,gV,tE,Ae,Af] dN 341<|cY 241 15 1 iv (cK 0x646c6f742e7463696c666e6f43) 517 121 1 [cW] dN 341<|(hn 248 [eX 524 [Af,Ae,gb,gV,tE],hD [e P n7 500 (Vs dN 341),e P dK 504 (Vi 112 503),e P du 516 (r 240),e P iv 523 (r 247),e P dM 529 (r 248),e P eE 531 (r 251),e P ew 533 (r 252),e P fP 534 Vn] 4,gQ tD 250 tD 493 501,iL eE 530 250,il ew 532 250,fW 250,fj 250])) (t6 P)
abbrev s7:=mk t7 255 537
theorem p7:c9 w os 262 s6 15 1 ⟨51,0,111,19⟩=eR w os s7 ⟨112,0,122,77⟩:=by kernel_rfl
def f8:LU:=f7++[(V0 123),(V0 0),(r 261),(V0 146),(V0 0),(r 300)]
def g8:List DictEntry:=g7 P++[e P oV 592 (r 292),e P yO 603 (r 301)]
def t8:BT:=fm (eg (fG P dN 341 (g8 P) 25 (f8) (hn 222 [ok l9 [(Vt "object")] [(r 222),(Vt "object")] 221 l9 [(r 292)] [none,none,some (Vs l9 358),some (Vs l9 366),some (Vu "object.__new__"),some (Vb true)]]++hn 255 [ot [(r 222)],fA,hD [e P n7 544 (Vs dN 341),e P n9 546 (Vs oV 545),e P dK 548 (Vi 123 547),e P du 555 (r 268),e P qC 562 (r 275),e P qD 571 (r 282),e P jS 580 (r 289),e P dM 588 (r 290),e P (cK 0x5f5f6c6c65637373616c635f5f) 589 (r 258)] 9,oc (Vt "cell") (some (r 292)),ot [],of Vn (gH 4 [125,267,138,274,141,281,144,288]),fN oV 539 123 259,fO 261 257 dN 341,ot [(r 258)],eX 552 [Gm],of Vn [],om (q2 16 0) Ag,iK du Ag 549 125 8 264 553,ow (q2 16 0) Ag [(Gm,258)] Vn (Vs dN 341) (r 267) (r 263)]))<|cY 269 16 1 qC (cK 0x746e756f635f65746174732e73656c6261546573726150) 556 138 1 [cW] dN 341<|cY 276 16 2 qD (cK 0x746963696c7078652e73656c6261546573726150) 563 141 3 [cW,gb,gV] dN 341<|cY 283 16 3 jS (cK 0x6f746f672e73656c6261546573726150) 572 144 3 [cW,gb,Gk] dN 341<|eg (hn 290 [eX 581 [tF,Ad,yM,iW,FJ,vL,yN],hD [e P n7 544 (Vs dN 341),e P dK 548 (Vi 123 547),e P du 555 (r 268),e P qC 562 (r 275),e P qD 571 (r 282),e P jS 580 (r 289),e P dM 588 (r 290),e P fP 590 Vn] 3,ok oV [(r 222)] [(r 292),(r 222),(Vt "object")] 291 oV [] [some (r 255),none,some (Vs oV 537),some (Vs oV 545),some (Vu "object.__new__"),some (Vb true)],fW 292,fj 292])<|gh 295 (q1 17) yO yO 593 146 3 [iW,gW,gV,(cK 0x6e776f),FK] dN 341 []) (t7 P)
abbrev s8:=mk t8 302 604
theorem p8:c9 w os 394 s7 16 2 ⟨112,0,122,77⟩=eR w os s8 ⟨146,0,161,15⟩:=by kernel_rfl
def f9:LU:=f8++[(V0 162),(V0 0),(r 307),(V0 225),(V0 0),(r 354)]
def g9:List DictEntry:=g8 P++[e P sx 679 (r 344),e P yS 690 (r 355)]
def t9:BT:=fm (eg (fG P dN 341 (g9 P) 27 (f9) (hn 302 [ot [],fA,hD [e P n7 611 (Vs dN 341),e P n9 613 (Vs sx 612),e P dK 615 (Vi 162 614),e P du 627 (r 315),e P yP 637 (r 322),e P yQ 648 (r 329),e P lj 658 (r 336),e P tF 664 (r 341),e P dM 672 (r 342)] 9,ot [],of Vn (gH 4 [164,314,182,321,191,328,204,335,215,340]),fN sx 606 162 305,fO 307 304 dN 341]))<|cY 309 18 0 du (cK 0x5f5f74696e695f5f2e72656b614d776f52) 616 164 4 [cW,iW,gb,FL,iM,gW] dN 341<|cY 316 18 1 yP (cK 0x736c6576656c5f656c747465732e72656b614d776f52) 628 182 1 [cW,qv,gV,tE] dN 341<|cY 323 18 2 yQ (cK 0x656e6f5f656c747465732e72656b614d776f52) 638 191 4 [cW,qv,gV,tE,Af] dN 341<|cY 330 18 3 lj (cK 0x776f722e72656b614d776f52) 649 204 1 [cW,lj,qv,gV] dN 341<|eg (hn 337 [ot [],of Vn [],om (q2 18 4) yR,iK tF yR 659 215 2 337 662,ow (q2 18 4) yR [] Vn (Vs dN 341) (r 340) Vn,eX 665 [(cK 0x646572726162),yM,iW,(cK 0x736b6f6f6c),jq,yN,(cK 0x737466696873)],hD [e P n7 611 (Vs dN 341),e P dK 615 (Vi 162 614),e P du 627 (r 315),e P yP 637 (r 322),e P yQ 648 (r 329),e P lj 658 (r 336),e P tF 664 (r 341),e P dM 672 (r 342),e P eE 674 (r 345),e P ew 676 (r 346),e P fP 677 Vn] 4,gQ sx 344 sx 604 612,iL eE 673 344,il ew 675 344,fW 344,fj 344])<|gh 349 (q1 19) yS yS 680 225 1 [lj,(cK 0x73746e756f63),jq,(cK 0x74736562),gW] dN 341 []) (t8 P)
abbrev s9:=mk t9 356 691
theorem p9:c9 w os 397 s8 18 2 ⟨146,0,161,15⟩=eR w os s9 ⟨225,0,236,15⟩:=by kernel_rfl
def DH:LU:=f9++[(V0 237),(V0 0),(r 359),(V0 239),(V0 0),(r 367),(V0 263),(V0 0),(r 374)]
def D6:List DictEntry:=g9 P++[e P sC 696 (r 360),e P sD 716 (r 368),e P (cK 0x7265766972645f524f525245) 720 (Vi 1 719),e P (cK 0x7265766972645f44454e494645444e55) 722 (Vi 2 721),e P sE 767 (r 399)]
def HY:BT:=fm (eg (fG P dE 717 (D6 P) 32 (DH) (hn 356 [ot [],of Vn [],om (q1 20) sC,iK sC sC 691 237 2 356 694,ow (q1 20) sC [] Vn (Vs dN 341) (r 359) Vn,eX 697 [(cK 0x726c616c)],ot [],of Vn [],eX 701 [vM,FL,(cK 0x73746c75616665645f68746977),FJ,vL,yM,Ad,tF,yN,gb,(cK 0x72656b616d),lj,gW],ot [],om (q1 21) sD,lU sD sD 698 239 4 362 714,ow (q1 21) sD [] (r 361) (Vs dN 341) (r 367) Vn,ot [],fA,hD [e P n7 730 (Vs dE 717),e P n9 732 (Vs sE 731),e P dK 734 (Vi 263 733),e P l4 742 (r 382),e P l5 752 (r 389),e P qw 759 (r 396),e P dM 760 (r 397)] 7,ot [],of Vn (gH 4 [265,381,268,388,271,395]),fN sE 725 263 372,fO 374 371 dE 717]))<|cY 376 25 0 l4 (cK 0x74666968732e72656c646e6148) 735 265 2 [cW,l6] dE 717<|cY 383 25 1 l5 (cK 0x6563756465722e72656c646e6148) 743 268 4 [cW,gW,vN,FM] dE 717<|cY 390 25 2 qw (cK 0x7265766f6365722e72656c646e6148) 753 271 1 [cW] dE 717<|(hn 397 [ot [],hD [e P n7 730 (Vs dE 717),e P dK 734 (Vi 263 733),e P l4 742 (r 382),e P l5 752 (r 389),e P qw 759 (r 396),e P dM 760 (r 397),e P eE 762 (r 400),e P ew 764 (r 401),e P fP 765 Vn] 4,gQ sE 399 sE 723 731,iL eE 761 399,il ew 763 399,fW 399,fj 399])) (t9 P)
abbrev He:=mk HY 404 768
theorem mZ:c9 w os 383 s9 20 6 ⟨225,0,236,15⟩=eR w os He ⟨263,0,272,16⟩:=by kernel_rfl
def DI:LU:=DH++[(V0 273),(V0 0),(r 409)]
def D7:List DictEntry:=D6 P++[e P sF 818 (r 435)]
def HZ:BT:=fm (eg (fG P dE 717 (D7 P) 33 (DI) (hn 404 [ot [],fA,hD [e P n7 775 (Vs dE 717),e P n9 777 (Vs sF 776),e P dK 779 (Vi 273 778),e P du 792 (r 418),e P iv 799 (r 425),e P yT 806 (r 432),e P dM 811 (r 433)] 7,ot [],of Vn (gH 4 [275,417,281,424,284,431]),fN sF 770 273 407,fO 409 406 dE 717,ot [(Vi (-1) 781)],ot [],of Vn [],eX 785 [cW,l6,gb,mW,FN],ot [],om (q2 26 0) yU,lU du yU 782 275 5 412 790,ow (q2 26 0) yU [] (r 411) (Vs dE 717) (r 417) Vn]))<|cY 419 26 1 iv (cK 0x646c6f742e746c756146) 793 281 1 [cW] dE 717<|cY 426 26 2 yT (cK 0x6567617373656d2e746c756146) 800 284 1 [cW] dE 717<|(hn 433 [eX 807 [mW,FN,gb,l6],hD [e P n7 775 (Vs dE 717),e P dK 779 (Vi 273 778),e P du 792 (r 418),e P iv 799 (r 425),e P yT 806 (r 432),e P dM 811 (r 433),e P eE 813 (r 436),e P ew 815 (r 437),e P fP 816 Vn] 4,gQ sF 435 sF 768 776,iL eE 812 435,il ew 814 435,fW 435,fj 435])) (HY P)
abbrev Hf:=mk HZ 440 819
theorem m4:c9 w os 298 He 26 1 ⟨263,0,272,16⟩=eR w os Hf ⟨273,0,285,16⟩:=by kernel_rfl
def DJ:LU:=DI++[(V0 286),(V0 0),(r 445)]
def D8:List DictEntry:=D7 P++[e P sG 860 (r 463)]
def H0:BT:=fm (eg (fG P dE 717 (D8 P) 34 (DJ) (hn 440 [ot [],fA,hD [e P n7 826 (Vs dE 717),e P n9 828 (Vs sG 827),e P dK 830 (Vi 286 829),e P du 841 (r 453),e P yV 848 (r 460),e P dM 853 (r 461)] 6,ot [],of Vn (gH 4 [288,452,294,459]),fN sG 821 286 443,fO 445 442 dE 717]))<|cY 447 27 0 du (cK 0x5f5f74696e695f5f2e656d6f6374754f) 831 288 5 [cW,FO,qx,yW,sH] dE 717<|cY 454 27 1 yV (cK 0x6e61656c635f73692e656d6f6374754f) 842 294 1 [cW] dE 717<|(hn 461 [eX 849 [FO,yW,sH,qx],hD [e P n7 826 (Vs dE 717),e P dK 830 (Vi 286 829),e P du 841 (r 453),e P yV 848 (r 460),e P dM 853 (r 461),e P eE 855 (r 464),e P ew 857 (r 465),e P fP 858 Vn] 4,gQ sG 463 sG 819 827,iL eE 854 463,il ew 856 463,fW 463,fj 463])) (HZ P)
abbrev Hg:=mk H0 468 861
theorem m5:c9 w os 260 Hf 27 1 ⟨273,0,285,16⟩=eR w os Hg ⟨286,0,295,50⟩:=by kernel_rfl
def DK:LU:=DJ++[(V0 296),(V0 0),(r 473)]
def D9:List DictEntry:=D8 P++[e P sI 1077 (r 630)]
def H2:BT:=fm (eg (fG P dE 717 (D9 P) 35 (DK) (hn 468 [ot [],fA,hD [e P n7 868 (Vs dE 717),e P n9 870 (Vs sI 869),e P dK 872 (Vi 296 871),e P du 883 (r 482),e P yX 890 (r 489),e P vO 897 (r 496),e P yY 905 (r 503),e P yZ 913 (r 510),e P y0 922 (r 517),e P y4 929 (r 524),e P qv 937 (r 531),e P y5 945 (r 538),e P y6 954 (r 545),e P y7 962 (r 552),e P y8 969 (r 559),e P y9 978 (r 566),e P za 989 (r 573),e P zb 997 (r 580),e P l4 1005 (r 587),e P l5 1017 (r 594),e P zc 1026 (r 601),e P zd 1036 (r 608),e P mW 1043 (r 615),e P ze 1049 (r 620),e P zf 1057 (r 627),e P dM 1070 (r 628)] 26,ot [],of Vn (gH 4 [298,481,305,488,315,495,318,502,321,509,324,516,335,523,338,530,342,537,347,544,351,551,356,558,359,565,363,572,381,579,384,586,390,593,400,600,403,607,410,614,413,619,417,626]),fN sI 863 296 471,fO 473 470 dE 717,ot [Vn,(Vi 5000 873)],ot [],of Vn [],eX 877 [cW,FR,FS,FT],ot [],om (q2 28 0) zh,lU du zh 874 298 4 476 881,ow (q2 28 0) zh [] (r 475) (Vs dE 717) (r 481) Vn]))<|cY 483 28 1 yX (cK 0x6e696765622e65726f43) 884 305 1 [cW] dE 717<|cY 490 28 2 vO (cK 0x656d6f6374756f2e65726f43) 891 315 1 [cW] dE 717<|cY 497 28 3 yY (cK 0x65737261702e65726f43) 898 318 2 [cW,(cK 0x736e656b6f74)] dE 717<|cY 504 28 4 yZ (cK 0x6c6c75702e65726f43) 906 321 2 [cW,(cK 0x656372756f73)] dE 717<|cY 511 28 5 y0 (cK 0x726566666f2e65726f43) 914 324 2 [cW,l6,(cK 0x6e656b61745f7369)] dE 717<|cY 518 28 6 y4 (cK 0x736465656e2e65726f43) 923 335 1 [cW] dE 717<|cY 525 28 7 qv (cK 0x6b6f6f6c2e65726f43) 930 338 2 [cW,l6] dE 717<|cY 532 28 8 y5 (cK 0x656c75725f656e6f6c2e65726f43) 938 342 2 [cW,gb] dE 717<|cY 539 28 9 y6 (cK 0x666f5f6c616e696d7265742e65726f43) 946 347 2 [cW,l6,jq] dE 717<|cY 546 28 10 y7 (cK 0x65746f6e2e65726f43) 955 351 2 [cW,FU] dE 717<|cY 553 28 11 y8 (cK 0x6563616c702e65726f43) 963 356 1 [cW] dE 717<|cY 560 28 12 y9 (cK 0x6873696e69662e65726f43) 970 359 3 [cW,FV,qx] dE 717<|cY 567 28 13 za (cK 0x706574732e65726f43) 979 363 1 [cW,gb,FW,gV,qE] dE 717<|cY 574 28 14 zb (cK 0x64656873696c62617473655f73692e65726f43) 990 381 2 [cW,gV] dE 717<|cY 581 28 15 l4 (cK 0x74666968732e65726f43) 998 384 2 [cW,FX] dE 717<|cY 588 28 16 l5 (cK 0x6563756465722e65726f43) 1006 390 2 [cW,gW,vT,(cK 0x7473726966),qx,(cK 0x7470656b)] dE 717<|cY 595 28 17 zc (cK 0x7463612e65726f43) 1018 400 3 [cW,gW,vN] dE 717<|cY 602 28 18 zd (cK 0x6e6f5f6f672e65726f43) 1027 403 3 [cW,gW,qx,FX] dE 717<|cY 609 28 19 mW (cK 0x64657463657078652e65726f43) 1037 410 1 [cW] dE 717<|eg (hn 616 [ot [],of Vn [],om (q2 28 20) zi,iK ze zi 1044 413 1 616 1047,ow (q2 28 20) zi [] Vn (Vs dE 717) (r 619) Vn])<|cY 621 28 21 zf (cK 0x6c6961662e65726f43) 1050 417 2 [cW,gV] dE 717<|(hn 628 [eX 1058 [FV,zj,yW,FS,FW,(cK 0x64656b6f6f6c),FT,sH,vP,FR,qx,vN],hD [e P n7 868 (Vs dE 717),e P dK 872 (Vi 296 871),e P du 883 (r 482),e P yX 890 (r 489),e P vO 897 (r 496),e P yY 905 (r 503),e P yZ 913 (r 510),e P y0 922 (r 517),e P y4 929 (r 524),e P qv 937 (r 531),e P y5 945 (r 538),e P y6 954 (r 545),e P y7 962 (r 552),e P y8 969 (r 559),e P y9 978 (r 566),e P za 989 (r 573),e P zb 997 (r 580),e P l4 1005 (r 587),e P l5 1017 (r 594),e P zc 1026 (r 601),e P zd 1036 (r 608),e P mW 1043 (r 615),e P ze 1049 (r 620),e P zf 1057 (r 627),e P dM 1070 (r 628),e P eE 1072 (r 631),e P ew 1074 (r 632),e P fP 1075 Vn] 4,gQ sI 630 sI 861 869,iL eE 1071 630,il ew 1073 630,fW 630,fj 630])) (H0 P)
abbrev Hh:=mk H2 635 1078
theorem m6:c9 w os 914 Hg 28 1 ⟨286,0,295,50⟩=eR w os Hh ⟨296,0,419,36⟩:=by kernel_rfl
def DL:LU:=DK++[(V0 423),(V0 0),(r 641)]
def Ea:List DictEntry:=D9 P++[e P (cK 0x72616d6d6172675f444e45) 1081 (Vi 0 1080),e P (cK 0x534c414e494d5245545f4e574f) 1085 (r 635),e P sJ 1130 (r 653)]
def H3:BT:=fm (fG P fQ 1078 (Ea P) 38 (DL) (hn 635 [eX 1082 [(cK 0x646e6524),(cK 0x726f727265),(cK 0x64656e696665646e7524)],ot [],fA,hD [e P n7 1093 (Vs fQ 1078),e P n9 1095 (Vs sJ 1094),e P dK 1097 (Vi 423 1096),e P du 1115 (r 650),e P dM 1123 (r 651)] 5,ot [],of Vn (gH 4 [425,649]),fN sJ 1088 423 639,fO 641 638 fQ 1078,ot [(Vi (-1) 1099),Vn,(Vi 0 1100),(Vi 0 1101)],ot [],of Vn [],eX 1105 [cW,jq,oU,qy,FY,qE,zk,tB],ot [],om (q2 32 0) zl,lU du zl 1102 425 8 644 1113,ow (q2 32 0) zl [] (r 643) (Vs fQ 1078) (r 649) Vn,eX 1116 [qE,tB,oU,FY,zk,jq,qy],hD [e P n7 1093 (Vs fQ 1078),e P dK 1097 (Vi 423 1096),e P du 1115 (r 650),e P dM 1123 (r 651),e P eE 1125 (r 654),e P ew 1127 (r 655),e P fP 1128 Vn] 4,gQ sJ 653 sJ 1086 1094,iL eE 1124 653,il ew 1126 653,fW 653,fj 653])) (H2 P)
abbrev Hi:=mk H3 658 1131
theorem m7:c9 w os 275 Hh 29 4 ⟨296,0,419,36⟩=eR w os Hi ⟨423,0,432,28⟩:=by kernel_rfl
def DM:LU:=DL++[(V0 433),(V0 0),(r 663)]
def Eb:List DictEntry:=Ea P++[e P sM 1240 (r 735)]
def H4:BT:=fm (eg (fG P fQ 1078 (Eb P) 39 (DM) (hn 658 [ot [],fA,hD [e P n7 1138 (Vs fQ 1078),e P n9 1140 (Vs sM 1139),e P dK 1142 (Vi 433 1141),e P du 1148 (r 669),e P zm 1155 (r 676),e P zo 1163 (r 683),e P zp 1171 (r 690),e P jq 1179 (r 697),e P zq 1187 (r 704),e P kD 1196 (r 711),e P zr 1204 (r 718),e P zt 1212 (r 725),e P zu 1222 (r 732),e P dM 1233 (r 733)] 14,ot [],of Vn (gH 4 [435,668,451,675,454,682,457,689,460,696,463,703,466,710,469,717,472,724,475,731]),fN sM 1133 433 661,fO 663 660 fQ 1078,ot [],of Vn [],om (q2 33 0) zv,iK du zv 1143 435 7 665 1146,ow (q2 33 0) zv [] Vn (Vs fQ 1078) (r 668) Vn]))<|cY 670 33 1 zm (cK 0x746e756f635f6c6f626d79732e72616d6d617247) 1149 451 1 [cW] fQ 1078<|cY 677 33 2 zo (cK 0x6c616e696d7265745f73692e72616d6d617247) 1156 454 2 [cW,iM] fQ 1078<|cY 684 33 3 zp (cK 0x656c6464696d5f73692e72616d6d617247) 1164 457 2 [cW,iM] fQ 1078<|cY 691 33 4 jq (cK 0x7265626d756e2e72616d6d617247) 1172 460 2 [cW,qG] fQ 1078<|cY 698 33 5 zq (cK 0x666f5f73656c75722e72616d6d617247) 1180 463 2 [cW,iM] fQ 1078<|cY 705 33 6 kD (cK 0x6d6574692e72616d6d617247) 1188 466 3 [cW,gW,FZ] fQ 1078<|cY 712 33 7 zr (cK 0x666f5f656c75722e72616d6d617247) 1197 469 2 [cW,kD] fQ 1078<|cY 719 33 8 zt (cK 0x666f5f746f642e72616d6d617247) 1205 472 2 [cW,kD] fQ 1078<|cY 726 33 9 zu (cK 0x72657466612e72616d6d617247) 1213 475 2 [cW,kD,qy,FZ] fQ 1078<|(hn 733 [eX 1223 [(cK 0x7466656c5f7962),(cK 0x746365707865),(cK 0x746e756f635f6d657469),(cK 0x736c6576656c),tC,(cK 0x7374657366666f),(cK 0x7372656e776f),Ae,F0,vU],hD [e P n7 1138 (Vs fQ 1078),e P dK 1142 (Vi 433 1141),e P du 1148 (r 669),e P zm 1155 (r 676),e P zo 1163 (r 683),e P zp 1171 (r 690),e P jq 1179 (r 697),e P zq 1187 (r 704),e P kD 1196 (r 711),e P zr 1204 (r 718),e P zt 1212 (r 725),e P zu 1222 (r 732),e P dM 1233 (r 733),e P eE 1235 (r 736),e P ew 1237 (r 737),e P fP 1238 Vn] 4,gQ sM 735 sM 1131 1139,iL eE 1234 735,il ew 1236 735,fW 735,fj 735])) (H3 P)
abbrev Hj:=mk H4 740 1241
theorem R5:c9 w os 518 Hi 33 1 ⟨423,0,432,28⟩=eR w os Hj ⟨433,0,478,53⟩:=by kernel_rfl
def DN:LU:=DM++[(V0 479),(V0 0),(r 744),(V0 485),(V0 0),(r 751),(V0 491),(V0 0),(r 757),(V0 513),(V0 0),(r 764),(V0 527),(V0 0),(r 771)]
def Ec:List DictEntry:=Eb P++[e P sN 1248 (r 745),e P zw 1258 (r 752),e P sO 1264 (r 758),e P zx 1277 (r 765),e P zy 1289 (r 772),e P (cK 0x454e4f4e) 1294 (Vi (-1) 1293)]
def H5:BT:=fm (eg (fG P d0 1290 (Ec P) 45 (DN) (hn 740 [ot [(Vi (-1) 1242)],ot [],of Vn [],om (q1 34) sN,iK sN sN 1243 479 3 741 1246,ow (q1 34) sN [] (r 740) (Vs fQ 1078) (r 744) Vn]))<|gh 746 (q1 35) zw zw 1249 485 2 [qy,vU,kF,iM] fQ 1078<|eg (hn 753 [ot [Vn],ot [],of Vn [],om (q1 36) sO,iK sO sO 1259 491 2 754 1262,ow (q1 36) sO [] (r 753) (Vs fQ 1078) (r 757) Vn])<|gh 759 (q1 37) zx zx 1265 513 2 [iW,sP,(cK 0x6d726f66),F8,jq,gW,oR] fQ 1078<|gh 766 (q1 39) zy zy 1280 527 1 [vL,kF,(cK 0x656c6464696d),sQ] (cK 0x736973796c616e612e6c6c696d72616d6d617267) 1278 []) (H4 P)
abbrev Hk:=mk H5 773 1295
theorem R6:c9 w os 192 Hj 34 8 ⟨433,0,478,53⟩=eR w os Hk ⟨535,0,535,4⟩:=by kernel_rfl
def DO:LU:=DN++[(V0 536),(V0 0),(r 778)]
def Ed:List DictEntry:=Ec P++[e P sR 1345 (r 803)]
def H6:BT:=fm (eg (fG P d0 1290 (Ed P) 46 (DO) (hn 773 [ot [],fA,hD [e P n7 1302 (Vs d0 1290),e P n9 1304 (Vs sR 1303),e P dK 1306 (Vi 536 1305),e P du 1316 (r 786),e P jS 1324 (r 793),e P qF 1331 (r 800),e P dM 1338 (r 801)] 7,ot [],of Vn (gH 4 [538,785,546,792,549,799]),fN sR 1297 536 776,fO 778 775 d0 1290]))<|cY 780 42 0 du (cK 0x5f5f74696e695f5f2e6574617453724c) 1307 538 4 [cW,jq,qz,iM] d0 1290<|cY 787 42 1 jS (cK 0x6f746f672e6574617453724c) 1317 546 2 [cW,iM] d0 1290<|cY 794 42 2 qF (cK 0x746e65747369736e6f635f73692e6574617453724c) 1325 549 1 [cW] d0 1290<|(hn 801 [eX 1332 [zA,qz,sH,jq,sP,iM],hD [e P n7 1302 (Vs d0 1290),e P dK 1306 (Vi 536 1305),e P du 1316 (r 786),e P jS 1324 (r 793),e P qF 1331 (r 800),e P dM 1338 (r 801),e P eE 1340 (r 804),e P ew 1342 (r 805),e P fP 1343 Vn] 4,gQ sR 803 sR 1295 1303,iL eE 1339 803,il ew 1341 803,fW 803,fj 803])) (H5 P)
abbrev Hl:=mk H6 808 1346
theorem R7:c9 w os 293 Hk 42 1 ⟨535,0,535,4⟩=eR w os Hl ⟨536,0,552,61⟩:=by kernel_rfl
def DP:LU:=DO++[(V0 553),(V0 0),(r 813),(V0 582),(V0 0),(r 855),(V0 584),(V0 0),(r 862)]
def Ee:List DictEntry:=Ed P++[e P sT 1408 (r 845),e P zD 1416 (r 856),e P zE 1428 (r 863)]
def H7:BT:=fm (eg (fG P d0 1290 (Ee P) 49 (DP) (hn 808 [ot [],fA,hD [e P n7 1353 (Vs d0 1290),e P n9 1355 (Vs sT 1354),e P dK 1357 (Vi 553 1356),e P du 1367 (r 821),e P vQ 1378 (r 828),e P zB 1390 (r 835),e P zC 1398 (r 842),e P dM 1401 (r 843)] 8,ot [],of Vn (gH 4 [555,820,563,827,571,834,580,841]),fN sT 1348 553 811,fO 813 810 d0 1290]))<|cY 815 43 0 du (cK 0x5f5f74696e695f5f2e7265736f6c43) 1358 555 2 [cW,iW,vL,gW] d0 1290<|cY 822 43 1 vQ (cK 0x6465746e61772e7265736f6c43) 1368 563 2 [cW,qz,Aa,kD,iM] d0 1290<|cY 829 43 2 zB (cK 0x64656464612e7265736f6c43) 1379 571 2 [cW,qz,kF,iM,jq,kD] d0 1290<|cY 836 43 3 zC (cK 0x65736f6c632e7265736f6c43) 1391 580 2 [cW,qz] d0 1290<|eg (hn 843 [eX 1399 [(cK 0x737473726966),iW],hD [e P n7 1353 (Vs d0 1290),e P dK 1357 (Vi 553 1356),e P du 1367 (r 821),e P vQ 1378 (r 828),e P zB 1390 (r 835),e P zC 1398 (r 842),e P dM 1401 (r 843),e P eE 1403 (r 846),e P ew 1405 (r 847),e P fP 1406 Vn] 4,gQ sT 845 sT 1346 1354,iL eE 1402 845,il ew 1404 845,fW 845,fj 845])<|gh 850 (q1 44) zD zD 1409 582 2 [iW,kD] d0 1290<|gh 857 (q1 45) zE zE 1417 584 2 [iW,zA,kF,kD,iM,(cK 0x6465726564726f)] d0 1290 []) (H6 P)
abbrev Hm:=mk H7 864 1429
theorem R8:c9 w os 393 Hl 43 3 ⟨536,0,552,61⟩=eR w os Hm ⟨584,0,595,18⟩:=by kernel_rfl
def DQ:LU:=DP++[(V0 596),(V0 0),(r 869)]
def Ef:List DictEntry:=Ee P++[e P zF 1438 (r 870)]
def H8:BT:=fm (eg (fG P d0 1290 (Ef P) 50 (DQ) [])<|gh 864 (q1 46) zF zF 1429 596 2 [iW,zA,kF,kD] d0 1290 []) (H7 P)
abbrev Hn:=mk H8 871 1439
theorem R9:c9 w os 33 Hm 46 1 ⟨584,0,595,18⟩=eR w os Hn ⟨596,0,601,24⟩:=by kernel_rfl
def DR:LU:=DQ++[(V0 602),(V0 0),(r 876)]
def Eg:List DictEntry:=Ef P++[e P sU 1515 (r 922)]
def H9:BT:=fm (eg (fG P d0 1290 (Eg P) 51 (DR) (hn 871 [ot [],fA,hD [e P n7 1446 (Vs d0 1290),e P n9 1448 (Vs sU 1447),e P dK 1450 (Vi 602 1449),e P du 1459 (r 884),e P jS 1468 (r 891),e P zG 1479 (r 898),e P vR 1491 (r 905),e P zH 1498 (r 912),e P zI 1505 (r 919),e P dM 1508 (r 920)] 10,ot [],of Vn (gH 4 [604,883,608,890,611,897,619,904,628,911,631,918]),fN sU 1441 602 874,fO 876 873 d0 1290]))<|cY 878 47 0 du (cK 0x5f5f74696e695f5f2e6e6f74616d6f747541) 1451 604 3 [cW,iW,vP] d0 1290<|cY 885 47 1 jS (cK 0x6f746f672e6e6f74616d6f747541) 1460 608 3 [cW,gb,iM] d0 1290<|cY 892 47 2 zG (cK 0x6b6c61772e6e6f74616d6f747541) 1469 611 3 [cW,gb,zJ,F9,iM] d0 1290<|cY 899 47 3 vR (cK 0x687461702e6e6f74616d6f747541) 1480 619 3 [cW,gb,zJ,kF,iM,F9] d0 1290<|cY 906 47 4 zH (cK 0x65746174735f6c616e69662e6e6f74616d6f747541) 1492 628 1 [cW] d0 1290<|cY 913 47 5 zI (cK 0x746e756f635f6e6f697469736e6172742e6e6f74616d6f747541) 1499 631 1 [cW] d0 1290<|(hn 920 [eX 1506 [iW,vP],hD [e P n7 1446 (Vs d0 1290),e P dK 1450 (Vi 602 1449),e P du 1459 (r 884),e P jS 1468 (r 891),e P zG 1479 (r 898),e P vR 1491 (r 905),e P zH 1498 (r 912),e P zI 1505 (r 919),e P dM 1508 (r 920),e P eE 1510 (r 923),e P ew 1512 (r 924),e P fP 1513 Vn] 4,gQ sU 922 sU 1439 1447,iL eE 1509 922,il ew 1511 922,fW 922,fj 922])) (H8 P)
abbrev Ho:=mk H9 927 1516
theorem Sa:c9 w os 391 Hn 47 1 ⟨596,0,601,24⟩=eR w os Ho ⟨602,0,632,16⟩:=by kernel_rfl
def DS:LU:=DR++[(V0 633),(V0 0),(r 932),(V0 661),(V0 0),(r 974)]
def Eh:List DictEntry:=Eg P++[e P sW 1574 (r 964),e P zN 1581 (r 975)]
def Ia:BT:=fm (eg (fG P eM 1582 (Eh P) 53 (DS) (hn 927 [ot [],fA,hD [e P n7 1523 (Vs d0 1290),e P n9 1525 (Vs sW 1524),e P dK 1527 (Vi 633 1526),e P du 1535 (r 940),e P zK 1544 (r 947),e P zL 1554 (r 954),e P zM 1562 (r 961),e P dM 1567 (r 962)] 8,ot [],of Vn (gH 4 [635,939,641,946,647,953,654,960]),fN sW 1518 633 930,fO 932 929 d0 1290]))<|cY 934 48 0 du (cK 0x5f5f74696e695f5f2e7265646c697542) 1528 635 2 [cW,iW] d0 1290<|cY 941 48 1 zK (cK 0x666f5f7265626d756e2e7265646c697542) 1536 641 3 [cW,qz,iM] d0 1290<|cY 948 48 2 zL (cK 0x646e617078652e7265646c697542) 1545 647 2 [cW,gb,Ga,iM] d0 1290<|cY 955 48 3 zM (cK 0x746c6975622e7265646c697542) 1555 654 1 [cW,oR] d0 1290<|eg (hn 962 [eX 1563 [(cK 0x7265736f6c63),iW,Gl,vP],hD [e P n7 1523 (Vs d0 1290),e P dK 1527 (Vi 633 1526),e P du 1535 (r 940),e P zK 1544 (r 947),e P zL 1554 (r 954),e P zM 1562 (r 961),e P dM 1567 (r 962),e P eE 1569 (r 965),e P ew 1571 (r 966),e P fP 1572 Vn] 4,gQ sW 964 sW 1516 1524,iL eE 1568 964,il ew 1570 964,fW 964,fj 964])<|gh 969 (q1 49) zN zN 1575 661 1 [iW] d0 1290 []) (H9 P)
abbrev Hp:=mk Ia 976 1584
theorem Sb:c9 w os 363 Ho 48 3 ⟨602,0,632,16⟩=eR w os Hp ⟨663,0,663,8⟩:=by kernel_rfl
def DT:LU:=DS++[(V0 664),(V0 0),(r 981)]
def Ei:List DictEntry:=Eh P++[e P l7 1666 (r 1037)]
def Ib:BT:=fm (eg (fG P eM 1582 (Ei P) 54 (DT) (hn 976 [ot [],fA,hD [e P n7 1591 (Vs eM 1582),e P n9 1593 (Vs l7 1592),e P dK 1595 (Vi 664 1594),e P du 1605 (r 989),e P qA 1612 (r 996),e P qB 1619 (r 1003),e P iv 1629 (r 1010),e P zO 1635 (r 1015),e P sP 1641 (r 1020),e P zP 1648 (r 1027),e P zQ 1655 (r 1034),e P dM 1659 (r 1035)] 12,ot [],of Vn (gH 4 [666,988,671,995,674,1002,677,1009,687,1014,690,1019,693,1026,696,1033]),fN l7 1586 664 979,fO 981 978 eM 1582]))<|cY 983 51 0 du (cK 0x5f5f74696e695f5f2e65657254) 1596 666 4 [cW,qG,gW,zR] eM 1582<|cY 990 51 1 qA (cK 0x6661656c5f73692e65657254) 1606 671 1 [cW] eM 1582<|cY 997 51 2 qB (cK 0x646165682e65657254) 1613 674 1 [cW] eM 1582<|cY 1004 51 3 iv (cK 0x646c6f742e65657254) 1620 677 1 [cW,(cK 0x656e6f64),Gb,F0] eM 1582<|eg (hn 1011 [ot [],of Vn [],om (q2 51 4) zS,iK zO zS 1630 687 1 1011 1633,ow (q2 51 4) zS [] Vn (Vs eM 1582) (r 1014) Vn,ot [],of Vn [],om (q2 51 5) zT,iK sP zT 1636 690 1 1016 1639,ow (q2 51 5) zT [] Vn (Vs eM 1582) (r 1019) Vn])<|cY 1021 51 6 zP (cK 0x7468676965682e65657254) 1642 693 1 [cW] eM 1582<|cY 1028 51 7 zQ (cK 0x776f68732e65657254) 1649 696 1 [cW] eM 1582<|(hn 1035 [eX 1656 [zR,qG,gW],hD [e P n7 1591 (Vs eM 1582),e P dK 1595 (Vi 664 1594),e P du 1605 (r 989),e P qA 1612 (r 996),e P qB 1619 (r 1003),e P iv 1629 (r 1010),e P zO 1635 (r 1015),e P sP 1641 (r 1020),e P zP 1648 (r 1027),e P zQ 1655 (r 1034),e P dM 1659 (r 1035),e P eE 1661 (r 1038),e P ew 1663 (r 1039),e P fP 1664 Vn] 4,gQ l7 1037 l7 1584 1592,iL eE 1660 1037,il ew 1662 1037,fW 1037,fj 1037])) (Ia P)
abbrev Hq:=mk Ib 1042 1667
theorem Sd:c9 w os 441 Hp 51 1 ⟨663,0,663,8⟩=eR w os Hq ⟨664,0,697,17⟩:=by kernel_rfl
def DU:LU:=DT++[(V0 698),(V0 0),(r 1047),(V0 711),(V0 0),(r 1080),(V0 720),(V0 0),(r 1085)]
def Ej:List DictEntry:=Ei P++[e P oS 1708 (r 1072),e P zV 1719 (r 1081),e P sZ 1725 (r 1086)]
def Ic:BT:=fm (eg (fG P eM 1582 (Ej P) 57 (DU) (hn 1037 [ok l7 [(Vt "object")] [(r 1037),(Vt "object")] 1036 l7 [(r 1072)] [none,none,some (Vs l7 1584),some (Vs l7 1592),some (Vu "object.__new__"),some (Vb true)]]++hn 1042 [ot [(r 1037)],fA,hD [e P n7 1674 (Vs eM 1582),e P n9 1676 (Vs oS 1675),e P dK 1678 (Vi 698 1677),e P du 1686 (r 1055),e P qA 1693 (r 1062),e P qB 1700 (r 1069),e P dM 1705 (r 1070)] 7,ot [],of Vn (gH 4 [700,1054,706,1061,709,1068]),fN oS 1669 698 1045,fO 1047 1044 eM 1582]))<|cY 1049 52 0 du (cK 0x5f5f74696e695f5f2e6661654c) 1679 700 2 [cW,l6] eM 1582<|cY 1056 52 1 qA (cK 0x6661656c5f73692e6661654c) 1687 706 1 [cW] eM 1582<|cY 1063 52 2 qB (cK 0x646165682e6661654c) 1694 709 1 [cW] eM 1582<|eg (hn 1070 [eX 1701 [zR,qG,gW,l6],hD [e P n7 1674 (Vs eM 1582),e P dK 1678 (Vi 698 1677),e P du 1686 (r 1055),e P qA 1693 (r 1062),e P qB 1700 (r 1069),e P dM 1705 (r 1070),e P fP 1706 Vn] 2,ok oS [(r 1037)] [(r 1072),(r 1037),(Vt "object")] 1071 oS [] [some (r 1042),none,some (Vs oS 1667),some (Vs oS 1675),some (Vu "object.__new__"),some (Vb true)],fW 1072,fj 1072])<|gh 1075 (q1 53) zV zV 1709 711 1 [(cK 0x65657274),kF,zk,Gb,(cK 0x646c696863)] eM 1582<|(hn 1082 [ot [],of Vn [],om (q1 54) sZ,iK sZ sZ 1720 720 1 1082 1723,ow (q1 54) sZ [] Vn (Vs eM 1582) (r 1085) Vn])) (Ib P)
abbrev Hr:=mk Ic 1087 1726
theorem Se:c9 w os 370 Hq 52 3 ⟨664,0,697,17⟩=eR w os Hr ⟨720,0,729,16⟩:=by kernel_rfl
def DW:LU:=DU++[(V0 730),(V0 0),(r 1092),(V0 746),(V0 0),(r 1132),(V0 749),(V0 0),(r 1139)]
def Ek:List DictEntry:=Ej P++[e P te 1780 (r 1124),e P tj 1786 (r 1133),e P zX 1795 (r 1140)]
def Ie:BT:=fm (eg (fG P iX 1787 (Ek P) 60 (DW) (hn 1087 [ot [],fA,hD [e P n7 1733 (Vs eM 1582),e P n9 1735 (Vs te 1734),e P dK 1737 (Vi 730 1736),e P du 1745 (r 1100),e P l4 1753 (r 1107),e P l5 1764 (r 1114),e P qw 1771 (r 1121),e P dM 1773 (r 1122)] 8,ot [],of Vn (gH 4 [732,1099,735,1106,738,1113,744,1120]),fN te 1728 730 1090,fO 1092 1089 eM 1582]))<|cY 1094 55 0 du (cK 0x5f5f74696e695f5f2e72656c646e614865657254) 1738 732 2 [cW,tC] eM 1582<|cY 1101 55 1 l4 (cK 0x74666968732e72656c646e614865657254) 1746 735 2 [cW,l6] eM 1582<|cY 1108 55 2 l5 (cK 0x6563756465722e72656c646e614865657254) 1754 738 4 [cW,gW,vN,FM,qG] eM 1582<|cY 1115 55 3 qw (cK 0x7265766f6365722e72656c646e614865657254) 1765 744 1 [cW] eM 1582<|eg (hn 1122 [eX 1772 [tC],hD [e P n7 1733 (Vs eM 1582),e P dK 1737 (Vi 730 1736),e P du 1745 (r 1100),e P l4 1753 (r 1107),e P l5 1764 (r 1114),e P qw 1771 (r 1121),e P dM 1773 (r 1122),e P eE 1775 (r 1125),e P ew 1777 (r 1126),e P fP 1778 Vn] 4,gQ te 1124 te 1726 1734,iL eE 1774 1124,il ew 1776 1124,fW 1124,fj 1124,ot [],of Vn [],om (q1 56) tj,iK tj tj 1781 746 1 1129 1784,ow (q1 56) tj [] Vn (Vs eM 1582) (r 1132) Vn])<|gh 1134 (q1 58) zX zX 1789 749 1 [(cK 0x747069726373)] iX 1787 []) (Ic P)
abbrev Hs:=mk Ie 1141 1796
theorem Sf:c9 w os 385 Hr 55 4 ⟨720,0,729,16⟩=eR w os Hs ⟨749,0,750,36⟩:=by kernel_rfl
def NA:LU:=DW++[(V0 751),(V0 0),(r 1146),(V0 769),(V0 0),(r 1151),(V0 776),(V0 0),(r 1156),(V0 785),(V0 0),(r 1161),(V0 809),(V0 0),(r 1168),(V0 818),(V0 0),(r 1175),(V0 833),(V0 0),(r 1182),(V0 857),(V0 0),(r 1189),(V0 865),(V0 0),(r 1196),(V0 876),(V0 0),(r 1201),(V0 888),(V0 0),(r 1208),(V0 900),(V0 0),(r 1213)]
def NY:List DictEntry:=Ek P++[e P zY 1807 (r 1147),e P tm 1813 (r 1152),e P tq 1819 (r 1157),e P tu 1825 (r 1162),e P zZ 1837 (r 1169),e P z0 1854 (r 1176),e P z4 1871 (r 1183),e P z6 1884 (r 1190),e P z7 1900 (r 1197),e P tw 1906 (r 1202),e P z8 1918 (r 1209),e P tA 1924 (r 1214)]
def jW:BT:=fm (eg (fG P iX 1787 (NY P) 72 (NA) [])<|gh 1141 (q1 59) zY zY 1796 751 2 [Gc,(cK 0x796e616d),(cK 0x7469676964),(cK 0x746f7073),(cK 0x6c6c6563),(cK 0x78696d)] iX 1787<|eg (hn 1148 [ot [],of Vn [],om (q1 60) tm,iK tm tm 1808 769 1 1148 1811,ow (q1 60) tm [] Vn (Vs iX 1787) (r 1151) Vn,ot [],of Vn [],om (q1 61) tq,iK tq tq 1814 776 2 1153 1817,ow (q1 61) tq [] Vn (Vs iX 1787) (r 1156) Vn,ot [],of Vn [],om (q1 62) tu,iK tu tu 1820 785 1 1158 1823,ow (q1 62) tu [] Vn (Vs iX 1787) (r 1161) Vn])<|gh 1163 (q1 63) zZ zZ 1826 809 3 [qy,(cK 0x7364616568),(cK 0x73656974706d65),kF,sQ,FK] iX 1787<|gh 1170 (q1 64) z0 z0 1838 818 4 [Gc,tE,vM,vS,(cK 0x646e756f7267),Ga,kF,gb,jq,Aa,sQ] iX 1787<|gh 1177 (q1 65) z4 z4 1855 833 3 [vS,sH,lj,zJ,zj,F8,(cK 0x64657375),(cK 0x7265766f5f7369),FU,oU,qy] iX 1787<|gh 1184 (q1 66) z6 z6 1872 857 4 [z5,vM,vS,lj,(cK 0x6e656573),vR,sQ] iX 1787<|gh 1191 (q1 67) z7 z7 1885 865 5 [vO,z5,Gg,zj,lj,zW,gb,vQ,gV,(cK 0x7972746e65)] iX 1787<|eg (hn 1198 [ot [],of Vn [],om (q1 68) tw,iK tw tw 1901 876 4 1198 1904,ow (q1 68) tw [] Vn (Vs iX 1787) (r 1201) Vn])<|gh 1203 (q1 69) z8 z8 1907 888 4 [Gg,vM,vS,lj,z5,sQ] iX 1787<|(hn 1210 [ot [],of Vn [],om (q1 70) tA,iK tA tA 1919 900 1 1210 1922,ow (q1 70) tA [] Vn (Vs iX 1787) (r 1213) Vn])) (Ie P)
abbrev qP:=mk jW 1215 1925
theorem Sg:c9 w os 384 Hs 59 12 ⟨749,0,750,36⟩=eR w os qP ⟨900,0,912,15⟩:=by kernel_rfl
end
theorem Iz:∀(k:Nat)(l:List Stmt),qV k l++gq k l=l
 |0,_=>rfl
 |_+1,[]=>rfl
 |k+1,a::l=>by rw[qV,gq,List.cons_append,Iz k l]
theorem Du:∀(i k:Nat)(l:List Stmt),gq k (gq i l)=gq (i+k) l
 |0,k,l=>by rw[gq,bA]
 |_+1,0,[]=>by simp[gq]
 |_+1,_+1,[]=>by simp[gq]
 |i+1,k,a::l=>by rw[show i+1+k=i+k+1 by omega];show gq k (gq i l)=_;rw[Du i k l];rfl
theorem Uv:@segRunT=Bk:=PySem.W.Fast.te10110043849684766642
theorem It:treeTable=tT:=PySem.W.Fast.te14364793385576792824
theorem Nh:@execs=eT:=PySem.W.Fast.te12563942051412417395
theorem fB{w:World}{i k n N:Nat}{s s':SharedT}{r:Shared}{p U:Pos}(h:Bk tT Pq w 11 ann 1 n s (th i k p)=some (.next,s',cE,U))
 (q:topRun treeTable Pq w 11 ann N s'.abs (restOf (gq (i+k) Pq.main.body) en cE U [topFrame p0])=some r):
 topRun treeTable Pq w 11 ann (n+N) s.abs (restOf (gq i Pq.main.body) en cE p [topFrame p0])=some r:=by
 rw[←Uv,←It] at h
 unfold th at h
 rw[←Nh] at h
 have O:=segRun_of h
 have:=piece_app (rest:=gq k (gq i Pq.main.body)) (l:=qV k (gq i Pq.main.body)) O (by rw[Du];exact q)
 rwa [Iz] at this
def H1(P:Params):Heap:=absHeap (jW P) 1215 (boot_heap P).life
theorem NH(w:World)(os:OsState)(c:Code):topRun treeTable Pq w 11 ann 2 (qP w os).abs (restOf (gq 71 Pq.main.body) en cE ⟨900,0,912,15⟩ [topFrame p0])=some (qP w os).abs:=by
 have e:gq 71 Pq.main.body=[]:=by kernel_rfl
 rw[e]
 refine piece_nil ?_
 kernel_rfl
theorem Mp(w:World)(os:OsState):topRun treeTable Pq w 11 ann (301+(214+(214+(214+(395+(593+(262+(394+(397+(383+(298+(260+(914+(275+(518+(192+(293+(393+(33+(391+(363+(441+(370+(385+(384+2))))))))))))))))))))))))) (s0 w os).abs (restOf (gq 0 Pq.main.body) en cE ⟨0,0,0,0⟩ [topFrame p0])=some (qP w os).abs:=
 (fB (p1 w os) (fB (p2 w os) (fB (p3 w os) (fB (p4 w os) (fB (p5 w os) (fB (p6 w os) (fB (p7 w os) (fB (p8 w os) (fB (p9 w os) (fB (mZ w os) (fB (m4 w os) (fB (m5 w os) (fB (m6 w os) (fB (m7 w os) (fB (R5 w os) (fB (R6 w os) (fB (R7 w os) (fB (R8 w os) (fB (R9 w os) (fB (Sa w os) (fB (Sb w os) (fB (Sd w os) (fB (Se w os) (fB (Sf w os) (fB (Sg w os) (NH w os cE))))))))))))))))))))))))))
theorem Mq(w:World)(os:OsState):topRun treeTable Pq w 11 ann 8879 (s0 w os).abs (restOf Pq.main.body en cE ⟨0,0,0,0⟩ [topFrame p0])=some (qP w os).abs:=Mp w os
noncomputable abbrev N7:=PySem.W.Fast.tw15667345088766844465
theorem N8:@topGo=N7:=PySem.W.Fast.te15667345088766844465
noncomputable abbrev dT:=PySem.W.Fast.tw11892475500146522536
theorem M3:@denote=dT:=PySem.W.Fast.te11892475500146522536
theorem Ta(w:World)(os:OsState):topGo treeTable Pq w 11 ann 12 ⟨boot_heap w.params,Array.mk [],boot_drawn,boot_toks,os⟩ (topStub Pq)=some ((s0 w os).abs,⟨denote treeTable cE,cE,p0,[topFrame p0]⟩):=by
 rw[N8,It,M3]
 kernel_rfl
theorem Kl(w:World)(os:OsState):segRun treeTable Pq w 11 ann 1 1 (s0 w os).abs (blockOf Pq.main.body en cE p0 [topFrame p0])=some (.next,(s0 w os).abs,cE,p0):=by
 kernel_rfl
theorem whole_run(w:World)(os:OsState):topRun treeTable Pq w 11 ann 8892 ⟨boot_heap w.params,Array.mk [],boot_drawn,boot_toks,os⟩ (topStub Pq)=some (qP w os).abs:=by
 have b:=piece_block (Kl w os) (Mq w os)
 exact go_top (Ta w os) b
theorem UU(w:World):((boot_heap w.params).isNs mainGlobals&&(Array.mk []:Array GenState).size==0,(boot_heap w.params).objs.size,(boot_heap w.params).nsMap mainGlobals "__annotations__")=(true,11,ann):=by
 kernel_rfl
noncomputable def Om:LX->Option Str
|[.Name n _]=>some n
|_=>none
def yg(s:Stmt):Option Str:=tP none (λn _ _ _ _=>some n) (λn _=>some n) Om s
def loose:LQ:=(qV 70 Pq.main.body).filterMap yg
def Qv:Program:={Pq with main:={Pq.main with body:=[q1 70]}}
noncomputable abbrev oT:=PySem.W.Fast.tw4187177175401517315
theorem RQ:@openSeen=@oT:=PySem.W.Fast.te4187177175401517315
def S1(w:World)(os:OsState):Shared:=⟨H1 w.params,Array.mk [],boot_drawn,1925,os⟩
theorem Qr(w:World):staticsOk (importedModules Pq.main.body) (boot_heap w.params) (H1 w.params)=true:=by kernel_rfl
theorem Qp(w:World):namesBound Pq (H1 w.params)=true:=by kernel_rfl
theorem Qn(w:World):laidKept (boot_heap w.params) (H1 w.params)=true:=by kernel_rfl
theorem Qq(w:World)(os:OsState):oT Qv loose [] (λ_=>true) true (S1 w os)=openGood Qv loose:=by kernel_rfl
theorem Qo:importedModules Pq.main.body=[]:=by kernel_rfl
theorem QG:LeftO Pq Qv loose (λ_=>true) (λs=>s.heap) (λw=>H1 w.params) 9000:=by
 refine LeftO.of_pieces (H₀:=boot_heap) (H₁:=H1) (gs₀:=Array.mk []) (gs₁:=Array.mk []) (d₀:=boot_drawn) (d₁:=boot_drawn) (k₀:=boot_toks) (k₁:=1925) (m₀:=11) (ann:=ann) (M:=8892)
  (boot_open (by kernel_rfl) (by decide+kernel) (λs=>by kernel_rfl)) UU (λw os=>whole_run w os) (by decide+kernel) λw=>?_
 funext os
 refine Prod.ext ?_ (Prod.ext ?_ rfl)
 ·show(staticsOk (importedModules Pq.main.body) (boot_heap w.params) (H1 w.params)&&namesBound Pq (H1 w.params)&&gensDone (S1 w os)&&laidKept (boot_heap w.params) (H1 w.params))=true
  rw[Qr,Qp,Qn];rfl
 ·show openSeen Qv loose (importedModules Pq.main.body) (λ_=>true) true (S1 w os)=openGood Qv loose
  rw[Qo,RQ]
  exact Qq w os
theorem QH:LeftO PySem.Challenge.pw_nn0421_01 Qv loose (λ_=>true) (λs=>s.heap) (λw=>H1 w.params) 9000:=by
 rw[S8];exact QG
noncomputable abbrev d4:OpenLaw:=PySem.Challenge.rw_nn0421_01
noncomputable abbrev VJ:=PySem.W.Fast.tw8377067652309620493
noncomputable abbrev VH:=PySem.W.Fast.tw8326940854005059898
noncomputable abbrev VI:=PySem.W.Fast.tw17119622794617984870
theorem Ry:@namesResolve=@VJ:=PySem.W.Fast.te8377067652309620493
theorem Ao:@noRoadLSs=@VH:=PySem.W.Fast.te8326940854005059898
theorem Ap:@namesMeet=@VI:=PySem.W.Fast.te17119622794617984870
theorem WJ:namesResolve d4.row.prog=true:=by rw[Ry];kernel_rfl
theorem WG:readsOut d4.row.prog d4.row.prog.main.body (Str.ofString "vars")=false:=by kernel_rfl
theorem WH:readsOut d4.row.prog d4.row.prog.main.body (Str.ofString "dir")=false:=by kernel_rfl
theorem WI:readsOut d4.row.prog d4.row.prog.main.body (Str.ofString "locals")=false:=by kernel_rfl
theorem WK:noRoadLSs {strict:=!(importedModules d4.row.prog.main.body).all cThrough.contains,foot:=none,bare:=List.filter (readsOut d4.row.prog d4.row.prog.main.body) [Str.ofString "vars",Str.ofString "dir",Str.ofString "locals"]} d4.row.prog.main.body=true:=by
 rw[Ao,cC (by rw[WG];exact nofun),cC (by rw[WH];exact nofun),cC (by rw[WI];exact nofun),List.filter_nil]
 kernel_rfl
theorem WL:(namesMeet d4.row.prog d4.row.prog.main.body λ_ n=>attrL n)=true:=by rw[Ap,show@attrL=_ from PySem.W.Fast.te17868728402115742887];kernel_rfl
theorem WM:(namesMeet d4.prog d4.above λ_ n=>!d4.own.contains n)=true:=by rw[Ap];kernel_rfl
theorem WN:noRoadLSs {strict:=true,foot:=some d4.bound',writes:=d4.writes,may:=d4.may} d4.footing=true:=by rw[Ao];kernel_rfl
theorem WO:(d4.bound'.all λn=>!builtinNamed n||d4.about==[n]||!d4.reads n)=true:=by rw[PySem.W.Fast.named_eq,PySem.W.Fast.te797321630700447069,PySem.W.Fast.te6984425678791042302];kernel_rfl
set_option maxHeartbeats 4000000 in
theorem WQ:OpenLaw.wellSaid d4=true:=by
 delta OpenLaw.wellSaid
 delta OpenRow.wellSaid
 delta OpenRow.partSaid
 delta OpenScript.wellSaid looksOpen
 repeat' (with_reducible refine look_both ?_ ?_)
 all_goals first|with_reducible exact WJ|with_reducible exact WK|with_reducible exact WL|with_reducible exact WM|with_reducible exact WN|with_reducible exact WO|(rw[Ao];kernel_rfl)|(rw[Ap];kernel_rfl)|kernel_rfl
noncomputable abbrev RW:RowW:=PySem.Challenge.rw_nn0421_01.row.toRowW
def YP(w:World)(h:Heap):Prop:=∀b o,(H1 w.params).get? b=some o->h.get? b=some o
def vy:Stmt:=q1 70
def AL:DefRec:={name:=(cK 0x3e656c75646f6d3c),params:=⟨[],[],none,[],[],none,[]⟩,body:=[],scope:=Pq.main.scope,pos:=p0}
def wm(s:Stmt):DefRec:=tP AL (λn a b sc p=>{name:=n,params:=a,body:=b,scope:=sc,pos:=p}) (λ_ _=>AL) (λ_=>AL) s
theorem tab_of(p:Program)(g:TablesWhole.wSs TablesWhole.gather p.main.scope ⟨p.main.scope,[],[],[],none⟩ p.main.scope p.main.body=[])
 (h:TablesWhole.wSs TablesWhole.holds p.main.scope ⟨p.main.scope,[],[],[],none⟩ p.main.scope p.main.body=true)
 (n:TablesWhole.noTwice p.main.scope=true) (e:p.modules=[]/\p.parses=[]/\p.harvested=[]):p.tablesWhole=true:=by
 unfold Program.tablesWhole TablesWhole.wProgram
 rw[e.1,e.2.1,e.2.2]
 unfold TablesWhole.wModule
 rw[g]
 show(true&&(TablesWhole.noTwice p.main.scope&&(TablesWhole.wSs TablesWhole.holds p.main.scope ⟨p.main.scope,[],[],[],none⟩ p.main.scope p.main.body&&true))&&_)=true
 rw[n,h];rfl
theorem VO:TablesWhole.wSs TablesWhole.gather d4.row.prog.main.scope ⟨d4.row.prog.main.scope,[],[],[],none⟩ d4.row.prog.main.scope d4.row.prog.main.body=[]:=by kernel_rfl
theorem VP:TablesWhole.wSs TablesWhole.holds d4.row.prog.main.scope ⟨d4.row.prog.main.scope,[],[],[],none⟩ d4.row.prog.main.scope d4.row.prog.main.body=true:=by kernel_rfl
theorem VR:TablesWhole.noTwice d4.row.prog.main.scope=true:=by kernel_rfl
theorem VQ:d4.row.prog.modules=[]:=by kernel_rfl
theorem VT:d4.row.prog.parses=[]:=by kernel_rfl
theorem VU:d4.row.prog.harvested=[]:=by kernel_rfl
theorem VS:PySem.Challenge.rw_nn0421_01.row.prog.tablesWhole=true:=tab_of d4.row.prog VO VP VR ⟨VQ,VT,VU⟩
set_option maxHeartbeats 8000000 in
theorem Wb(BL:WalkO Qv loose (λ_ _=>True) YP RW (wm vy) [] λf vs=>call f vs):PySem.Challenge.rw_nn0421_01.Holds:=by
 w_on
 refine holds_law WQ λU=>?_
 refine PySem.W.holds_open (q:=Qv) (loose:=loose) (Xt:=λ_=>true) (XP:=λ_ _=>True) (Yf:=λs=>s.heap) (Ya:=λw=>H1 w.params) (YP:=YP) (d:=wm vy) (kwd:=[]) (N:=9000)
  QH (λw s e b o q=>by rw[e];exact q) (λw h h' y k b o q=>k b o (y b o q)) (λ_ _=>trivial) (λ_ _ _ _ _=>trivial) ?defOf ?O ?kw (λs _=>recFacts_nil rfl) rfl U ?ok ?bare ?hw BL
 case defOf=>kernel_rfl
 case O=>kernel_rfl
 case kw=>kernel_rfl
 case ok=>decide+kernel
 case bare=>exact⟨rfl,rfl,rfl,rfl,rfl,VS⟩
 case hw=>w_witness2
noncomputable def yc:List (String×GV):=[("Token",.cls 117),("bits",.fn 128),("ACCEPT",.nu 1048576),("BARRED",.nu (-1048576)),("END_tables",.nu 0),("ERROR_tables",.nu 1),("UNDEFINED_tables",.nu 2),("Conflict",.cls 250),("ParseTables",.cls 292),("settle",.fn 301),("RowMaker",.cls 344),("default_of",.fn 355),("without",.fn 360),("fill",.fn 368),("ERROR_driver",.nu 1),("UNDEFINED_driver",.nu 2),("Fault",.cls 435),("Outcome",.cls 463),("Core",.cls 630),("END_grammar",.nu 0),("OWN_TERMINALS",.ZI),("Rule",.cls 653),("Grammar",.cls 735),("last_terminal",.fn 752),("plain_grammar",.fn 758),("right_derivation",.fn 765),("transitive",.fn 772),("NONE",.nu (-1)),("LrState",.cls 803),("Closer",.cls 845),("advanced",.fn 856),("kernels_behind",.fn 863),("complete_rules",.fn 870),("Automaton",.cls 922),("Builder",.cls 964),("build",.fn 975),("Tree",.cls 1037),("Leaf",.cls 1072),("postorder",.fn 1081),("derivation",.fn 1086),("TreeHandler",.cls 1124),("left_names",.fn 1133),("_law_pen",.fn 1140),("_law_draw",.fn 1147),("_law_pairs",.fn 1152),("_law_grown",.fn 1157),("_law_behind",.fn 1162),("_law_heads",.fn 1169),("_law_sets",.fn 1176),("_law_replayed",.fn 1183),("_law_moment_right",.fn 1190),("_law_refusal_right",.fn 1197),("_law_end_right",.fn 1202),("_law_row_right",.fn 1209),("law",.fn 1214),("len",.bi .len),("list",.bi .list),("tuple",.bi .tuple),("sorted",.bi .sorted),("abs",.bi .abs),("int",.bi .int),("str",.bi .str),("range",.range),("enumerate",.enumerate),("reversed",.reversed),("ParseError",.pe),("Handler",.cls 399)]
noncomputable def addrs:LN:=[2,29,35,36,45,46,82,83,93,99,100,106,107,116,117,127,128,141,142,148,149,155,156,162,163,169,170,190,191,204,205,211,212,218,219,221,222,239,240,246,247,249,250,255,258,261,262,267,268,281,282,288,289,291,292,300,301,314,315,321,322,328,329,335,336,340,341,343,344,354,355,359,360,361,367,368,398,399,411,417,418,424,425,434,435,452,453,459,460,462,463,475,481,482,488,489,495,496,516,517,523,524,530,531,537,538,544,545,551,552,558,559,565,566,572,573,579,580,586,587,593,594,600,601,607,608,614,615,619,620,626,627,629,630,643,649,650,652,653,668,669,675,676,682,683,696,697,703,704,710,711,717,718,724,725,731,732,734,735,751,752,753,757,758,764,765,771,772,785,786,792,793,799,800,802,803,820,821,827,828,834,835,841,842,844,845,855,856,862,863,869,870,883,884,890,891,921,922,939,940,946,947,953,954,960,961,963,964,974,975,988,989,995,996,1009,1010,1014,1015,1019,1020,1036,1037,1054,1055,1061,1062,1071,1072,1080,1081,1085,1086,1099,1100,1106,1107,1113,1114,1123,1124,1132,1133,1139,1140,1146,1147,1151,1152,1156,1157,1161,1162,1168,1169,1175,1176,1182,1183,1189,1190,1196,1197,1201,1202,1208,1209,1213,1214]
def Kf(P:Params):Frag:=addrs.map λa=>(a,((jW P).get a).getD default)
def Mw(K:Frag)(O n:Nat)(r:Option Nat):Bool:=plainGet K O (nm n)&&(hasDictIn K O&&((findIn K (.ref O) (nm n)==some (r.map .ref))&&((r.all λf=>isFn K (.ref f)&&keepIn K (.ref f))&&Nat.blt n iZ.length)))
noncomputable def gtab(x:Str):Option GV:=(yc.map λp=>(Str.ofString p.1,p.2)).lookup x
noncomputable def SQ(f:Nat):Option Nat:=cond (Nat.beq f 1140) (some 0) none
def wu(sc:Scope):Bool:=decide (sc.kind=.function)&&((!sc.isCoroutine)&&((!sc.isGenerator)&&(decide (sc.names.map (·.1)).Nodup&&(d7 sc.names).all λx=>!(x==("__classdict__":Str))&&!(x==("__debug__":Str)))))
noncomputable def nW(fd:FuncData):List Stmt:=match fd.body with
| .stmts b=>b
|_=>[]
noncomputable def EK(fd:FuncData):Bool:=match fd.body with
| .stmts _=>true
|_=>false
noncomputable def rH(fd:FuncData):LQ:=(fd.params.posonlyargs++fd.params.args).map (·.arg)
def lS(K:Frag)(e:FE):Bool:=match K.lookup e.f with
|some ⟨_,_,.func fd,_⟩=>EK fd&&(Nat.beq fd.globals mainGlobals&&(Nat.beq fd.builtins builtinsNs&&(codeIn K fd.code fd.qualname&&(fd.closure.isEmpty&&(wu fd.scope&&((rH fd).all (λx=>(d7 fd.scope.names).contains x)&&lX 60 (gw gtab fd.scope (SQ e.f)) e.cs (nW fd)))))))
|_=>false
def Uz(K:Frag)(O n:Nat):Bool:=(findIn K (.ref O) "__setattr__"==some (some (.builtin "object.__setattr__")))&&(plainOver K O&&(takerIn K O (nm n)==some none))
theorem E4(P:Params):(yK.all λx=>makesIn (Kf P) x.1&&x.2.all λy=>y.2.isSome||Uz (Kf P) x.1 y.1)=true:=by kernel_rfl
theorem Ql(P:Params):(yK.all λx=>x.2.all λy=>Mw (Kf P) x.1 y.1 y.2)=true:=by kernel_rfl
theorem Po(P:Params):T1.all (lS (Kf P))=true:=by kernel_rfl
theorem Pp(P:Params):T2.all (lS (Kf P))=true:=by kernel_rfl
theorem Pr(P:Params):T3.all (lS (Kf P))=true:=by kernel_rfl
theorem Pu(P:Params):T4.all (lS (Kf P))=true:=by kernel_rfl
theorem Px(P:Params):T5.all (lS (Kf P))=true:=by kernel_rfl
theorem Py(P:Params):T6.all (lS (Kf P))=true:=by kernel_rfl
theorem Pz(P:Params):T7.all (lS (Kf P))=true:=by kernel_rfl
def fdOf(K:Frag)(f:Nat):FuncData:=match K.lookup f with
|some ⟨_,_,.func fd,_⟩=>fd
|_=>{name:="",params:=⟨[],[],none,[],[],none,[]⟩,body:=.stmts [],scope:=Pq.main.scope,globals:=0,closure:=[],defaults:=.none,kwdefaults:=.none,qualname:=""}
noncomputable def Dq(K:Frag)(fd:FuncData):LU:=match fd.defaults with
| .ref a=>match K.lookup a with
 |some ⟨_,_,.seq U _,_⟩=>U.toList
 |_=>[]
|_=>[]
def uN(K:Frag)(fd:FuncData)(vals:LU):List (Str×Value):=(rH fd).zip (vals++(Dq K fd).drop ((Dq K fd).length-((rH fd).length-vals.length)))
def je(K:Frag)(S:Setting)(vals:LU)(e:FE):Option (List (Str×Value))×List CV:=(peek K S (bindArgs (fdOf K e.f) ⟨vals,[]⟩),(d7 (fdOf K e.f).scope.names).map λx=>me ((uN K (fdOf K e.f) vals).reverse.lookup x))
def jf(K:Frag)(vals:LU)(e:FE):Option (List (Str×Value))×List CV:=(some (uN K (fdOf K e.f) vals),vals.map cv++e.tail)
theorem Pj(P:Params)(S:Setting)(a b c d e f g:Value):T7.map (je (Kf P) S [a,b,c,d,e,f,g])=T7.map (jf (Kf P) [a,b,c,d,e,f,g]):=by kernel_rfl
theorem Pg(P:Params)(S:Setting)(a b c d e f:Value):T6.map (je (Kf P) S [a,b,c,d,e,f])=T6.map (jf (Kf P) [a,b,c,d,e,f]):=by kernel_rfl
theorem Pf(P:Params)(S:Setting)(a b c d e:Value):T5.map (je (Kf P) S [a,b,c,d,e])=T5.map (jf (Kf P) [a,b,c,d,e]):=by kernel_rfl
theorem Pe(P:Params)(S:Setting)(a b c d:Value):T4.map (je (Kf P) S [a,b,c,d])=T4.map (jf (Kf P) [a,b,c,d]):=by kernel_rfl
theorem Pd(P:Params)(S:Setting)(a b c:Value):T3.map (je (Kf P) S [a,b,c])=T3.map (jf (Kf P) [a,b,c]):=by kernel_rfl
theorem Pc(P:Params)(S:Setting)(a b:Value):T2.map (je (Kf P) S [a,b])=T2.map (jf (Kf P) [a,b]):=by kernel_rfl
theorem Pb(P:Params)(S:Setting)(a:Value):T1.map (je (Kf P) S [a])=T1.map (jf (Kf P) [a]):=by kernel_rfl
theorem yE{β:Type}(g:Nat->β):∀(L:LN)(a:Nat)(o:β),(L.map λa=>(a,g a)).lookup a=some o->a∈L/\o=g a
 |[],_,_,h=>nomatch h
 |b::L,a,o,h=>by
  rw[aN,bQ] at h
  by_cases e:a=b
  ·subst e;rw[ck] at h;exact⟨.head _,(aq h).symm⟩
  ·rw[ca.mpr e] at h;exact⟨.tail _ (yE g L a o h).1,(yE g L a o h).2⟩
theorem oO{κ α:Type}[BEq κ][LawfulBEq κ]{k:κ}{v:α}:∀{l:List (κ×α)},l.lookup k=some v->(k,v)∈l
 |(a,b)::l,h=>by
  rw[bQ] at h
  cases e:k==a with
  |true=>rw[e] at h;rw[eq_of_beq e,aq h];exact .head _
  |false=>rw[e] at h;exact .tail _ (oO h)
noncomputable def u3(o:Obj):Bool:=match o.data with
| .freed=>true
|_=>false
theorem kq(P:Params):(addrs.all λa=>Nat.blt a 1215&&!u3 (((jW P).get a).getD default))=true:=by kernel_rfl
theorem N4{h:Heap}{a:Nat}{o:Obj}(e:h.objs[a]?=some o)(q:u3 o=false):h.get? a=some o:=by
 obtain ⟨c,d,dt,sl⟩:=o
 show(match h.objs[a]? with|some ⟨_,_,.freed,_⟩=>none|o=>o)=_
 rw[e]
 cases dt with
 |freed=>cases q
 |_=>rfl
theorem Eu(P:Params){a:Nat}{o:Obj}(hl:a<1215)(e:((jW P).get a).getD default=o)(q:u3 o=false):(H1 P).get? a=some o:=by
 refine N4 ?_ q
 show(absHeap (jW P) 1215 _).objs[a]?=_
 rw[absHeap_at,al hl,e]
theorem Jm(P:Params):(Kf P).In (H1 P):=λa o h=>by
 obtain ⟨O,e⟩:=yE _ addrs a o h
 have q:=cN (bh.mp (kq P) a O)
 exact Eu P (Nat.le_of_ble_eq_true q.1) e.symm (by rw[e];have:=q.2;cases z:u3 (((jW P).get a).getD default)<;>first|rfl|(rw[z] at this;cases this))
theorem Mx(P:Params){O n:Nat}{r:Option Nat}(h:mt O n=some r):B3 (Kf P) O n r:=by
 obtain ⟨l,h1,h2⟩:=oB h
 have q:=cN (bh.mp (bh.mp (Ql P) (O,l) (oO h1)) (n,r) (oO h2))
 have q2:=cN q.2
 have q3:=cN q2.2
 have U:=cN q3.2
 exact⟨q.1,q2.1,eq_of_beq q3.1,λf e=>by have:=U.1;rw[e] at this;exact(cN this).1,λf e=>by have:=U.1;rw[e] at this;exact(cN this).2,Nat.le_of_ble_eq_true U.2⟩
theorem UG(P:Params){O n:Nat}(h:mt O n=some none):B4 (Kf P) O n:=by
 obtain ⟨l,U,h2⟩:=oB h
 have q:=bh.mp (cN (bh.mp (E4 P) (O,l) (oO U))).2 (n,none) (oO h2)
 have q:=cN q
 have q2:=cN q.2
 exact⟨eq_of_beq q.1,q2.1,eq_of_beq q2.2⟩
theorem Rm(P:Params){O f:Nat}(h:mt O 0=some (some f)):makesIn (Kf P) O=true:=by
 obtain ⟨l,U,h2⟩:=oB h
 exact(cN (bh.mp (E4 P) (O,l) (oO U))).1
theorem PA(P:Params):(H1 P).isNs mainGlobals=true:=by kernel_rfl
theorem PB(P:Params):(H1 P).isNs builtinsNs=true:=by kernel_rfl
theorem PC(P:Params):(H1 P).noLimitOk=true:=by kernel_rfl
theorem PD(P:Params):((H1 P).get? sysModules).isSome=true:=by kernel_rfl
theorem Au{h h':Heap}{a:Nat}{m:Str->Option Value}(n:h.Ns a m)(y:∀b o,h.get? b=some o->h'.get? b=some o):h'.Ns a m:=n.elim λo n=>n.elim λes n=>n.elim λep n=>⟨o,es,ep,y _ _ n.1,n.2⟩
def AF(P:Params):Array Value:=match((jW P).get 635).getD default with
|⟨_,_,.seq vs _,_⟩=>vs
|_=>#[]
theorem PU(P:Params):(AF P).toList.map cv=wg.map .str:=by kernel_rfl
theorem PV(P:Params):∃o,(H1 P).get? 635=some o/\o.cls=.type "tuple"/\∃n,o.data=.seq (AF P) n:=⟨_,Eu P dQ rfl (by kernel_rfl),by kernel_rfl,0,by kernel_rfl⟩
@[irreducible] def mU(P:Params):Str->Option Value:=(H1 P).nsMap mainGlobals
@[irreducible] def qp(P:Params):Str->Option Value:=(H1 P).nsMap builtinsNs
def ir(w:World)(h:Heap)(y:∀b o,(H1 w.params).get? b=some o->h.get? b=some o)(sa:Nat)(sv:Array Value)(sns:LJ)(sl:h.IsList sa sv)(si:IntsAre sv.toList sns)(sz:sns.length<=63):Gd where
 prog:=Pq
 w:=w
 C:=83
 K:=Kf w.params
 base:=h
 mg:=mU w.params
 mb:=qp w.params
 X:=λa o e=>y a o (Jm _ a o e)
 g:=by unfold mU;exact Au (.of_isNs (PA _)) y
 b:=by unfold qp;exact Au (.of_isNs (PB _)) y
 nolimit:=(Heap.NoLimit.of_ok (PC w.params)).elim λO n=>⟨O,Au n.1 y,n.2⟩
 sys:=(Option.isSome_iff_exists.mp (PD w.params)).elim λo e=>by rw[y _ _ e];rfl
 cls:=λ_ _ _ e=>Mx _ e
 set:=λ_ _ e=>UG _ e
 new:=λ_ _ e=>Rm _ e
 sa:=sa
 sv:=sv
 ZS:=sns
 sl:=sl
 si:=si
 sz:=sz
 oa:=635
 ov:=AF w.params
 ot:=(PV w.params).elim λo n=>⟨o,y _ _ n.1,n.2⟩
 os:=PU w.params
def yd(K:Frag)(mg mb:Str->Option Value)(C oa:Nat)(x:Str)(g:GV):Bool:=!(x==("__debug__":Str))&&match g with
| .no=>((mg x).map cv).any λv=>match v with| .none=>true|_=>false
| .nu i=>((mg x).map cv).any λv=>match v with| .int j=>decide (j=i)|_=>false
| .fn a=>((mg x).any λv=>v==.ref a)&&keepIn K (.ref a)
| .cls a=>((mg x).any λv=>v==.ref a)&&keepIn K (.ref a)
| .pe=>(mg x).any λv=>v==.ref C
| .ZI=>(mg x).any λv=>v==.ref oa
|g=>(mg x).isNone&&(vc g).any λv=>(mb x)==some v
theorem kg(P:Params):(yc.all λp=>yd (Kf P) (mU P) (qp P) 83 635 (Str.ofString p.1) p.2)=true:=by kernel_rfl
theorem pQ{α:Type}{o:Option α}{p:α->Bool}(h:o.any p=true):∃v,o=some v/\p v=true:=by
 cases o with
 |none=>exact cX h
 |some v=>exact⟨v,rfl,h⟩
theorem tL{b:Bool}(h:(!b)=true):b=false:=by cases b<;>first|rfl|exact cX h
theorem Og{G:Gd}{x:Str}{g:GV}(hg:yd G.K G.mg G.mb G.C G.oa x g=true):(x==("__debug__":Str))=false/\pA G x g:=by
 have q:=cN hg
 refine⟨tL q.1,?_⟩
 have q:=q.2
 have O:∀{a:Nat}{K:Frag},(((G.mg x).any λv=>v==.ref a)&&keepIn K (.ref a))=true->G.mg x=some (.ref a)/\keepIn K (.ref a)=true:=λq=>by
  have q:=cN q
  obtain ⟨v,e,q1⟩:=pQ q.1
  exact⟨by rw[e,eq_of_beq q1],q.2⟩
 cases g with
 |no=>
  obtain ⟨c,e,q1⟩:=pQ q
  obtain ⟨v,U,e2⟩:=oM e
  refine .gl U ?_
  cases c<;>first|exact e2|exact cX q1
 |nu i=>
  obtain ⟨c,e,q1⟩:=pQ q
  obtain ⟨v,U,e2⟩:=oM e
  refine .gl U ?_
  cases c with
  |int j=>exact e2.trans (aj _ (aD q1))
  |_=>exact cX q1
 |fn a=>exact .gl (O q).1 ⟨rfl,(O q).2⟩
 |cls a=>exact .gl (O q).1 ⟨rfl,(O q).2⟩
 |pe=>
  obtain ⟨v,e,q1⟩:=pQ q
  exact .gl e (eq_of_beq q1)
 |ZI=>
  obtain ⟨v,e,q1⟩:=pQ q
  exact .gl e (eq_of_beq q1)
 |_=>
  have q:=cN q
  obtain ⟨v,e,q1⟩:=pQ q.2
  exact .bi (Option.isNone_iff_eq_none.mp q.1) (eq_of_beq q1) e
theorem Oe{G:Gd}{K:Frag}{mg mb:Str->Option Value}{C oa:Nat}(U:G.K=K)(O:G.mg=mg)(e3:G.mb=mb)(e4:G.C=C)(e5:G.oa=oa)(hk:(yc.all λp=>yd K mg mb C oa (Str.ofString p.1) p.2)=true):nH G gtab:=by
 subst U O e3 e4 e5
 intro x g e
 unfold gtab at e
 obtain ⟨p,hp,e⟩:=aB.mp (oO e)
 have:=bh.mp hk p hp
 have U:=aj Prod.fst e
 have O:=aj Prod.snd e
 dsimp only at U O
 subst U O
 exact Og this
section
variable{w:World}{h:Heap}{y:∀b o,(H1 w.params).get? b=some o->h.get? b=some o}{sa:Nat}{sv:Array Value}{sns:LJ}{sl:h.IsList sa sv}{si:IntsAre sv.toList sns}{sz:sns.length<=63}
theorem Es:nH (ir w h y sa sv sns sl si sz) gtab:=by
 generalize e:ir w h y sa sv sns sl si sz=G
 have U:G.K=Kf w.params:=e▸rfl
 have O:G.mg=mU w.params:=e▸rfl
 have e3:G.mb=qp w.params:=e▸rfl
 have e4:G.C=83:=e▸rfl
 have e5:G.oa=635:=e▸rfl
 clear e
 exact Oe U O e3 e4 e5 (kg w.params)
theorem Bh{sc:Scope}(q:wu sc=true):Ct sc:=by
 have q:=cN q
 have q1:=cN q.2
 have q2:=cN q1.2
 have O:=cN q2.2
 exact⟨aD q.1,tL q1.1,tL q2.1,aD O.1,λx U=>(cN (bh.mp O.2 x U)).imp tL tL⟩
theorem o7{na:Nat}{T:List FE}(hf:T.all (lS (Kf w.params))=true)(hb:∀S vals,vals.length=na->T.map (je (Kf w.params) S vals)=T.map (jf (Kf w.params) vals))(i:Nat){e:FE}(he:T[i]?=some e):gg (ir w h y sa sv sns sl si sz) e.f e.cs na e.tail:=by
 have hm:=ax he
 have U:=bh.mp hf e hm
 unfold lS at U
 split at U
 ·rename_i oc od fd osl hl
  have a1:=cN U
  have a2:=cN a1.2
  have a3:=cN a2.2
  have a4:=cN a3.2
  have a5:=cN a4.2
  have a6:=cN a5.2
  have a7:=cN a6.2
  have hfd:fdOf (Kf w.params) e.f=fd:=by unfold fdOf;rw[hl]
  have O:fd.body=.stmts (nW fd):=by
   have:=a1.1
   unfold EK at this
   unfold nW
   split at this
   ·rename_i b q;rw[q]
   ·exact cX this
  intro vs d M K X
  refine NM Es ⟨hl,O,cH a2.1,cH a3.1,a4.1,Bh a6.1⟩ (List.isEmpty_iff.mp a5.1) a7.2 λvals hv=>?_
  have q:=λS=>List.map_inj_left.mp (hb S vals hv) e hm
  unfold je jf at q
  rw[hfd] at q
  exact .mk (binds:=uN (Kf w.params) fd vals) (λS=>aj Prod.fst (q S)) (λb hb'=>by
   have:=(List.of_mem_zip (show(b.1,b.2)∈_ from hb')).1
   exact List.contains_iff_mem.mp (bh.mp a7.1 _ this)) (aj Prod.snd (q ⟨Pq,w.params⟩))
 ·cases U
end
def Jf(n:Nat):(LU->Prop)->Prop:=Nat.rec (motive:=λ_=>(LU->Prop)->Prop) (λP=>P []) (λ_ O P=>∀a,O λl=>P (a::l)) n
theorem mM{n:Nat}:∀{P:LU->Prop},Jf n P->∀l,l.length=n->P l:=by
 induction n with
 |zero=>exactλh l e=>List.eq_nil_of_length_eq_zero e▸h
 |succ n O=>
  intro P h l
  cases l with
  |nil=>exactλe=>nA e
  |cons a l=>exactλe=>O (h a) l (bO e)
section
variable{w:World}{h:Heap}{y:∀b o,(H1 w.params).get? b=some o->h.get? b=some o}{sa:Nat}{sv:Array Value}{sns:LJ}{sl:h.IsList sa sv}{si:IntsAre sv.toList sns}{sz:sns.length<=63}
theorem F1(i:Nat){e:FE}(he:T1[i]?=some e):gg (ir w h y sa sv sns sl si sz) e.f e.cs 1 e.tail:=o7 (Po _) (λS=>mM (n:=1) λa=>Pb _ S a) i he
theorem F2(i:Nat){e:FE}(he:T2[i]?=some e):gg (ir w h y sa sv sns sl si sz) e.f e.cs 2 e.tail:=o7 (Pp _) (λS=>mM (n:=2) λa b=>Pc _ S a b) i he
theorem F3(i:Nat){e:FE}(he:T3[i]?=some e):gg (ir w h y sa sv sns sl si sz) e.f e.cs 3 e.tail:=o7 (Pr _) (λS=>mM (n:=3) λa b c=>Pd _ S a b c) i he
theorem F4(i:Nat){e:FE}(he:T4[i]?=some e):gg (ir w h y sa sv sns sl si sz) e.f e.cs 4 e.tail:=o7 (Pu _) (λS=>mM (n:=4) λa b c d=>Pe _ S a b c d) i he
theorem F5(i:Nat){e:FE}(he:T5[i]?=some e):gg (ir w h y sa sv sns sl si sz) e.f e.cs 5 e.tail:=o7 (Px _) (λS=>mM (n:=5) λa b c d e=>Pf _ S a b c d e) i he
theorem F6(i:Nat){e:FE}(he:T6[i]?=some e):gg (ir w h y sa sv sns sl si sz) e.f e.cs 6 e.tail:=o7 (Py _) (λS=>mM (n:=6) λa b c d e f=>Pg _ S a b c d e f) i he
theorem F7(i:Nat){e:FE}(he:T7[i]?=some e):gg (ir w h y sa sv sns sl si sz) e.f e.cs 7 e.tail:=o7 (Pz _) (λS=>mM (n:=7) λa b c d e f g=>Pj _ S a b c d e f g) i he
theorem Tb(sup:rh (ir w h y sa sv sns sl si sz) 268 (mJ.take 3) 142 0 [.attr (.loc 1) 9,.attr (.loc 1) 10,.loc 8,.loc 9,.loc 10] (mJ.drop 4) 8 [.Z8,.Z8,.Z8]):dO (ir w h y sa sv sns sl si sz):=
 ⟨λi=>nV i λi e he=>F1 i he,λi=>nV i λi e he=>F2 i he,λi=>nV i λi e he=>F3 i he,λi=>nV i λi e he=>F4 i he,λi=>nV i λi e he=>F5 i he,λi=>nV i λi e he=>F6 i he,λi=>nV i λi e he=>F7 i he,sup⟩
end
theorem PE(P:Params):exmOne (Kf P) (.ref 83) (.ref 83)=some true:=by kernel_rfl
theorem PG(P:Params):findIn (Kf P) (.ref 83) "__setattr__"=some (some (.builtin "object.__setattr__")):=by kernel_rfl
theorem E2(P:Params):(hasDictIn (Kf P) 83&&keepIn (Kf P) (.ref 83))=true:=by kernel_rfl
theorem PH(P:Params):takerIn (Kf P) 83 "what"=some none:=by kernel_rfl
theorem PI(P:Params):takerIn (Kf P) 83 "at"=some none:=by kernel_rfl
theorem PJ(P:Params):(Kf P).lookup 83=some (excClassObj l8 l8 83 82 [(.ref 46)] [(.ref 46),.type "Exception",.type "BaseException",.type "object"] true [] [] false none none (some (.ref 74)) none (some (Vs l8 266)) (some (Vs l8 274)) (some (Vb true)) "Exception.__new__"):=by kernel_rfl
theorem PO(P:Params):(clsIn (Kf P) 83).map (·.mro)=some [.ref 83,.ref 46,.type "Exception",.type "BaseException",.type "object"]:=by kernel_rfl
theorem UI(P:Params):∃U,rA (Kf P) 83 U:=by
 obtain ⟨U,e,m⟩:=oM (PO P)
 have m:U.mro=_:=m
 exact⟨U,e,by rw[m];rfl,by rw[m];decide,λO=>by rw[m,refuseLoop_ref,refuseLoop_ref];exact PySem.F.store_Exception.passes O⟩
theorem SU(P:Params):uy (Kf P) 83:=
 have q:=cN (E2 P)
 ⟨.mk (PJ P) dQ dQ dQ dQ,PG P,UI P,PH P,PI P,q.1⟩
theorem PK(P:Params):findIn (Kf P) (.ref 83) "__init__"=some (some (.ref 36)):=by kernel_rfl
theorem PM(P:Params):mU P "Exception"=none:=by kernel_rfl
theorem PN(P:Params):qp P "Exception"=some (.type "Exception"):=by kernel_rfl
theorem PF(P:Params)(S:Setting)(a b c:Value):peek (Kf P) S (bindArgs (fdOf (Kf P) 36) ⟨[a,b,c],[]⟩)=some [(("self":Str),a),(("what":Str),b),(("at":Str),c)]:=by kernel_rfl
def UV(P:Params):Array (Option Value):=(((jW P).get 36).getD default).slots
theorem PP(P:Params):(Kf P).lookup 36=some ⟨.type "function",none,.func (fdOf (Kf P) 36),UV P⟩:=by kernel_rfl
theorem PQ(P:Params):(fdOf (Kf P) 36).body=.stmts [.Expr (.Call (.Attribute (.Name "Exception" ⟨8,8,8,17⟩) "__init__" ⟨8,8,8,26⟩) [.Name "self" ⟨8,27,8,31⟩,.Name "what" ⟨8,33,8,37⟩] [] ⟨8,8,8,38⟩) ⟨8,8,8,38⟩,.Assign [.Attribute (.Name "self" ⟨9,8,9,12⟩) "what" ⟨9,8,9,17⟩] (.Name "what" ⟨9,20,9,24⟩) ⟨9,8,9,24⟩,.Assign [.Attribute (.Name "self" ⟨10,8,10,12⟩) "at" ⟨10,8,10,15⟩] (.Name "at" ⟨10,18,10,20⟩) ⟨10,8,10,20⟩]:=by kernel_rfl
theorem PR(P:Params):(fdOf (Kf P) 36).closure=[]:=by kernel_rfl
theorem PS(P:Params):(Nat.beq (fdOf (Kf P) 36).globals mainGlobals&&(Nat.beq (fdOf (Kf P) 36).builtins builtinsNs&&(codeIn (Kf P) (fdOf (Kf P) 36).code (fdOf (Kf P) 36).qualname&&wu (fdOf (Kf P) 36).scope)))=true:=by kernel_rfl
theorem PT(P:Params):(["self","what","at","Exception"]:List String).map (λx=>(fdOf (Kf P) 36).scope.names.lookup (Str.ofString x))=[some .local,some .local,some .local,some .globalImplicit]:=by kernel_rfl
theorem SP(P:Params):w6 (Kf P) 83:=
 have a:=cN (PS P)
 have b:=cN a.2
 have c:=cN b.2
 have s:=Bh c.2
 have n:=bZ (PT P)
 have n2:=bZ n.2
 have n3:=bZ n2.2
 .mk (PK P) (PP P) ⟨PQ P,cH a.1,cH b.1,PR P,c.1,s.kind,s.co,s.gen,n.1,n2.1,n3.1,(bZ n3.2).1,λx y z S=>PF P S x y z,rfl⟩
section
variable{w:World}{h:Heap}{y:∀b o,(H1 w.params).get? b=some o->h.get? b=some o}{sa:Nat}{sv:Array Value}{sns:LJ}{sl:h.IsList sa sv}{si:IntsAre sv.toList sns}{sz:sns.length<=63}
theorem Et:Gx (ir w h y sa sv sns sl si sz):=⟨PE _,SU _,SP _,(cN (E2 w.params)).2,PM _,PN _⟩
end
def eW(P:Params):FuncData:=fdOf (Kf P) 268
def sl(P:Params)(a:Nat):Array (Option Value):=(((jW P).get a).getD default).slots
def xm(P:Params):ClassData:=match(((jW P).get 292).getD default).data with
| .cls c=>c
|_=>{name:=n1,bases:=[],mro:=[],ns:=0,qualname:=n1}
def IT(P:Params):Array Value:=match(((jW P).get 267).getD default).data with
| .fields v=>v
|_=>#[]
noncomputable def pX:LX:=[.Attribute (.Name "grammar" ⟨129,25,129,32⟩) "names" ⟨129,25,129,38⟩,.Attribute (.Name "grammar" ⟨129,40,129,47⟩) "terminal_count" ⟨129,40,129,62⟩,.Name "lefts" ⟨129,64,129,69⟩,.Name "lengths" ⟨129,71,129,78⟩,.Name "befores" ⟨129,80,129,87⟩]
theorem E3(P:Params):(Kf P).lookup 268=some ⟨.type "function",none,.func (eW P),sl P 268⟩:=by kernel_rfl
theorem PX(P:Params):(eW P).body=.stmts ((nW (eW P)).take 3++.Expr (.Call (.Attribute (.Call (.Name "super" ⟨129,8,129,13⟩) [] [] ⟨129,8,129,15⟩) "__init__" ⟨129,8,129,24⟩) pX [] ⟨129,8,129,88⟩) ⟨129,8,129,88⟩::(nW (eW P)).drop 4):=by kernel_rfl
theorem PY(P:Params):(Nat.beq (eW P).globals mainGlobals&&(Nat.beq (eW P).builtins builtinsNs&&(codeIn (Kf P) (eW P).code (eW P).qualname&&(wu (eW P).scope&&((rH (eW P)).all (λx=>(d7 (eW P).scope.names).contains x)&&(eW P).scope.names.all λx=>decide (x.2≠.cell))))))=true:=by kernel_rfl
theorem PZ(P:Params):(eW P).closure=[(("__class__":Str),258)]:=by kernel_rfl
theorem P0(P:Params):(["super","__class__","self"]:List String).map (λx=>(eW P).scope.names.lookup (Str.ofString x))=[some .globalImplicit,some .free,some .local]:=by kernel_rfl
theorem P1(P:Params):(d7 (eW P).scope.names)[0]?=some ("self":Str):=by kernel_rfl
theorem P2(P:Params):(lX 60 (gw gtab (eW P).scope none) (mJ.take 3) ((nW (eW P)).take 3)&&((kc 60).es (gw gtab (eW P).scope none) [.attr (.loc 1) 9,.attr (.loc 1) 10,.loc 8,.loc 9,.loc 10] pX&&lX 60 (gw gtab (eW P).scope none) (mJ.drop 4) ((nW (eW P)).drop 4)))=true:=by kernel_rfl
theorem P4(P:Params)(S:Setting)(a b c d e f g i:Value):je (Kf P) S [a,b,c,d,e,f,g,i] ⟨268,[],[.Z8,.Z8,.Z8]⟩=jf (Kf P) [a,b,c,d,e,f,g,i] ⟨268,[],[.Z8,.Z8,.Z8]⟩:=by kernel_rfl
theorem P5(P:Params):((eW P).params.posonlyargs++(eW P).params.args).head?.map (·.arg)=some ("self":Str):=by kernel_rfl
theorem P6(P:Params):(eW P).code=.ref 267:=by kernel_rfl
theorem P7(P:Params):(Kf P).lookup 267=some ⟨.type "code",none,.fields (IT P),sl P 267⟩:=by kernel_rfl
theorem P8(P:Params):(IT P)[2]?=some (.str n1 551):=by kernel_rfl
theorem P9:((Pq.main.file:Str)==n1)=true:=by kernel_rfl
theorem Qa:(Pq.main.scope.names.lookup ("super":Str)).isSome=false:=by kernel_rfl
theorem Qb(P:Params):(Kf P).lookup 258=some ⟨.type "cell",none,.cell (some (.ref 292)),sl P 258⟩:=by kernel_rfl
theorem Qc(P:Params):(Kf P).lookup 292=some ⟨.type "type",none,.cls (xm P),sl P 292⟩:=by kernel_rfl
theorem Qd(P:Params):clsIn (Kf P) 292=some (xm P):=by kernel_rfl
theorem Qe(P:Params):alongIn (Kf P) "__init__" (((xm P).mro.dropWhile (·!=.ref 292)).drop 1)=some (some (.ref 142)):=by kernel_rfl
theorem Qf(P:Params):mroIn (Kf P) 292 (.ref 292)=some true:=by kernel_rfl
theorem Qg(P:Params):nsIn (Kf P) cStatics "thirdparty.any"=some none:=by kernel_rfl
theorem Qh(P:Params):fnIn (Kf P) 142=true:=by kernel_rfl
theorem Qi(P:Params):(Kf P).lookup 142=some ⟨.type "function",none,.func (fdOf (Kf P) 142),sl P 142⟩:=by kernel_rfl
theorem Qj(P:Params):mU P "super"=none:=by kernel_rfl
theorem Qk(P:Params):qp P "super"=some (.type "super"):=by kernel_rfl
theorem Vw(P:Params):uD (Kf P) Pq 268 142 258 (eW P) "self":=(oM (P5 P)).elim λO e=>.mk (E3 P) e.1 e.2 (P6 P) (P7 P) (P8 P) P9 Qa (Qb P) (Qc P) (Qd P) (Qe P) (Qf P) (Qg P) (Qh P) (Qi P)
theorem Km(P:Params)(vals:LU)(hv:vals.length=8)(S:Setting):je (Kf P) S vals ⟨268,[],[.Z8,.Z8,.Z8]⟩=jf (Kf P) vals ⟨268,[],[.Z8,.Z8,.Z8]⟩:=mM (n:=8) (P:=λvals=>je (Kf P) S vals ⟨268,[],[.Z8,.Z8,.Z8]⟩=jf (Kf P) vals ⟨268,[],[.Z8,.Z8,.Z8]⟩) (λa b c d e f g i=>P4 P S a b c d e f g i) vals hv
theorem Oq(env:Env):eval (.Call (.Attribute (.Call (.Name "super" ⟨129,8,129,13⟩) [] [] ⟨129,8,129,15⟩) "__init__" ⟨129,8,129,24⟩) pX [] ⟨129,8,129,88⟩) env=(do
 let ov ←attributeBase (.Call (.Name "super" ⟨129,8,129,13⟩) [] [] ⟨129,8,129,15⟩) "__init__" env (eval (.Call (.Name "super" ⟨129,8,129,13⟩) [] [] ⟨129,8,129,15⟩) env)
 standAt (⟨129,8,129,24⟩:Pos).atName
 let(f,first) ←holding [ov] (getMethod ov "__init__" (pure false))
 callWith ⟨129,8,129,88⟩ f first (backTo ⟨129,8,129,88⟩ (starEach pX env)) []):=rfl
theorem Ox(env:Env):swapsWith (.Call (.Attribute (.Call (.Name "super" ⟨129,8,129,13⟩) [] [] ⟨129,8,129,15⟩) "__init__" ⟨129,8,129,24⟩) pX [] ⟨129,8,129,88⟩) none (⟨129,8,129,88⟩:Pos).line env=pure false:=rfl
theorem Kb{K:Frag}{fd:FuncData}{e:FE}{vals:LU}(O:fdOf K e.f=fd)(q:∀S,je K S vals e=jf K vals e)(ha:(rH fd).all (λx=>(d7 fd.scope.names).contains x)=true)(S0:Setting):Binds K fd vals (vals.map cv++e.tail):=by
 unfold je jf at q
 rw[O] at q
 exact .mk (binds:=uN K fd vals) (λS=>aj Prod.fst (q S)) (λb U=>by
  have:=(List.of_mem_zip (show(b.1,b.2)∈_ from U)).1
  exact List.contains_iff_mem.mp (bh.mp ha _ this)) (aj Prod.snd (q S0))
theorem Ou(P:Params):fdOf (Kf P) 268=eW P:=rfl
theorem Vq{G:Gd}{P:Params}(gt:nH G gtab)(O:G.K=Kf P)(ep:G.prog=Pq)(g1:G.mg "super"=none)(g2:G.mb "super"=some (.type "super")):rh G 268 (mJ.take 3) 142 0 [.attr (.loc 1) 9,.attr (.loc 1) 10,.loc 8,.loc 9,.loc 10] (mJ.drop 4) 8 [.Z8,.Z8,.Z8]:=by
 have a:=cN (PY P)
 have b:=cN a.2
 have c:=cN b.2
 have d:=cN c.2
 have e:=cN d.2
 have n:=bZ (P0 P)
 have n2:=bZ n.2
 have k:=cN (P2 P)
 have k2:=cN k.2
 have ok:nC G 268 _ _ _ (eW P) _:=⟨by rw[O];exact E3 P,PX P,cH a.1,cH b.1,by rw[O];exact c.1,Bh d.1⟩
 have ds:B6 G 268 142 258 0 (eW P) "self" ⟨129,8,129,13⟩ ⟨129,8,129,15⟩ ⟨129,8,129,24⟩ ⟨129,8,129,88⟩ ⟨129,8,129,88⟩ pX (λ_=>pure false):=⟨by rw[O,ep];exact Vw P,g1,g2,PZ P,λx U=>aD (bh.mp e.2 x U),n.1,n2.1,(bZ n2.2).1,P1 P,(λq=>jE q),Oq,Ox⟩
 have hb:∀vals:LU,vals.length=8->Binds G.K (eW P) vals (vals.map cv++[.Z8,.Z8,.Z8]):=λvals hv=>by
  rw[O]
  exact Kb (e:=⟨268,[],[.Z8,.Z8,.Z8]⟩) (Ou P) (Km P vals hv) e.1 ⟨Pq,P⟩
 intro vs d M K X hl
 exact NO gt ok ds k.1 k2.1 k2.2 hb hl
section
variable{w:World}{h:Heap}{y:∀b o,(H1 w.params).get? b=some o->h.get? b=some o}{sa:Nat}{sv:Array Value}{sns:LJ}{sl:h.IsList sa sv}{si:IntsAre sv.toList sns}{sz:sns.length<=63}
theorem Tc:dO (ir w h y sa sv sns sl si sz):=Tb (Vq Es rfl rfl (Qj _) (Qk _))
end
theorem GO{a:Nat}(h:own (λ_=>none) a):False:=h.casesOn (λe=>cR e) λe _=>cR e
theorem Ui{P:PW}{b h:Heap}:dY P b h (λ_=>none):=⟨λ_ _ e=>(cR e),λ_ h=>(GO h).elim,λ_ _ e=>(cR e)⟩
theorem Vd:c5 ⟨[],λ_=>none,λ_=>none⟩ []:=⟨.refl _,.nil,rfl,λ_ _ _ e=>cR e⟩
theorem OM{cl:Str->Option Addr}{h:Heap}(xs:List WData):∀{vs as},(∀d∈xs,WShape.has [] d .int=true)->ReadsAllW [] cl h vs xs as->∃ns,IntsAre vs ns/\ns.length=xs.length:=by
 induction xs with
 |nil=>exactλ_ r=>⟨[],(readsAllW_nil_inv r).1▸.nil,rfl⟩
 |cons x xs O=>
  intro vs as U r
  obtain ⟨v,us,a1,a2,e,_,r1,r2⟩:=readsAllW_cons_inv r
  obtain ⟨i,ei⟩:=hasW_int (U x (.head _))
  obtain ⟨t,ev,_⟩:=readsW_int_inv (ei▸r1)
  obtain ⟨ns,h1,h2⟩:=O (λd hd=>U d (.tail _ hd)) r2
  exact⟨i::ns,e▸ev▸.cons _ _ h1,aj Nat.succ h2⟩
theorem S9(xs:List WData):RW.pre.holds RW.records {args:=[.list xs]}=(!decide ((63:Int)<(xs.length:Int))&&true):=holdsW_of_value (w_and (w_not (w_lt w_lit (w_len_list (w_arg rfl)))) w_lit)
theorem QJ{n:Nat}(h:(!decide ((63:Int)<(n:Int))&&true)=true):n<=63:=Nat.le_of_not_lt λq=>by
 rw[aG (show(63:Int)<(n:Int) from aV.mpr q)] at h;exact cX h
inductive BX(h:Heap)(vals:LU):Prop
|mk {l its ns}:vals=[.ref l]->h.IsList l its->IntsAre its.toList ns->ns.length<=63->BX h vals
theorem JO{args:List WData}{vals:LU}{cl:Str->Option Addr}{h:Heap}{as:List Addr}(hp:RW.claim.pre args=true)(r:ReadsAllW RW.claim.records cl h vals args as):BX h vals:=by
 obtain ⟨h1,h2⟩:=pre_splitW hp
 obtain ⟨d,t,e1,h3,h4⟩:=hasAllW_cons h1
 obtain ⟨O,e2,h5⟩:=hasW_list h3
 have U:=e1.trans ((aj _ (hasAllW_nil h4)).trans (aj (·::[]) e2))
 obtain ⟨v,us,a1,a2,e4,_,r1,r2⟩:=readsAllW_cons_inv (U▸r)
 obtain ⟨l,o,its,n,ai,e5,a,b,c,e,_⟩:=readsW_list_open r1
 obtain ⟨ns,i,z⟩:=OM O (λd=>hasItemsW_at h5 d) e
 exact⟨e4.trans ((aj _ (readsAllW_nil_inv r2).1).trans (aj (·::[]) e5)),⟨o,a,b,n,c⟩,i,z▸QJ ((S9 O).symm.trans (U▸h2))⟩
theorem S7(args:List WData):RW.claim.post args (.bool true) args=true:=postW_of (r:=RW) (X:=true==true) (by kernel_rfl) (w_eq_bool (w_res rfl) w_lit) rfl
theorem Qm(P:Params):mU P (wm vy).name=some (.ref 1214):=by unfold mU;kernel_rfl
theorem BL:WalkO Qv loose (λ_ _=>True) YP RW (wm vy) [] λf vs=>call f vs:=by
 intro w s₀ s₁ mg mb Gr y a o pm cd doc dV kV ha _ _ _ hm hg O vals as hp _ hr _ _
 refine(JO hp hr).casesOn λ{l U ns}ev hl hi hz=>?_
 have ea:(Value.ref a)=.ref 1214:=aq (hm.symm.trans ((Gr.T.g.agree (ir w s₁.heap y l U ns hl hi hz).g _).trans (Qm w.params)))
 have f:=(Qt (G:=ir w s₁.heap y l U ns hl hi hz) (k:=20) (M:=[]) (K:=λv _=>v=.sh (.bool true)) (X:=λ_=>False) Tc Et Et.YU (ao _) rfl).h ⟨[],λ_=>none,λ_=>none⟩ [.ref l] Vd ⟨rfl,rfl⟩
 have am:c8 (ir w s₁.heap y l U ns hl hi hz) true 20 callerA (λ_=>none) s₁.heap:=⟨⟨by decide,by decide⟩,λ_=>rfl,⟨[],rfl⟩,λl e=>aq e▸⟨trivial,λ_ h=>dh h⟩,λ_ _ e=>e,Ui⟩
 rw[ea,ev]
 refine wpAny_call (codeAny_mono (f callerA s₁ [.ref l] am rfl) λr s' x=>?_)
 refine x.casesOn (λ{v s' σ'}st q=>?_) λ{e s'}x=>?_
 ·refine q.casesOn λ{x M as μ}gr sto rc hk=>?_
  have k:∀b o,s₁.heap.get? b=some o->s'.heap.get? b=some o:=λb o e=>(st.keep b o e GO).casesOn λsl e1 q1 _=>by
   rw[e1,q1 (.inl (by show(s₁.heap.get? b).isSome=true;rw[e];rfl))]
  show GoodWG _ _ _ _ _ (.ok (.ret v)) _
  rw[uT (show cv v=.bool true from(show cM ⟨as,μ,σ'⟩ (.sh (.bool true)) (cv v) from hk▸rc))]
  exact⟨.inl ⟨_,.bool true,[],rfl,λ_=>rfl,.bool _,S7 O,λ_=>⟨.nil,λ_ h=>dh h⟩⟩,.of_keep k,st.fx.os,by rw[st.fx.gens,hg];exact .empty⟩
 ·exact x.casesOn λ_ _ _ _ hX=>hX.casesOn λ_ _ z=>z.elim
theorem holds:PySem.Challenge.rw_nn0421_01.Holds:=Wb BL
end
end Mine.Internal
theorem PySem.Challenge.cw_nn0421_01_holds : PySem.Challenge.rw_nn0421_01.Holds :=
 Mine.Internal.holds
