import PyProof.Rows.All
import Wide.All
import OpenK.AllK
import Wide.FinOn
import KE.KRevSl
import PyProof.SliceMore
import KE.KBytesCut
import KE.KDictList
import KE.BytesMake
import KE.KBytesWalk
import PyProof.AttrMissSeq
import KE.KDictOf
import KE.KxBytes
import KE.KTurns
import KE.KSortTup
import KE.KDictSum
import Lean
import PySem.Challenge.RW_np0205_01
set_option Elab.async false
set_option genSizeOf false
set_option genInjectivity false
set_option genCtorIdx false
set_option tactic.hygienic false
set_option backward.match.sparseCases false
set_option linter.all false
set_option maxRecDepth 100000
set_option maxHeartbeats 0
set_option autoImplicit false
open PySem PySem.W PyProof.Rows PySem.Calls
namespace Mine
local macro_rules
|`(⋯)=>`(by kernel_rfl)
|`(∅)=>`(by decide)
|`(~~~$x)=>`(some (.v $x))
|`(tactic|injection $e with $x*)=>`(tactic|induction $e:term with|mk $x* =>?_)
|`(def $i:declId $g:optDeclSig $v:declVal)=>`(noncomputable def $i:declId $g:optDeclSig $v:declVal)
|`(abbrev $i:declId $g:optDeclSig $v:declVal)=>`(noncomputable abbrev $i:declId $g:optDeclSig $v:declVal)
def eK:=@Bool.casesOn
def lh:=@List.casesOn
def oF:=@Nat.casesOn
def nN:=@Option.casesOn
def ny:=@PySem.Expr.casesOn
theorem aa:type_of%@wpAny_bind:=@wpAny_bind
theorem ae:type_of%@Option.some.inj:=@Option.some.inj
theorem af:type_of%@Nat.le_trans:=@Nat.le_trans
theorem ag:type_of%@Exists.elim:=@Exists.elim
theorem ah:type_of%@List.forall_mem_cons:=@List.forall_mem_cons
theorem aj:type_of%@wpAny_pure:=@wpAny_pure
theorem ak:type_of%@decide_eq_true:=@decide_eq_true
theorem ao:type_of%@List.length_map:=@List.length_map
theorem aq:type_of%@List.mem_cons_self:=@List.mem_cons_self
theorem av:type_of%@congrArg:=@congrArg
theorem aw:type_of%@List.mem_cons_of_mem:=@List.mem_cons_of_mem
theorem ax:type_of%@Nat.lt_of_lt_of_le:=@Nat.lt_of_lt_of_le
theorem ay:type_of%@List.mem_singleton:=@List.mem_singleton
theorem az:type_of%@Nat.lt_of_le_of_lt:=@Nat.lt_of_le_of_lt
theorem aA:type_of%@Nat.le_refl:=@Nat.le_refl
theorem aB:type_of%@Nat.le_add_right:=@Nat.le_add_right
theorem aD:type_of%@beq_iff_eq:=@beq_iff_eq
theorem aE:type_of%@Heap.get?_push_of_some:=@Heap.get?_push_of_some
theorem aG:type_of%@beq_self_eq_true:=@beq_self_eq_true
theorem aH:type_of%@List.mem_cons:=@List.mem_cons
theorem aI:type_of%@beq_eq_false_iff_ne:=@beq_eq_false_iff_ne
theorem aK:type_of%@List.all_eq_true:=@List.all_eq_true
theorem aL:type_of%@Nat.ne_of_lt:=@Nat.ne_of_lt
theorem aM:type_of%@List.size_toArray:=@List.size_toArray
theorem aN:type_of%@Int.natCast_nonneg:=@Int.natCast_nonneg
theorem aP:type_of%@List.getElem?_eq_getElem:=@List.getElem?_eq_getElem
theorem aQ:type_of%@List.length_append:=@List.length_append
theorem aR:type_of%@Heap.get?_push_size:=@Heap.get?_push_size
theorem aT:type_of%@decide_eq_false:=@decide_eq_false
theorem aU:type_of%@List.map_map:=@List.map_map
theorem ba:type_of%@List.mem_map:=@List.mem_map
theorem bf:type_of%@Nat.add_le_add_left:=@Nat.add_le_add_left
theorem bj:type_of%@List.nodup_cons:=@List.nodup_cons
theorem bq:type_of%@wpAny_holding:=@wpAny_holding
theorem br:type_of%@List.pairwise_map:=@List.pairwise_map
theorem bt:type_of%@Heap.lt_size:=@Heap.lt_size
theorem bu:type_of%@List.map_cons:=@List.map_cons
theorem bw:type_of%@Nat.zero_le:=@Nat.zero_le
theorem bz:type_of%@Nat.le_succ_of_le:=@Nat.le_succ_of_le
theorem bB:type_of%@List.getElem?_map:=@List.getElem?_map
theorem bF:type_of%@Nat.zero_add:=@Nat.zero_add
theorem bG:type_of%@Nat.add_le_add_right:=@Nat.add_le_add_right
theorem bH:type_of%@Nat.le_of_ble_eq_true:=@Nat.le_of_ble_eq_true
theorem bJ:type_of%@wpAny_call_entry:=@wpAny_call_entry
theorem bN:type_of%@Option.map_eq_some_iff:=@Option.map_eq_some_iff
theorem bP:type_of%@Nat.add_assoc:=@Nat.add_assoc
theorem bR:type_of%@List.mem_filter:=@List.mem_filter
theorem bS:type_of%@List.append_nil:=@List.append_nil
theorem bU:type_of%@Nat.mul_le_mul_right:=@Nat.mul_le_mul_right
theorem bV:type_of%@Nat.le_of_lt:=@Nat.le_of_lt
theorem bW:type_of%@Nat.le_of_eq:=@Nat.le_of_eq
theorem bZ:type_of%@List.length_cons:=@List.length_cons
theorem cb:type_of%@if_neg:=@if_neg
theorem cn:type_of%@Int.le_trans:=@Int.le_trans
theorem cq:type_of%@List.getElem?_toArray:=@List.getElem?_toArray
theorem cu:type_of%@Prod.mk.inj:=@Prod.mk.inj
theorem cw:type_of%@List.append_assoc:=@List.append_assoc
theorem cx:type_of%@Int.ofNat.inj:=@Int.ofNat.inj
theorem cz:type_of%@Int.ofNat_lt:=@Int.ofNat_lt
theorem cA:type_of%@wpAny_truthy_bool:=@wpAny_truthy_bool
theorem cB:type_of%@wpAny_dictEntries:=@wpAny_dictEntries
theorem cC:type_of%@Nat.succ_le_succ:=@Nat.succ_le_succ
theorem cF:type_of%@Nat.succ_add_eq_add_succ:=@Nat.succ_add_eq_add_succ
theorem cG:type_of%@Int.ofNat_le:=@Int.ofNat_le
theorem cH:type_of%@List.mem_of_getElem?:=@List.mem_of_getElem?
theorem cJ:type_of%@List.getD_eq_getElem?_getD:=@List.getD_eq_getElem?_getD
theorem cN:type_of%@Nat.succ_pos:=@Nat.succ_pos
theorem cO:type_of%@List.flatMap_cons:=@List.flatMap_cons
theorem cP:type_of%@List.sum_cons:=@List.sum_cons
theorem cQ:type_of%@List.cons.inj:=@List.cons.inj
theorem cR:type_of%@Nat.le_add_left:=@Nat.le_add_left
theorem cS:type_of%@Bool.false_ne_true:=@Bool.false_ne_true
theorem cW:type_of%@bm_if_false:=@bm_if_false
theorem cX:type_of%@wpAny_newObj_type:=@wpAny_newObj_type
theorem cZ:type_of%@Heap.get?_update_self:=@Heap.get?_update_self
theorem c9:type_of%@wpAny_of_eq:=@wpAny_of_eq
theorem da:type_of%@Nat.le_succ:=@Nat.le_succ
theorem de:type_of%@wpAny_standAt:=@wpAny_standAt
theorem di:type_of%@Nat.lt_trans:=@Nat.lt_trans
theorem dm:type_of%@if_pos:=@if_pos
theorem dq:type_of%@List.findIdx?_cons:=@List.findIdx?_cons
theorem dx:type_of%@List.length_filter_le:=@List.length_filter_le
theorem dy:type_of%@Nat.add_comm:=@Nat.add_comm
theorem dz:type_of%@Heap.SameBut.update:=@Heap.SameBut.update
theorem dA:type_of%@wpAny_callSpecial?_slot:=@wpAny_callSpecial?_slot
theorem dM:type_of%@Nat.ne_of_gt:=@Nat.ne_of_gt
theorem dN:type_of%@Nat.le_of_succ_le_succ:=@Nat.le_of_succ_le_succ
theorem dR:type_of%@List.nodup_nil:=@List.nodup_nil
theorem dY:type_of%@Nat.succ_lt_succ:=@Nat.succ_lt_succ
theorem dZ:type_of%@Nat.le_of_not_lt:=@Nat.le_of_not_lt
theorem d9:type_of%@Nat.le_of_lt_succ:=@Nat.le_of_lt_succ
theorem eD:type_of%@List.getElem?_eq_some_iff:=@List.getElem?_eq_some_iff
theorem eF:type_of%@Bool.eq_false_iff:=@Bool.eq_false_iff
theorem eH:type_of%@wpAny_notOrdered_dict:=@wpAny_notOrdered_dict
theorem eM:type_of%@Nat.lt_irrefl:=@Nat.lt_irrefl
theorem eO:type_of%@wpAny_items_nil:=@wpAny_items_nil
theorem eU:type_of%@of_decide_eq_false:=@of_decide_eq_false
theorem eW:type_of%@List.mem_append_left:=@List.mem_append_left
theorem fc:type_of%@of_decide_eq_true:=@of_decide_eq_true
theorem fj:type_of%@Nat.mul_comm:=@Nat.mul_comm
theorem fk:type_of%@Nat.lt_succ_of_le:=@Nat.lt_succ_of_le
theorem fq:type_of%@Nat.lt_of_succ_lt_succ:=@Nat.lt_of_succ_lt_succ
theorem ft:type_of%@List.mem_range:=@List.mem_range
theorem fy:type_of%@Nat.not_lt_zero:=@Nat.not_lt_zero
theorem fz:type_of%@Nat.le_antisymm:=@Nat.le_antisymm
theorem fM:type_of%@List.length_replicate:=@List.length_replicate
theorem fP:type_of%@wpAny_execs_cons:=@wpAny_execs_cons
theorem fS:type_of%@bm_if_true:=@bm_if_true
theorem fU:type_of%@List.pairwise_cons:=@List.pairwise_cons
theorem fZ:type_of%@Bool.and_eq_true:=@Bool.and_eq_true
theorem f6:type_of%@Option.isSome_iff_exists:=@Option.isSome_iff_exists
theorem f7:type_of%@Nat.pow_succ:=@Nat.pow_succ
theorem f9:type_of%@List.all_map:=@List.all_map
theorem gb:type_of%@Fast.sEq_iff:=@Fast.sEq_iff
theorem gA:type_of%@Nat.lt_add_of_pos_right:=@Nat.lt_add_of_pos_right
theorem gB:type_of%@List.length_eq_zero_iff:=@List.length_eq_zero_iff
theorem gJ:type_of%@PySem.F.slot_dict_valueiterator_next:=@PySem.F.slot_dict_valueiterator_next
theorem gK:type_of%@Nat.add_sub_cancel':=@Nat.add_sub_cancel'
theorem gT:type_of%@Nat.div_div_eq_div_mul:=@Nat.div_div_eq_div_mul
theorem gU:type_of%@Heap.get?_update_other:=@Heap.get?_update_other
theorem gV:type_of%@Array.getD_eq_getD_getElem?:=@Array.getD_eq_getD_getElem?
theorem g9:type_of%@List.mem_flatMap:=@List.mem_flatMap
theorem hV:type_of%@PySem.F.slot_dict_keyiterator_next:=@PySem.F.slot_dict_keyiterator_next
theorem ic:type_of%@Nat.lt_of_le_of_ne:=@Nat.lt_of_le_of_ne
theorem ij:type_of%@List.getElem?_eq_none:=@List.getElem?_eq_none
theorem iC:type_of%@Array.getElem?_eq_getElem:=@Array.getElem?_eq_getElem
theorem iH:type_of%@List.map_append:=@List.map_append
theorem iI:type_of%@List.length_set:=@List.length_set
theorem iJ:type_of%@Bool.eq_iff_iff:=@Bool.eq_iff_iff
theorem iK:type_of%@wpAny_loadPart_at:=@wpAny_loadPart_at
theorem iL:type_of%@typeIs_bytes:=@typeIs_bytes
theorem iN:type_of%@Nat.succ_mul:=@Nat.succ_mul
theorem iO:type_of%@Nat.le_of_succ_le:=@Nat.le_of_succ_le
theorem iP:type_of%@List.length_range:=@List.length_range
section
variable{α:Type}{x:α}{p:Prop}{l:List α}{b:Bool}{m:Type->Type}
theorem mK(h:none=some x):p:=Option.noConfusion rfl (heq_of_eq h)
theorem SW(h:some x=none):p:=Option.noConfusion rfl (heq_of_eq h)
theorem zNc(h: []=x::l):p:=List.noConfusion rfl (heq_of_eq h)
theorem ZA(h:x::l=[]):p:=List.noConfusion rfl (heq_of_eq h)
theorem eX(h:x∈([]:List α)):p:=absurd h List.not_mem_nil
inductive V where
 | none | bool (b:Bool) | int (i:Int) | Jw (k:Nat) | bytes (b:List UInt8)
 | tup (l:List V) | lst (l:List V) | df (l:List (V×V)) | inst (c:Nat) (l:List V) | glob (n:Nat) | ql (a b c:Int)
variable{e:V×V}{r:List (V×V)}
def lH:=@V.casesOn
def V.ctorIdx(x:V):Nat:=x.casesOn 0 (λZ=>1) (λZ=>2) (λZ=>3) (λZ=>4) (λZ=>5) (λZ=>6) (λZ=>7) (λZ Z=>8) (λZ=>9) (λZ Z Z=>10)
theorem V.tup.inj{a b:List V}(h:V.tup a=V.tup b):a=b:=V.noConfusion h id
theorem V.int.inj{a b:Int}(h:V.int a=V.int b):a=b:=V.noConfusion h id
theorem V.bool.inj{a:Bool}(h:V.bool a=V.bool b):a=b:=V.noConfusion h id
inductive aV where
 | inst (c:Nat) (l:List V) | list (l:List V) | dict (l:List (V×V)) | sd (ks:List Nat) (vs:List V) | dead
def aV.ctorIdx(x:aV):Nat:=x.casesOn (λZ Z=>0) (λZ=>1) (λZ=>2) (λZ Z=>3) 4
inductive LV where
 | v (x:V) | ol (l:List V) | od (l:List (V×V))
def LV.ctorIdx(x:LV):Nat:=x.casesOn (λZ=>0) (λZ=>1) (λZ=>2)
structure St where
 loc:List (Option LV)
 cv:List (Option V)
 W:List aV
variable{eE:Expr->St->Option (V×St)}
inductive Out where | ez | ret (v:V)
def Out.ctorIdx(x:Out):Nat:=x.casesOn 0 (λZ=>1)
inductive Tg where | one (i:Nat) | many (is:List Nat)
abbrev CF:=Nat->List V->List aV->Option (V×List aV)
def tp:V->Option Int
 | .int i=>some i
 | _=>none
def Si:V->Option Bool
 | .bool b=>some b
 | _=>none
def YP:V->Option (List UInt8)
 | .bytes b=>some b
 | _=>none
def ze:V->Option (List V)
 | .lst l=>some l
 | _=>none
def MC:V->Option (List V)
 | .tup l=>some l
 | _=>none
def asD:V->Option (List (V×V))
 | .df l=>some l
 | _=>none
def asG:V->Option Nat
 | .glob n=>some n
 | _=>none
def iv(b:Bool)(x:α):Option α:=bif b then some x else none
def jD{α β:Type}(f:α->Option β):List α->Option (List β)
 | []=>some []
 | x::r=>(f x).bind λa=>(jD f r).map (a::·)
abbrev dG:List V->Option (List Int):=jD tp
def kk:V->Nat
 | .int _=>1
 | .tup l=>bif(dG l).isSome then 2+l.length else 0
 | _=>0
def dK(k m:V):Bool:=match k with
 | .int a=>(tp m).any (a==·)
 | .tup l=>(MC m).any λb=>(dG l).any λx=>(dG b).any λy=>decide (x=y)
 | _=>false
def ju(k:V)(l:List (V×V)):Bool:=kk k != 0&&l.all λe=>kk e.1==kk k
def gS(l:List (V×V)):Bool:=decide (l.length<100000)
def ey(k:V):List (V×V)->Option V
 | []=>none
 | e::r=>bif dK e.1 k then some e.2 else ey k r
theorem Mg{k:V}:ey k (e::r)=bif dK e.1 k then some e.2 else ey k r:=rfl
def gq(k v:V):List (V×V)->List (V×V)
 | []=>[(k,v)]
 | e::r=>bif dK e.1 k then(e.1,v)::r else e::gq k v r
theorem sD{k v:V}:gq k v (e::r)=bif dK e.1 k then(e.1,v)::r else e::gq k v r:=rfl
def kI(k:V):List (V×V)->List (V×V)
 | []=>[]
 | e::r=>bif dK e.1 k then r else e::kI k r
theorem RP{k:V}:kI k (e::r)=bif dK e.1 k then r else e::kI k r:=rfl
def jM:List (V×V)->List (V×V)->List (V×V)
 | d,[]=>d
 | d,e::r=>jM (gq e.1 e.2 d) r
theorem D9{d:List (V×V)}:jM d (e::r)=jM (gq e.1 e.2 d) r:=rfl
def vf(f:V->V->Option Bool):List V->List V->Option Bool
 | [],[]=>some true
 | x::xs,y::ys=>(f x y).bind λb=>(vf f xs ys).map (b&&·)
 | _,_=>none
def abd(f:V->V->Option Bool)(x y:V):Option Bool:=match x with
 | .none=>match y with
  | .none=>some true
  | _=>none
 | .bool a=>(Si y).map (a==·)
 | .int a=>(tp y).map (a==·)
 | .bytes a=>(YP y).map (a==·)
 | .tup a=>(MC y).bind λb=>bif a.length==b.length then vf f a b else none
 | .lst a=>(ze y).bind λb=>bif a.length==b.length then vf f a b else some false
 | _=>none
def vg:Nat->V->V->Option Bool
 | 0=>λZ Z=>none
 | n+1=>abd (vg n)
abbrev zj:V->V->Option Bool:=vg 6
abbrev wt:List V->Option (List Bool):=jD Si
abbrev I6:List V->Option (List (List UInt8)):=jD YP
abbrev A1:List V->Option (List (List Int)):=jD λv=>(MC v).bind dG
def oA:List V->Option (V×V)
 | [a,b]=>some (a,b)
 | _=>none
abbrev nc:List V->Option (List (V×V)):=jD λv=>(MC v).bind oA
def iy(i:Int):Option UInt8:=bif decide (0<=i)&&decide (i<256)then some (UInt8.ofNat i.toNat)else none
abbrev toBytes:List Int->Option (List UInt8):=jD iy
def uu:List Int->List Int->Bool
 | _,[]=>false
 | [],_::_=>true
 | a::r,b::t=>bif decide (a<b)then true else bif decide (b<a)then false else uu r t
def DN{α:Type}(lt:α->α->Bool)(x:α):List α->List α
 | []=>[x]
 | y::r=>bif lt x y then x::y::r else y::DN lt x r
def jj{α:Type}(lt:α->α->Bool):List α->List α
 | []=>[]
 | x::r=>DN lt x (jj lt r)
def Fq(ts:List (List Int)):Bool:=ts.all λt=>t.length==(ts.headD []).length&&t.length != 0
def Pa(is:List Int):Option (List V):=bif decide is.Nodup then some ((jj (λa b=>decide (a<b)) is).map V.int)else none
def Ff(ts:List (List Int)):Option (List V):=bif Fq ts&&decide ts.Nodup then some ((jj uu ts).map λt=>V.tup (t.map V.int))else none
def nu(l:List V):Option (List V):=match dG l with
 | some is=>Pa is
 | none=>(A1 l).bind Ff
def m4:V->Bool
 | .none=>true
 | _=>false
def small(i:Int):Bool:=decide (-(2 ^ 62)<i)&&decide (i<2 ^ 62)
def jR(n:Nat):Bool:=decide (n<=100000)
def ii(a b:V)(f:Int->Int->Option V):Option V:=(tp a).bind λi=>(tp b).bind λj=>f i j
def YT(a b:V):Option V:=match a with
 | .int i=>(tp b).map λj=>.int (i+j)
 | .bytes x=>(YP b).bind λy=>iv (jR (x.length+y.length)) (.bytes (x++y))
 | .tup x=>(MC b).bind λy=>iv (jR (x.length+y.length)) (.tup (x++y))
 | .lst x=>(ze b).bind λy=>iv (jR (x.length+y.length)) (.lst (x++y))
 | _=>none
def VY(a b:V):Option V:=match a with
 | .int i=>(tp b).bind λj=>iv (small i&&small j) (.int (i*j))
 | .lst [x]=>(tp b).bind λn=>iv (decide (0<=n)&&decide (n<=200)) (.lst (List.replicate n.toNat x))
 | _=>none
def d7(o:Operator)(a b:V):Option V:=match o with
 | .Add=>YT a b
 | .Mult=>VY a b
 | .Sub=>ii a b λi j=>some (.int (i-j))
 | .FloorDiv=>ii a b λi j=>iv (decide (j≠0)&&decide (j.natAbs<1073741824)) (.int (i.fdiv j))
 | .Mod=>ii a b λi j=>iv (decide (j≠0)) (.int (i.fmod j))
 | .Pow=>ii a b λi j=>iv (decide (0<=j)&&decide (j<=1000)&&small i) (.int (i ^ j.toNat))
 | .LShift=>ii a b λi j=>iv (decide (0<=j)&&decide (j<=1000)&&small i) (.int (i*2 ^ j.toNat))
 | .RShift=>ii a b λi j=>iv (decide (0<=j)&&decide (j<=1000)) (.int (i.fdiv (2 ^ j.toNat)))
 | .BitAnd=>ii a b λi j=>iv (decide (0<=i)&&decide (0<=j)) (.int ((i.toNat&&&j.toNat:Nat):Int))
 | _=>none
def GD:Nat->V->Bool
 | 0,_=>false
 | n+1,v=>match v with
  | .int _=>true
  | .tup l=>l.all (GD n)
  | _=>false
def Lx(x:V):List V->Option Bool
 | []=>some false
 | y::r=>bif GD 3 y then(zj y x).bind λb=>(Lx x r).map (b||·)else none
theorem WD{x y:V}{r:List V}:Lx x (y::r)=bif GD 3 y then(zj y x).bind λb=>(Lx x r).map (b||·)else none:=rfl
def inD(k:V)(l:List (V×V)):Option Bool:=iv (ju k l) (ey k l).isSome
def eJ(W:List aV)(n:Nat):Option (List (V×V)):=match W[n]? with
 | some (.dict l)=>some l
 | _=>none
def pP(W:List aV)(n:Nat):Option (List V):=match W[n]? with
 | some (.list l)=>some l
 | _=>none
def lj(W:List aV)(n:Nat):Option (Nat×List V):=match W[n]? with
 | some (.inst c l)=>some (c,l)
 | _=>none
def inV(W:List aV)(k d:V):Option Bool:=match d with
 | .df l=>inD k l
 | .glob n=>(eJ W n).bind (inD k)
 | .lst l=>Lx k l
 | _=>none
def WG(a b:V)(f:Int->Int->Bool):Option Bool:=(tp a).bind λi=>(tp b).map λj=>f i j
def iA(W:List aV)(o:CmpOp)(a b:V):Option Bool:=match o with
 | .In=>inV W a b
 | .NotIn=>(inV W a b).map (!·)
 | .Eq=>zj a b
 | .NotEq=>(zj a b).map (!·)
 | .Lt=>WG a b λi j=>decide (i<j)
 | .LtE=>WG a b λi j=>decide (i<=j)
 | .Gt=>WG a b λi j=>decide (j<i)
 | .GtE=>WG a b λi j=>decide (j<=i)
 | _=>none
def idx(i:Int)(n:Nat):Option Nat:=bif decide (0<=i)&&decide (i<n)then some i.toNat else none
def U7(ks:List Nat)(vs:List V)(k:V):Option V:=match k with
 | .Jw s=>(ks.findIdx? (· ==s)).bind (vs[·]?)
 | _=>none
def Eb(k:V)(l:List (V×V)):Option V:=bif ju k l then ey k l else none
def lR(W:List aV)(a i:V):Option V:=match a with
 | .lst l=>(tp i).bind λk=>(idx k l.length).bind (l[·]?)
 | .tup l=>(tp i).bind λk=>(idx k l.length).bind (l[·]?)
 | .bytes l=>(tp i).bind λk=>(idx k l.length).bind λj=>(l[j]?).map λb=>V.int b.toNat
 | .df l=>Eb i l
 | .glob n=>match W[n]? with
  | some (.dict l)=>Eb i l
  | some (.sd ks vs)=>U7 ks vs i
  | _=>none
 | _=>none
def IY:V->Option (Option Int)
 | .none=>some none
 | .int i=>some (some i)
 | _=>none
def Ee(a b:Option Int)(l:List α):List α:=(l.drop (a.elim 0 (clipAt l.length))).take (b.elim l.length (clipAt l.length)-a.elim 0 (clipAt l.length))
def RU(lo hi:V)(l:List α):Option (List α):=(IY lo).bind λa=>(IY hi).map λb=>Ee a b l
def pI(a lo hi:V):Option V:=match a with
 | .lst l=>(RU lo hi l).map V.lst
 | .bytes l=>(RU lo hi l).map V.bytes
 | .tup l=>bif m4 lo then(tp hi).bind λq=>iv (decide (0<=q)&&decide (q<l.length)) (.tup (l.take q.toNat))else none
 | _=>none
def AR:Nat->List Nat
 | 0=>[0,1,2,3]
 | 1=>[4,5,6,7,8,0,1,9,10,11,3]
 | 2=>[5,12,13,14,15,16,17]
 | 3=>[18,19,5,20,21,22,17]
 | 4=>[23,24,25,26,27]
 | 5=>[18,17,28,29]
 | 6=>[23,30,31,32,33,34,35,36,37,38,39]
 | _=>[]
def Rc(c a:Nat):Option Nat:=(AR c).findIdx? (· ==a)
def K2:List (Nat×Nat×Nat):=[(1,40,30),(2,40,31),(3,41,32),(3,42,33),(3,43,34),(3,44,35),(3,45,36),(3,27,37),(3,46,38),(3,47,39),(4,48,40),(4,49,41),(4,50,42),(4,51,43),(4,52,44),(5,53,45),(5,54,46)]
def KZ(c f:Nat):Option Nat:=(K2.find? λp=>p.1==c&&p.2.1==f).map (·.2.2)
def abA(a b c:Int):Option (List V):=iv (Builtin.Range.small a b c&&decide (0<=Builtin.Range.rangeSize a b c)) ((List.range (Builtin.Range.rangeSize a b c).toNat).map λ(i:Nat)=>V.int (a+(i:Int)*c))
def one? :List V->Option V
 | [a]=>some a
 | _=>none
def Hi:V->Option V
 | .lst l=>some (.int l.length)
 | .tup l=>some (.int l.length)
 | .bytes l=>some (.int l.length)
 | _=>none
def UX(v:V):Option V:=(ze v).bind λl=>(dG l).bind λis=>iv (jR is.length&&is.all λi=>decide (0<=i)&&decide (i<2 ^ 40)) (.int is.sum)
def G7:List Int->Option V
 | []=>none
 | i::r=>some (.int (r.foldl (λm j=>bif decide (m<j)then j else m) i))
def U2(l:List V):Option V:=bif decide (l.length<64)then(nu l).map V.lst else none
def Ai(W:List aV):V->Option (List V)
 | .lst l=>some l
 | .df l=>some (l.map (·.1))
 | .glob n=>(eJ W n).map λl=>l.map (·.1)
 | _=>none
def Me(ps:List (V×V)):Option V:=iv (decide (ps.length<=1000)&&ps.all (λe=>ju e.1 ps)) (.df (jM [] ps))
def YG:V->Option V
 | .int n=>iv (decide (0<=n)&&decide (n<=1000)) (.bytes (List.replicate n.toNat 0))
 | .lst l=>((dG l).bind toBytes).map V.bytes
 | .bytes l=>some (.bytes l)
 | _=>none
def Vj:List V->Option V
 | [b]=>(tp b).map λb=>.ql 0 b 1
 | [a,b]=>ii a b λa b=>some (.ql a b 1)
 | [a,b,c]=>ii a b λa b=>(tp c).bind λc=>iv ((decide (0<c)&&decide (c<1000))||decide (c= -1)) (.ql a b c)
 | _=>none
def WB:V->Bool
 | .df _=>true
 | _=>false
def jN(W:List aV)(k:Nat)(as:List V):Option V:=match k with
 | 0=>(one? as).bind Hi
 | 1=>(one? as).bind UX
 | 2=>(one? as).bind λa=>(YP a).map λl=>.bool (l.any (· != 0))
 | 3=>(one? as).bind λa=>(ze a).bind λl=>(wt l).map λbs=>.bool (bs.all id)
 | 4=>(oA as).bind λp=>ii p.1 p.2 λa b=>some (.int (bif decide (b<a)then b else a))
 | 5=>match as with
  | [a]=>(ze a).bind λl=>(dG l).bind G7
  | as=>(oA as).bind λp=>ii p.1 p.2 λa b=>some (.int (bif decide (a<b)then b else a))
 | 6=>(one? as).bind λa=>bif WB a then none else(Ai W a).bind U2
 | 7=>(one? as).bind λa=>(Ai W a).map V.lst
 | 8=>(one? as).bind λa=>(ze a).bind λl=>(nc l).bind Me
 | 9=>(one? as).bind λa=>(ze a).map V.tup
 | 10=>(one? as).bind YG
 | 11=>Vj as
 | _=>none
def ZV(i:Int):Bool:=decide (0<=i)&&decide (i<8)
def je(m:List (V×V)):Bool:=m.all λe=>(MC e.1).any λl=>(oA l).any λp=>(tp p.1).any ZV&&(tp p.2).any ZV
def abJ(W:List aV)(n:Nat)(l:List V):Option (V×List aV):=l.getLast?.map λv=>(v,W.set n (.list l.dropLast))
def KD(W:List aV)(n:Nat)(k:V)(l:List (V×V)):Option (V×List aV):=bif ju k l&&gS l then(ey k l).map λv=>(v,W.set n (.dict (kI k l)))else none
def abe(W:List aV)(n:Nat)(l m:List (V×V)):Option (V×List aV):=iv (l.isEmpty&&gS m&&je m) (.none,W.set n (.dict m))
def bmG(W:List aV)(n f:Nat)(as:List V):Option (V×List aV):=
 bif f==56 then(bif as.isEmpty then(pP W n).bind (abJ W n)else(one? as).bind λk=>(eJ W n).bind (KD W n k))else
 bif f==57 then(oA as).bind λp=>(eJ W n).bind λl=>iv (ju p.1 l) ((ey p.1 l).getD p.2,W)else
 bif f==58 then(eJ W n).bind λl=>iv (as.isEmpty&&gS l) (.none,W.set n (.dict []))else
 bif f==59 then(one? as).bind λa=>(asD a).bind λm=>(eJ W n).bind λl=>abe W n l m else none
def CQ(W:List aV)(o:V)(f:Nat)(as:List V):Option (V×List aV):=match o with
 | .bytes b=>bif b.isEmpty&&f==55 then(one? as).bind λa=>(ze a).bind λl=>(I6 l).bind λbs=>iv (jR bs.flatten.length&&decide (l.length<=1000)&& !l.isEmpty) (.bytes bs.flatten,W)else none
 | .glob n=>bmG W n f as
 | _=>none
def wm(W:List aV):V->Option Nat
 | .bytes _=>some 1
 | .glob n=>match W[n]? with
  | some (.list _)=>some 2
  | some (.dict _)=>some 3
  | _=>none
 | _=>none
def fld(f:Nat)(p:Nat×List V):Option V:=(Rc p.1 f).bind (p.2[·]?)
def Oy(W:List aV)(f:Nat):V->Option V
 | .inst c l=>fld f (c,l)
 | .glob n=>(lj W n).bind (fld f)
 | _=>none
def Gy(c:Nat)(l:List V)(f:Nat)(v:V):Option (List V):=(Rc c f).bind λj=>bif decide (j<l.length)then some (l.set j v)else iv (j==l.length) (l++ [v])
def Kk(W:List aV)(o:V)(f:Nat)(v:V):Option (List aV):=(asG o).bind λn=>(lj W n).bind λp=>(Gy p.1 p.2 f v).map λl=>W.set n (.inst p.1 l)
def Ni(ks:List Nat)(vs:List V)(k v:V):Option (List V):=match k with
 | .Jw s=>(ks.findIdx? (· ==s)).bind λj=>iv (decide (j<vs.length)) (vs.set j v)
 | _=>none
def Dh(W:List aV)(o k v:V):Option (List aV):=(asG o).bind λn=>match W[n]? with
 | some (.dict l)=>iv (ju k l&&gS l) (W.set n (.dict (gq k v l)))
 | some (.sd ks vs)=>(Ni ks vs k v).map λzi=>W.set n (.sd ks zi)
 | _=>none
def CN(W:List aV):V->Option Nat
 | .inst c _=>some c
 | .glob n=>(lj W n).map (·.1)
 | _=>none
mutual
noncomputable def tv(n:Nat):V->Bool
 | .glob k=>Nat.blt k n
 | .tup l=>lP n l
 | .lst l=>lP n l
 | .df l=>tu n l
 | .inst _ l=>lP n l
 | _=>true
noncomputable def lP(n:Nat):List V->Bool
 | []=>true
 | x::r=>tv n x&&lP n r
noncomputable def tu(n:Nat):List (V×V)->Bool
 | []=>true
 | (x,y)::r=>tv n x&&tv n y&&tu n r
end
def nk(n:Nat):aV->Bool
 | .inst _ l=>lP n l
 | .list l=>lP n l
 | .dict l=>tu n l
 | .sd _ l=>lP n l
 | .dead=>true
abbrev pw:Program:=PySem.Challenge.pw_np0205_01
def iM(x:Str):List Str->Option Nat
 | []=>none
 | y::r=>bif Fast.sEq y x then some 0 else(iM x r).map (· +1)
theorem QK{x y:Str}{r:List Str}:iM x (y::r)=bif Fast.sEq y x then some 0 else(iM x r).map (· +1):=rfl
def gH{α:Type}(x:Str):List (Str×α)->Option α
 | []=>none
 | p::r=>bif Fast.sEq p.1 x then some p.2 else gH x r
theorem BS{x:Str}{p:Str×α}{r:List (Str×α)}:gH x (p::r)=bif Fast.sEq p.1 x then some p.2 else gH x r:=rfl
def tQ:List Str:=List.map Str.ofString ["packed","summed","copies","dedup","dvas","kind","level","lsize","psize","birth","fill","sum","block","levels","most","bonus","pointer","used","io","shape","rules","txg","keeper","sector","blocks","gone","next","written","born_many","freed_many",
 "slab","record","fan","dnodes","ring","defer","most_record","uber","config","zap","plain","drop","drop_all","put","joined","children","lowered","trimmed","write","want","read","free","live","born","freed","join","pop","get","clear","update","values","append","extend"]
def Pz:List Str:=List.map Str.ofString ["fan","blocks","births","most","levels"]
def LK:List (Str×Int):=List.map (λp=>(Str.ofString p.1,p.2)) [("FILE",8),("POINTER",53),("MOST_PLACES",3),("PLACE",7),("PARTS",22),("MANY_KINDS",18),("MANY_PACKINGS",4),("MANY_SUMS",4),("PLAIN",0),("OFF",0),("FLETCHER4",2),("DNODES",3),("DNODE",97),("MOST_LEVELS",12),("MOST_BLOCKS",16777215),("BONUS",32)]
def qI:List (Str×Nat):=List.map (λp=>(Str.ofString p.1,p.2)) [("len",0),("sum",1),("any",2),("all",3),("min",4),("max",5),("sorted",6),("list",7),("dict",8),("tuple",9),("bytes",10),("range",11),
 ("number_of",47),("octets_of",48),("meta_rules",49),("is_same",50),("dsize",51),("pointer_octets",52),("pointer_of",53),("pointers_octets",54),("pointers_of",55),("levels_for",56),("most_blocks",57),("find_pointer",58),("read_block",59),("beneath",60),("pointers",61),("fill_of",62),
 ("are_same",63),("write_blocks",64),("cut",65),("drop_tree",66),("_law_take",67),("_law_levels",68),("_law_ways",69),("_law_spread",70),("_law_wrote",71),("_law_was_cut",72),("_law_rows",73),("_law_are_places_right",74),("_law_is_right",75),
 ("Rules",90),("Pointer",91),("Dnode",92),("TreeWriter",93),("Heap",94),("Plain",95)]
structure gr where
 vn:List (Str×Bool)
 zd:List Str
 y0:List (Str×NameKind)
 cmp:Bool
 jx:Bool
def fR(k:gr)(x:Str):Bool:=match gH x k.y0 with
 | some .globalImplicit=>true
 | _=>false
def Ao(k:gr)(x:Str):Bool:=match gH x k.y0 with
 | some .free=>true
 | _=>false
def fQ(x:Str):Bool:= !Fast.sEq x "__debug__"
def rf(k:gr)(x:Str):Option Nat:=(iM x (k.vn.map (·.1))).bind λi=>iv (!k.cmp||(Ao k x&&(k.vn[i]?).any (·.2))) i
def eP(k:gr)(x:Str):Option Nat:=bif k.cmp then none else iM x (k.vn.map (·.1))
def WA(n:NameKind):Bool:=match n with
 | .local=>true
 | _=>false
def eR(sc:Scope):List Str:=(sc.names.filter λp=>WA p.2&& !Fast.sEq p.1 ".0").map (·.1)
def vF(f:Expr->Option Nat):List Expr->Option (List Nat)
 | []=>some []
 | e::r=>(f e).bind λa=>(vF f r).map (a::·)
def mh:Expr->Option Str
 | .Name x _=>some x
 | _=>none
def wV:Expr->Option (List Expr)
 | .Tuple es _ _=>some es
 | _=>none
def pO(f:Str->Option Nat)(e:Expr):Option Nat:=(mh e).bind f
def rh(f:Str->Option Nat)(e:Expr):Option Tg:=match mh e with
 | some x=>(f x).map .one
 | none=>(wV e).bind λes=>(vF (pO f) es).map .many
def lQ:Expr->Nat
 | .Starred .. =>1
 | .Set .. =>2
 | .Slice .. =>3
 | .List [] _=>5
 | .Dict [] [] _=>6
 | _=>0
def pT:Tg->Bool
 | .many _=>true
 | _=>false
def ui(k:gr)(sc:Scope):Bool:=
 !k.cmp&&(match sc.kind with | .function=>true | _=>false)&& !sc.isGenerator&& !sc.isCoroutine&&sc.names.all (λp=>match p.2 with | .local=>true | .free=>(match gH p.1 k.y0 with | some .cell=>true | _=>false) | .globalImplicit=>true | _=>false)&&
 decide ((sc.names.map (·.1)).Nodup)&& !(eR sc).isEmpty&&(match gH ".0" sc.names with | some .local=>true | _=>false)
def qd(k:gr)(sc:Scope):gr:={vn:=k.vn,zd:=eR sc,y0:=sc.names,cmp:=true,jx:=k.jx}
def j4(sc:Scope)(w:Bool):gr:={vn:=(sc.names.filter λp=>match p.2 with | .local=>true | .cell=>true | _=>false).map (λp=>(p.1,match p.2 with | .cell=>true | _=>false)),zd:=[],y0:=sc.names,cmp:=false,jx:=w}
def jb(e:Expr):Bool:=lQ e != 2
def notStar(e:Expr):Bool:=lQ e != 1
def gP:Expr->Bool
 | .Call (.Name _ _) [] [] _=>false
 | _=>true
def jG:Nat->Str:=λk=>(Pz[k]?).getD "levels"
inductive Vw where
 | cst (v:V) | var (i:Nat) | cv (j:Nat) | gi (i:Int)
 | not (e:Expr) | neg (i:Int) | S4 (e:Expr)
 | bin (o:Operator) (a b:Expr) | cmp (o:CmpOp) (a b:Expr) | Mj (o p:CmpOp) (a b d:Expr)
 | S6 (ng:Bool) (a:Expr) | ZU (ng:Bool) (a:Expr) | ZT (ng:Bool) (a:Expr)
 | boo (an:Bool) (es:List Expr) | ite (c a b:Expr) | attr (o:Expr) (f:Nat) | sub (o i:Expr) | ZJ (o:Expr) (lo hi:Option Expr) | rev (o:Expr)
 | tup (es:List Expr) | lst (es:List Expr) | df (ks:List (Option Expr)) (vs:List Expr) | C7 | JR (ks:List (Option Expr)) (vs:List Expr)
 | call (n:Nat) (es:List Expr) | ZR (e:Expr) | ZQ (o:Expr) (f:Nat) (es:List Expr)
 | lc (sc:Scope) (t:Tg) (it:Expr) (cs:List Expr) (elt:Expr) | Wh (sc:Scope) (t:Tg) (it:Expr) (t2:Tg) (ki:Expr) (elt:Expr)
 | bad
def oB(o:Option α)(f:α->Vw):Vw:=match o with
 | some a=>f a
 | none=>.bad
def jO(b:Bool)(v:Vw):Vw:=bif b then v else .bad
def ve:Const->Vw
 | .none=>.cst .none
 | .bool b=>.cst (.bool b)
 | .int i=>.cst (.int i)
 | .str s=>oB (iM s Pz) λn=>.cst (.Jw n)
 | .bytes b=>jO (jR b.length) (.cst (.bytes b))
 | _=>.bad
def E9(k:gr)(x:Str):Vw:=jO (fQ x) (match iM x k.zd with
 | some j=>.cv j
 | none=>match rf k x with
  | some i=>.var i
  | none=>jO (fR k x) (oB (gH x LK) .gi))
def UH:Expr->Vw
 | .Constant (.int i) _ _=>.neg i
 | e=>.S4 e
def qS:Expr->Bool
 | .Constant .none _ _=>true
 | _=>false
def J0(ng:Bool)(a b:Expr):Vw:=bif lQ b==6 then .ZU ng a else bif lQ b==5 then .ZT ng a else jO (jb b) (.cmp (bif ng then .NotEq else .Eq) a b)
def Fc(o:CmpOp)(a b:Expr):Vw:=match o with
 | .Is=>jO (qS b) (.S6 false a)
 | .IsNot=>jO (qS b) (.S6 true a)
 | .Eq=>J0 false a b
 | .NotEq=>J0 true a b
 | o=>jO (jb b) (.cmp o a b)
def M9(a:Expr)(os:List CmpOp)(bs:List Expr):Vw:=match os,bs with
 | [o],[b]=>Fc o a b
 | [o,p],[b,d]=>jO (jb b&&jb d) (.Mj o p a b d)
 | _,_=>.bad
def Lq:Expr->Bool
 | .UnaryOp .USub (.Constant (.int j) _ _) _=>decide (j=1)
 | _=>false
def M8(o:Expr):Expr->Vw
 | .Slice lo hi none _=>.ZJ o lo hi
 | .Slice none none (some e) _=>jO (Lq e) (.rev o)
 | .Slice .. =>.bad
 | e=>.sub o e
def Hx:List (Option Expr)->Bool
 | some (.Constant (.str _) _ _)::_=>true
 | _=>false
def sX:List (Option Expr)->Bool
 | []=>true
 | some _::r=>sX r
 | none::_=>false
def Fb(ks:List (Option Expr))(vs:List Expr):Vw:=match ks with
 | []=>jO vs.isEmpty .C7
 | _::_=>jO (decide (ks.length<=15)&&ks.length==vs.length&&sX ks) (bif Hx ks then .JR ks vs else .df ks vs)
def Fd(k:gr)(p:Pos)(f:Expr)(es:List Expr)(DD:List Keyword):Vw:=match f with
 | .Name x _=>jO (fR k x) (match DD with
  | []=>jO (es.all notStar&&decide (es.length<=30)) (oB (gH x qI) λn=>.call n es)
  | [⟨some g,e,_⟩]=>jO (es.isEmpty&&Fast.sEq x "Shape" &&Fast.sEq g "fan") (.ZR e)
  | _=>.bad)
 | .Attribute o n ap=>jO (DD.isEmpty&&gP o&&ap.endLine==p.line&&es.all notStar&&decide (es.length<30)) (oB (iM n tQ) λf=>.ZQ o f es)
 | _=>.bad
def UI(k:gr)(sc:Scope)(elt:Expr):List Comprehension->Vw
 | [⟨te,it,cs,ia⟩]=>jO (ia==0&&ui k sc&&jb it) (oB (rh (iM · (eR sc)) te) λt=>.lc sc t it cs elt)
 | [⟨te,it,[],ia⟩,⟨pz,ki,[],ib⟩]=>jO (ia==0&&ib==0&&ui k sc&&jb it&&jb ki) (oB (rh (iM · (eR sc)) te) λt=>oB (rh (iM · (eR sc)) pz) λt2=>.Wh sc t it t2 ki elt)
 | _=>.bad
def vw(k:gr):Expr->Vw
 | .Constant c _ _=>ve c
 | .Name x _=>E9 k x
 | .UnaryOp o e _=>match o with
  | .Not=>.not e
  | .USub=>UH e
  | _=>.bad
 | .BinOp a o b _=>.bin o a b
 | .Compare a os bs _=>M9 a os bs
 | .BoolOp o es _=>jO (decide (2<=es.length)) (.boo (match o with | .And=>true | .Or=>false) es)
 | .IfExp c a b _=>.ite c a b
 | .Attribute o n _=>jO (gP o) (oB (iM n tQ) λf=>.attr o f)
 | .Subscript o s _=>M8 o s
 | .Tuple es _ _=>jO (es.all notStar&&decide (es.length<=100)) (.tup es)
 | .List es _=>jO (es.all notStar&&decide (es.length<=100)) (.lst es)
 | .Dict ks vs _=>Fb ks vs
 | .Call f es DD p=>Fd k p f es DD
 | .ListComp e gs sc _=>UI k sc e gs
 | _=>.bad
inductive Kv where
 | plain (e:Expr) | enum (e:Expr) | zip (a b:Expr) | vals (o:Expr)
def oK(k:gr)(it:Expr):Kv:=match it with
 | .Call (.Name n _) [e] [] _=>bif Fast.sEq n "enumerate" &&fR k n&&notStar e then .enum e else .plain it
 | .Call (.Name n _) [a,b] [] _=>bif Fast.sEq n "zip" &&fR k n&&notStar a&&notStar b then .zip a b else .plain it
 | .Call (.Attribute o n ap) [] [] p=>bif Fast.sEq n "values" &&gP o&&ap.endLine==p.line then .vals o else .plain it
 | _=>.plain it
inductive Ev where
 | x (e:Expr) | ol | od | wd
inductive Tv where
 | v (i:Nat) | a (o:Expr) (f:Nat) | bad
inductive Sv where
 | exp (e:Expr) | app (i:Nat) (e:Expr) | ext (i:Nat) (e:Expr)
 | Es (i:Nat) (e:Expr) | Mz (i:Nat) (es:List Expr) | MA (i:Nat) | Mx (i:Nat) (e:Expr)
 | MB (o:Expr) (f:Nat) (e:Expr) | Sh (o j e:Expr) | My (i:Nat) (o j e:Expr) | Mw (ts:List Expr) (es:List Expr) | ZE (is:List Nat) (e:Expr)
 | ite (c:Expr) (a b:List Stmt) | ZC (c:Expr) (b:List Stmt) | for(t:Tg) (it:Expr) (b:List Stmt) | ret (e:Expr) | Kr
 | bad
def uo(o:Option α)(f:α->Sv):Sv:=match o with
 | some a=>f a
 | none=>.bad
def xj(b:Bool)(v:Sv):Sv:=bif b then v else .bad
def Qc:List Expr->Option Expr
 | [a]=>some a
 | _=>none
def apx(n:Nat):Option Bool:=bif Nat.beq n 61 then some true else bif Nat.beq n 62 then some false else none
def zt(k:gr)(e:Expr)(p:Pos)(o:Expr)(n:Str)(ap:Pos)(es:List Expr):Sv:=match(iM n tQ).bind λf=>(apx f).bind λb=>(mh o).bind λx=>(Qc es).map λa=>(b,x,a)with
 | some q=>xj (ap.endLine==p.line&&fQ q.2.1&&notStar q.2.2) (uo (eP k q.2.1) λi=>bif q.1 then .app i q.2.2 else .ext i q.2.2)
 | none=>.exp e
def FC(k:gr)(e:Expr):Sv:=match e with
 | .Call (.Attribute o n ap) es [] p=>zt k e p o n ap es
 | .Call .. =>.exp e
 | _=>.bad
def listOf:Expr->Option (List Expr)
 | .List es _=>some es
 | _=>none
def Gh:Expr->Option (Expr×Expr)
 | .Subscript o (.Slice none none (some e) _) _=>some (o,e)
 | _=>none
def zr(k:gr)(i:Nat)(v:Expr):Sv:=bif lQ v==6 then .MA i else match listOf v with
 | some es=>xj (es.all notStar&&decide (es.length<=100)) (.Mz i es)
 | none=>bif k.jx then(match Gh v with
  | some q=>xj (Lq q.2) (.Mx i q.1)
  | none=>.Es i v)else .Es i v
def GI(k:gr)(e:Expr):Bool:=lQ e==5||(lQ e==6&& !k.jx)
def FA(k:gr)(ts:List Expr)(v:Expr):Sv:=match wV v with
 | some vs=>xj (ts.length==vs.length&&decide (vs.countP (GI k)<=1)&&decide (vs.length<=100)&&(vs.all (foldedForSure 8)|| !(vs.all (constantsAlone 8)))&&vs.all notStar) (.Mw ts vs)
 | none=>uo (vF (pO (eP k)) ts) λis=>.ZE is v
def Pw(k:gr)(o j v:Expr):Sv:=xj (lQ j != 3) (match(mh o).bind λx=>(eP k x).map λi=>(x,i)with
 | some p=>xj (fQ p.1) (.My p.2 o j v)
 | none=>.Sh o j v)
def Ng(k:gr)(t v:Expr):Sv:=match t with
 | .Name x _=>uo (eP k x) λi=>zr k i v
 | .Attribute o n _=>uo (iM n tQ) λf=>.MB o f v
 | .Subscript o j _=>Pw k o j v
 | .Tuple ts _ _=>FA k ts v
 | _=>.bad
def sv(k:gr):Stmt->Sv
 | .Expr e _=>FC k e
 | .Assign ts v _=>match ts with
  | [t]=>Ng k t v
  | _=>.bad
 | .If c a b _=>.ite c a b
 | .While c b [] _=>.ZC c b
 | .For t it b [] _=>xj (jb it) (uo (rh (eP k) t) λt=>.for t it b)
 | .Return e _=>match e with
  | some e=>.ret e
  | none=>.Kr
 | _=>.bad
def RA(k:gr)(v:Expr):Ev:=bif lQ v==5 then .ol else bif lQ v==6 then(bif k.jx then .wd else .od)else .x v
def Fl(k:gr):Expr->Tv
 | .Name x _=>match eP k x with
  | some i=>.v i
  | none=>.bad
 | .Attribute o n _=>match iM n tQ with
  | some f=>.a o f
  | none=>.bad
 | _=>.bad
inductive An where
 | b (x:Bool) | v (x:V) | c (x:V×List aV) | w (x:List aV) | o (x:Out×St) | l (x:List V×St) | i (x:V×List V) | vs (x:List V)
variable{d:An->Option α}
def An.b? :An->Option Bool
 | .b x=>some x
 | _=>none
def An.v? :An->Option V
 | .v x=>some x
 | _=>none
def An.c? :An->Option (V×List aV)
 | .c x=>some x
 | _=>none
def An.w? :An->Option (List aV)
 | .w x=>some x
 | _=>none
def An.o? :An->Option (Out×St)
 | .o x=>some x
 | _=>none
def An.l? :An->Option (List V×St)
 | .l x=>some x
 | _=>none
def An.i? :An->Option (V×List V)
 | .i x=>some x
 | _=>none
def An.vs? :An->Option (List V)
 | .vs x=>some x
 | _=>none
structure Mo (m:Type->Type)where
 ret:{α:Type}->α->m α
 bx:{α β:Type}->m α->(α->m β)->m β
 lift:{α:Type}->Option α->m α
 ask:{α:Type}->(An->Option α)->Option α->m α->m α
def bT:Mo Option:=⟨some,Option.bind,id,λZ Z d=>d⟩
section
variable(M:Mo m)
def Mo.fail:m α:=M.lift none
def Mo.q(d:An->Option α)(x:Option α):m α:=M.ask d x (M.lift x)
def Mo.qb(v:V):m Bool:=M.q An.b? (Si v)
def Mo.gd(b:Bool):m Bool:=M.bx (M.q An.b? (some b)) λc=>bif c then M.ret true else M.fail
end
def nV:LV->V
 | .v x=>x
 | .ol l=>.lst l
 | .od l=>.df l
def DS(σ:St)(i:Nat):Option (V×St):=(σ.loc[i]?).bind λo=>o.bind λlv=>match lv with
 | .v x=>some (x,σ)
 | lv=>some (nV lv,{σ with loc:=σ.loc.set i (~~~(nV lv))})
def zA(σ:St)(i:Nat)(lv:LV):Option St:=iv (decide (i<σ.loc.length)) {σ with loc:=σ.loc.set i (some lv)}
def Di(σ:St)(i:Nat)(v:V):Option St:=iv (decide (i<σ.cv.length)) {σ with cv:=σ.cv.set i (some v)}
def pJ(st:St->Nat->V->Option St):List Nat->List V->St->Option St
 | [],[],σ=>some σ
 | i::is,v::vs,σ=>(st σ i v).bind λcg=>pJ st is vs cg
 | _,_,_=>none
def qu(st:St->Nat->V->Option St)(σ:St):Tg->V->Option St
 | .one i,v=>st σ i v
 | .many is,v=>(MC v).bind λvs=>pJ st is vs σ
abbrev PE(σ:St)(i:Nat)(v:V):Option St:=zA σ i (.v v)
def zX(σ:St)(i:Nat):Option (List V):=(σ.loc[i]?).bind λo=>o.bind λlv=>match lv with
 | .ol l=>some l
 | _=>none
def Qd(σ:St)(i:Nat):Option (List (V×V)):=(σ.loc[i]?).bind λo=>o.bind λlv=>match lv with
 | .od l=>some l
 | _=>none
def asS:V->Option Nat
 | .Jw k=>some k
 | _=>none
def Lu(l:List (V×V)):Option (List Int):=(dG (l.map (·.1))).bind λis=>iv (decide is.Nodup) is
def Ki(l:List (V×V)):Option (List Nat):=(jD asS (l.map (·.1))).bind λns=>iv (decide (ns.map jG).Nodup) ns
def eQ(i:Int):List V->List V
 | []=>[]
 | v::r=>.tup [.int i,v]::eQ (i+1) r
def jh(W:List aV)(v:V):Option (V×List V):=match v with
 | .lst l=>some (v,l)
 | .tup l=>some (v,l)
 | .ql a b c=>(abA a b c).map λl=>(v,l)
 | .df l=>some (v,l.map (·.1))
 | .glob n=>(eJ W n).map λl=>(v,l.map (·.1))
 | _=>none
def Oh:V->Option (V×List V)
 | .lst l=>some (.none,eQ 0 l)
 | .bytes l=>some (.none,eQ 0 (l.map λb=>V.int b.toNat))
 | _=>none
def Tz(a b:V):Option (V×List V):=(ze a).bind λl=>(ze b).map λr=>(.none,(l.zip r).map λp=>.tup [p.1,p.2])
def Nb(W:List aV)(v:V):Option (V×List V):=(asG v).bind λn=>(eJ W n).map λl=>(v,l.map (·.2))
def hold(o:V)(W:List aV):List aV:=match o with
 | .glob n=>W.set n .dead
 | _=>W
def nG(o:V)(A3 W:List aV):List aV:=match o with
 | .glob n=>W.set n ((A3[n]?).getD .dead)
 | _=>W
def kU(v:V):List V:=[.int 16,.int 32,.int 32,v,.int 4,.int 4,.int 2,.int 128,.int 192,.int 160,.int 128]
def NF(W:List aV)(o:V)(f:Nat):Option (Bool×Nat):=match CN W o with
 | some c=>(KZ c f).map λk=>(true,k)
 | none=>(wm W o).map λb=>(false,b)
def HB(W:List aV)(n c:Nat):Option (List V):=(lj W n).bind λp=>iv (p.1==c) p.2
def Wz:List aV->Nat->Bool:=λW n=>W.length==n+1
section
variable(M:Mo m)(cf:CF)
def su(ev:Expr->St->m (V×St)):List Expr->St->m (List V×St)
 | [],σ=>M.ret ([],σ)
 | e::r,σ=>M.bx (ev e σ) λp=>M.bx (su ev r p.2) λq=>M.ret (p.1::q.1,q.2)
theorem Cy{ev:Expr->St->m (V×St)}{e:Expr}{r:List Expr}{σ:St}:su M ev (e::r) σ=M.bx (ev e σ) λp=>M.bx (su M ev r p.2) λq=>M.ret (p.1::q.1,q.2):=rfl
def LW(ev:Expr->St->m (V×St))(an:Bool):List Expr->St->m (V×St)
 | [],σ=>M.ret (.bool an,σ)
 | e::r,σ=>M.bx (ev e σ) λp=>M.bx (M.qb p.1) λb=>bif b==an then LW ev an r p.2 else M.ret (.bool b,p.2)
def GL(ev:Expr->St->m (V×St))(o:Option Expr)(σ:St):m (V×St):=match o with
 | some e=>ev e σ
 | none=>M.ret (.none,σ)
def uU(n:Nat)(as:List V)(σ:St):m (V×St):=M.bx (M.q An.c? (cf n as σ.W)) λr=>M.ret (r.1,{σ with W:=r.2})
def V6(c:Nat)(as:List V)(σ:St):m (V×St):=
 M.bx (M.q An.c? (cf (80+c) (.glob σ.W.length::as) (σ.W++ [.inst c []]))) λr=>M.bx (M.lift (iv (m4 r.1) ())) λZ=>M.ret (.glob σ.W.length,{σ with W:=r.2})
def G3(c:Nat)(as:List V)(W:List aV):m (V×List aV):=
 M.bx (M.q An.c? (cf (80+c) (.glob W.length::as) (W++ [.inst c []]))) λr=>M.bx (M.lift (HB r.2 W.length c)) λl=>
  M.bx (M.lift (iv (m4 r.1&&Wz r.2 W.length) ())) λZ=>M.bx (M.gd (lP W.length l&&(r.2.take W.length).all (nk W.length))) λZ=>M.ret (.inst c l,r.2.take W.length)
def NH(c:Nat)(as:List V)(σ:St):m (V×St):=M.bx (M.ask An.c? (G3 bT cf c as σ.W) (G3 M cf c as σ.W)) λr=>M.ret (r.1,{σ with W:=r.2})
def CO(n:Nat)(as:List V)(σ:St):m (V×St):=
 bif Nat.blt n 20 then M.bx (M.q An.v? (jN σ.W n as)) λv=>M.ret (v,σ)else
 bif Nat.blt n 90 then uU M cf n as σ else
 bif Nat.blt n 92 then NH M cf (n-90) as σ else V6 M cf (n-90) as σ
def dj(f:V->St->m (List V×St)):List V->St->m (List V×St)
 | [],σ=>M.ret ([],σ)
 | v::r,σ=>M.bx (f v σ) λp=>M.bx (dj f r p.2) λq=>M.ret (p.1++q.1,q.2)
def HZ(p:Out×St)(f:St->m (Out×St)):m (Out×St):=match p.1 with
 | .ez=>f p.2
 | .ret x=>M.ret (.ret x,p.2)
def dO(f:V->St->m (Out×St)):List V->St->m (Out×St)
 | [],σ=>M.ret (.ez,σ)
 | v::r,σ=>M.bx (f v σ) λp=>HZ M p (dO f r)
def nF(c:St->m (V×St))(b:St->m (Out×St)):Nat->St->m (Out×St)
 | 0,_=>M.fail
 | n+1,σ=>M.bx (c σ) λp=>M.bx (M.qb p.1) λt=>bif t then M.bx (b p.2) λq=>HZ M q (nF c b n)else M.ret (.ez,p.2)
def zw(ev:Expr->St->m (V×St))(k:Kv)(σ:St):m ((V×List V)×St):=match k with
 | .plain e=>M.bx (ev e σ) λp=>M.bx (M.q An.i? (jh p.2.W p.1)) λr=>M.ret (r,p.2)
 | .enum e=>M.bx (ev e σ) λp=>M.bx (M.q An.i? (Oh p.1)) λr=>M.ret (r,p.2)
 | .zip a b=>M.bx (ev a σ) λp=>M.bx (ev b p.2) λq=>M.bx (M.q An.i? (Tz p.1 q.1)) λr=>M.ret (r,q.2)
 | .vals e=>M.bx (ev e σ) λp=>M.bx (M.q An.i? (Nb p.2.W p.1)) λr=>M.ret (r,p.2)
def w5(k:Kv)(t:Tg):Bool:=match k with
 | .plain _=>true
 | .vals _=>true
 | _=>pT t
def tV(r:V×List V)(σ:St)(x:List V->St->m (α×St)):m (α×St):=M.bx (x r.2 {σ with W:=hold r.1 σ.W}) λq=>M.ret (q.1,{q.2 with W:=nG r.1 σ.W q.2.W})
def qh(ev:Expr->St->m (V×St))(t:Tg)(cs:List Expr)(elt:Expr)(v:V)(σ:St):m (List V×St):=
 M.bx (M.lift (qu Di σ t v)) λcg=>M.bx (LW M ev true cs cg) λc=>M.bx (M.qb c.1) λb=>bif b then M.bx (ev elt c.2) λp=>M.ret ([p.1],p.2)else M.ret ([],c.2)
end
def lcP(ev:Expr->St->Option (V×St))(t:Tg)(cs:List Expr)(elt:Expr):List V->St->Option (List V×St):=dj bT (qh bT ev t cs elt)
section
variable(M:Mo m)(cf:CF)(ev:gr->Expr->St->m (V×St))(i7:gr->Expr->St->Option (V×St))
def lcE(ev:Expr->St->m (V×St))(i7:Expr->St->Option (V×St))(t:Tg)(cs:List Expr)(elt:Expr)(l:List V)(σ:St):m (List V×St):=M.ask An.l? (lcP i7 t cs elt l σ) (dj M (qh M ev t cs elt) l σ)
def L5(cv:List (Option V))(q:List V×St):m (V×St):=M.bx (M.gd (jR q.1.length)) λZ=>M.ret (.lst q.1,{q.2 with cv:=cv})
def Lg(ev:Expr->St->m (V×St))(i7:Expr->St->Option (V×St))(t:Tg)(k2:Kv)(t2:Tg)(elt:Expr)(v:V)(σ:St):m (List V×St):=
 M.bx (M.lift (qu Di σ t v)) λcg=>M.bx (zw M ev k2 cg) λr=>tV M r.1 r.2 λl fN=>lcE M ev i7 t2 [] elt l fN
def dr(k:gr)(v:Vw)(σ:St):m (V×St):=match v with
 | .cst v=>M.ret (v,σ)
 | .var i=>M.lift (DS σ i)
 | .cv j=>M.bx (M.lift ((σ.cv[j]?).bind id)) λv=>M.ret (v,σ)
 | .gi i=>M.ret (.int i,σ)
 | .not e=>M.bx (ev k e σ) λp=>M.bx (M.lift (Si p.1)) λb=>M.ret (.bool (!b),p.2)
 | .neg i=>M.ret (.int (-i),σ)
 | .S4 e=>M.bx (ev k e σ) λp=>M.bx (M.lift (tp p.1)) λi=>M.ret (.int (-i),p.2)
 | .bin o a b=>M.bx (ev k a σ) λp=>M.bx (ev k b p.2) λq=>M.bx (M.q An.v? (d7 o p.1 q.1)) λv=>M.ret (v,q.2)
 | .cmp o a b=>M.bx (ev k a σ) λp=>M.bx (ev k b p.2) λq=>M.bx (M.q An.b? (iA q.2.W o p.1 q.1)) λv=>M.ret (.bool v,q.2)
 | .Mj o o' a b d=>M.bx (ev k a σ) λp=>M.bx (ev k b p.2) λq=>M.bx (M.q An.b? (iA q.2.W o p.1 q.1)) λt=>bif t then M.bx (ev k d q.2) λr=>M.bx (M.q An.b? (iA r.2.W o' q.1 r.1)) λv=>M.ret (.bool v,r.2)else M.ret (.bool false,q.2)
 | .S6 ng a=>M.bx (ev k a σ) λp=>M.ret (.bool (m4 p.1 != ng),p.2)
 | .ZU ng a=>M.bx (ev k a σ) λp=>M.bx (M.lift (asD p.1)) λl=>M.ret (.bool (l.isEmpty != ng),p.2)
 | .ZT ng a=>M.bx (ev k a σ) λp=>M.bx (M.lift (listOf p.2.W p.1)) λl=>M.ret (.bool (l.isEmpty != ng),p.2)
 | .boo an es=>LW M (ev k) an es σ
 | .ite c a b=>M.bx (ev k c σ) λp=>M.bx (M.qb p.1) λt=>bif t then ev k a p.2 else ev k b p.2
 | .attr o f=>M.bx (ev k o σ) λp=>M.bx (M.q An.v? (Oy p.2.W f p.1)) λv=>M.ret (v,p.2)
 | .sub o i=>M.bx (ev k o σ) λp=>M.bx (ev k i p.2) λq=>M.bx (M.q An.v? (lR q.2.W p.1 q.1)) λv=>M.ret (v,q.2)
 | .ZJ o lo hi=>M.bx (ev k o σ) λp=>M.bx (GL M (ev k) lo p.2) λq=>M.bx (GL M (ev k) hi q.2) λr=>M.bx (M.q An.v? (pI p.1 q.1 r.1)) λv=>M.ret (v,r.2)
 | .rev o=>M.bx (ev k o σ) λp=>M.bx (M.lift (ze p.1)) λl=>M.ret (.lst l.reverse,p.2)
 | .tup es=>M.bx (su M (ev k) es σ) λp=>M.ret (.tup p.1,p.2)
 | .lst es=>M.bx (su M (ev k) es σ) λp=>M.ret (.lst p.1,p.2)
 | .df ks vs=>M.bx (RB (ev k) ks vs σ) λp=>M.bx (M.lift (Lu p.1)) λZ=>M.ret (.df p.1,p.2)
 | .C7=>M.ret (.glob σ.W.length,{σ with W:=σ.W++ [.dict []]})
 | .JR ks vs=>M.bx (RB (ev k) ks vs σ) λp=>M.bx (M.lift (Ki p.1)) λns=>M.ret (.glob p.2.W.length,{p.2 with W:=p.2.W++ [.sd ns (p.1.map (·.2))]})
 | .call n es=>M.bx (su M (ev k) es σ) λp=>CO M cf n p.1 p.2
 | .ZR e=>M.bx (ev k e σ) λp=>NH M cf 6 (kU p.1) p.2
 | .ZQ o f es=>M.bx (ev k o σ) λp=>M.bx (M.lift (NF p.2.W p.1 f)) λt=>M.bx (su M (ev k) es p.2) λq=>bif t.1 then uU M cf t.2 (p.1::q.1) q.2 else
   M.bx (M.lift (iv ((wm q.2.W p.1).any (· ==t.2)) ())) λZ=>M.bx (M.q An.c? (CQ q.2.W p.1 f q.1)) λr=>M.ret (r.1,{q.2 with W:=r.2})
 | .lc sc t it cs elt=>bif w5 (oK k it) t then M.bx (zw M (ev k) (oK k it) σ) λr=>M.bx (tV M r.1 {r.2 with cv:=List.replicate (eR sc).length none} λl cg=>lcE M (ev (qd k sc)) (i7 (qd k sc)) t cs elt l cg) λq=>L5 M σ.cv q else M.fail
 | .Wh sc t it t2 ki elt=>bif w5 (oK k it) t&&w5 (oK (qd k sc) ki) t2 then M.bx (zw M (ev k) (oK k it) σ) λr=>M.bx (tV M r.1 {r.2 with cv:=List.replicate (eR sc).length none} λl cg=>
   M.ask An.l? (dj bT (Lg bT (i7 (qd k sc)) (i7 (qd k sc)) t (oK (qd k sc) ki) t2 elt) l cg) (dj M (Lg M (ev (qd k sc)) (i7 (qd k sc)) t (oK (qd k sc) ki) t2 elt) l cg)) λq=>L5 M σ.cv q else M.fail
 | .bad=>M.fail
where
 listOf (W:List aV) (v:V):Option (List V):=match v with
  | .lst l=>some l
  | .glob n=>pP W n
  | _=>none
 RB (ev:Expr->St->m (V×St)):List (Option Expr)->List Expr->St->m (List (V×V)×St)
  | some e::ks,x::vs,σ=>M.bx (ev e σ) λp=>M.bx (ev x p.2) λq=>M.bx (RB ev ks vs q.2) λr=>M.ret ((p.1,q.1)::r.1,r.2)
  | _,_,σ=>M.ret ([],σ)
end
def i7(cf:CF):Nat->gr->Expr->St->Option (V×St)
 | 0,_,_,_=>none
 | n+1,k,e,σ=>dr bT cf (i7 cf n) (i7 cf n) k (vw k e) σ
def Og{m:Type->Type}(M:Mo m)(cf:CF):Nat->gr->Expr->St->m (V×St)
 | 0,_,_,_=>M.fail
 | n+1,k,e,σ=>dr M cf (Og M cf n) (i7 cf n) k (vw k e) σ
def GV:V->Bool
 | .none=>true
 | .bool _=>true
 | .int _=>true
 | .bytes _=>true
 | _=>false
def KP:Out->V
 | .ret v=>v
 | .ez=>.none
section
variable(M:Mo m)(cf:CF)(ev:Expr->St->m (V×St))(evQ:Expr->St->Option (V×St))(k:gr)
def vv(i:Nat)(lv:LV)(σ:St):m (Out×St):=M.bx (M.lift (zA σ i lv)) λσ=>M.ret (.ez,σ)
def Dr(o:Option (List aV))(σ:St):m (Out×St):=M.bx (M.q An.w? o) λW=>M.ret (.ez,{σ with W:=W})
def LU(v:Ev)(σ:St):m (LV×St):=match v with
 | .x e=>M.bx (ev e σ) λp=>M.ret (.v p.1,p.2)
 | .ol=>M.ret (.ol [],σ)
 | .od=>M.ret (.od [],σ)
 | .wd=>M.ret (.v (.glob σ.W.length),{σ with W:=σ.W++ [.dict []]})
def Ii:List Expr->St->m (List LV×St)
 | [],σ=>M.ret ([],σ)
 | e::r,σ=>M.bx (LU M ev (RA k e) σ) λp=>M.bx (Ii r p.2) λq=>M.ret (p.1::q.1,q.2)
def aek:LV->Option V
 | .v x=>some x
 | _=>none
def Gr(t:Tv)(lv:LV)(σ:St):m St:=match t with
 | .v i=>M.lift (zA σ i lv)
 | .a o f=>M.bx (M.lift (aek lv)) λx=>M.bx (ev o σ) λp=>M.bx (M.q An.w? (Kk p.2.W p.1 f x)) λW=>M.ret {p.2 with W:=W}
 | .bad=>M.fail
def rC:List Expr->List LV->St->m St
 | [],[],σ=>M.ret σ
 | t::ts,v::vs,σ=>M.bx (Gr M ev (Fl k t) v σ) λcg=>rC ts vs cg
 | _,_,_=>M.fail
def t6(ex:List Stmt->St->m (Out×St))(t:Tg)(b:List Stmt)(v:V)(σ:St):m (Out×St):=M.bx (M.lift (qu PE σ t v)) λcg=>ex b cg
def yj(i:Nat)(f:List V->Option (List V))(σ:St):m (Out×St):=M.bx (M.lift (zX σ i)) λl=>M.bx (M.q An.vs? (f l)) λr=>vv M i (.ol r) σ
def gu(ex:List Stmt->St->m (Out×St))(sr:List Stmt->St->Option (Out×St))(s:Sv)(σ:St):m (Out×St):=match s with
 | .exp e=>M.bx (ev e σ) λp=>bif GV p.1 then M.ret (.ez,p.2)else M.fail
 | .app i e=>bif(zX σ i).isSome then M.bx (ev e σ) λp=>yj M i (λl=>iv (decide (l.length<100000)) (l++ [p.1])) p.2 else M.fail
 | .ext i e=>bif(zX σ i).isSome then M.bx (ev e σ) λp=>M.bx (M.lift (ze p.1)) λr=>yj M i (λl=>iv (jR (l.length+r.length)) (l++r)) p.2 else M.fail
 | .Es i e=>M.bx (ev e σ) λp=>vv M i (.v p.1) p.2
 | .Mz i es=>M.bx (su M ev es σ) λp=>vv M i (.ol p.1) p.2
 | .MA i=>vv M i (.od []) σ
 | .Mx i e=>M.bx (ev e σ) λp=>M.bx (M.lift (ze p.1)) λl=>vv M i (.v (.glob p.2.W.length)) {p.2 with W:=p.2.W++ [.list l.reverse]}
 | .MB o f e=>M.bx (ev e σ) λp=>M.bx (ev o p.2) λq=>Dr M (Kk q.2.W q.1 f p.1) q.2
 | .Sh o j e=>M.bx (ev e σ) λp=>M.bx (ev o p.2) λq=>M.bx (ev j q.2) λr=>Dr M (Dh r.2.W q.1 r.1 p.1) r.2
 | .My i o j e=>M.bx (ev e σ) λp=>bif(Qd p.2 i).isSome then M.bx (ev j p.2) λr=>M.bx (M.lift (Qd r.2 i)) λl=>M.bx (M.gd (ju r.1 l&&gS l)) λZ=>vv M i (.od (gq r.1 p.1 l)) r.2
   else M.bx (ev o p.2) λq=>M.bx (ev j q.2) λr=>Dr M (Dh r.2.W q.1 r.1 p.1) r.2
 | .Mw ts es=>M.bx (Ii M ev k es σ) λp=>M.bx (rC M ev k ts p.1 p.2) λcg=>M.ret (.ez,cg)
 | .ZE is e=>M.bx (ev e σ) λp=>M.bx (M.lift (qu PE p.2 (.many is) p.1)) λcg=>M.ret (.ez,cg)
 | .ite c a b=>M.bx (ev c σ) λp=>M.bx (M.qb p.1) λt=>bif t then ex a p.2 else ex b p.2
 | .ZC c b=>M.ask An.o? (nF bT (evQ c) (sr b) 64 σ) (nF M (ev c) (ex b) 64 σ)
 | .for t it b=>bif w5 (oK k it) t then M.bx (zw M ev (oK k it) σ) λr=>tV M r.1 r.2 λl cg=>M.ask An.o? (dO bT (t6 bT sr t b) l cg) (dO M (t6 M ex t b) l cg)else M.fail
 | .ret e=>M.bx (ev e σ) λp=>M.ret (.ret p.1,p.2)
 | .Kr=>M.ret (.ret .none,σ)
 | .bad=>M.fail
def Tq(st:Stmt->St->m (Out×St)):List Stmt->St->m (Out×St)
 | [],σ=>M.ret (.ez,σ)
 | s::r,σ=>M.bx (st s σ) λp=>HZ M p (Tq st r)
end
def eN:Nat:=20
def yo(cf:CF)(k:gr):Nat->List Stmt->St->Option (Out×St)
 | 0,_,_=>none
 | n+1,b,σ=>Tq bT (λs=>gu bT (i7 cf eN k) (i7 cf eN k) k (yo cf k n) (yo cf k n) (sv k s)) b σ
def Tp{m:Type->Type}(M:Mo m)(cf:CF)(k:gr):Nat->List Stmt->St->m (Out×St)
 | 0,_,_=>M.fail
 | n+1,b,σ=>Tq M (λs=>gu M (Og M cf eN k) (i7 cf eN k) k (Tp M cf k n) (yo cf k n) (sv k s)) b σ
def AM:Expr->Option V
 | .Constant c _ _=>match ve c with
  | .cst v=>some v
  | _=>none
 | .UnaryOp .USub (.Constant (.int i) _ _) _=>some (.int (-i))
 | _=>none
structure Fn where
 np:Nat
 tO:List V
 body:List Stmt
 k:gr
def oQ:Stmt->Option (Arguments×List Stmt×Scope)
 | .FunctionDef _ a b _ _ _ sc _ _ _=>some (a,b,sc)
 | _=>none
def adV(w:Bool)(st:Stmt):Option Fn:=(oQ st).bind λh=>(jD AM h.1.defaults).map λd=>⟨h.1.args.length,d,h.2.1,j4 h.2.2 w⟩
def aee:Stmt->List Stmt
 | .ClassDef _ _ _ b _ _ _ _ _ _ _=>b
 | _=>[]
def IQ:List Nat:=[21,22,34,45,50,51,53]
def Ql:List (Nat×Nat):=[(22,1),(34,2),(45,1),(45,2),(45,3),(45,4),(45,5),(45,6),(45,7),(45,8),(50,1),(50,2),(50,3),(50,4),(50,5),(51,1),(51,2)]
def Pl:List Nat:=[14,15,23,24,25,26,27,28,29,37,38,39,40,41,42,43,44,46,47,48,55,56,57,58,59,60,61,62,63,65]
def xC(p:Nat×Nat):Option Stmt:=(pw.main.body[p.1]?).bind λs=>(aee s)[p.2]?
def nW(k:Nat):Option Stmt:=
 bif Nat.ble 80 k then(IQ[k-80]?).bind λi=>xC (i,0)else
 bif Nat.ble 47 k then(Pl[k-47]?).bind λi=>pw.main.body[i]? else
 bif Nat.ble 30 k then(Ql[k-30]?).bind xC else none
def fn(k:Nat):Option Fn:=(nW k).bind (adV (k==76))
def xP(k:Nat):Bool:=k==64||k==65||k==66
def sN:Nat:=12
section
variable(M:Mo m)
def vM(k n:Nat)(v:V)(W:List aV):m (V×List aV):=bif xP k then M.bx (M.gd (tv n v&&(W.take n).all (nk n))) λZ=>M.ret (v,W.take n)else M.ret (v,W)
def enter(f:Fn)(as:List V)(W:List aV):Option St:=
 let args:=as++f.tO.drop (f.tO.length-(f.np-as.length))
 bif args.length==f.np then some ⟨args.map (λa=>some (LV.v a))++List.replicate (f.k.vn.length-f.np) none,[],W⟩else none
def Ot(ex:Fn->St->m (Out×St))(k:Nat)(as:List V)(W:List aV):m (V×List aV):=
 M.bx (M.lift (fn k)) λf=>M.bx (M.lift (enter f as W)) λσ=>M.bx (ex f σ) λr=>vM M k W.length (KP r.1) r.2.W
end
def ai:Nat->CF
 | 0=>λZ Z Z=>none
 | n+1=>Ot bT λf σ=>yo (ai n) f.k sN f.body σ
abbrev O(α:Type):Type:=List (Nat×An)->Option (α×List (Nat×An)×List Prop)
variable{ev:Expr->St->O (V×St)}
def eu:Mo O where
 ret a:=λfs=>some (a,fs,[])
 bx x f:=λfs=>(x fs).bind λr=>(f r.1 r.2.1).map λq=>(q.1,q.2.1,r.2.2++q.2.2)
 lift x:=λfs=>x.map λa=>(a,fs,[])
 ask d q dir:=λfs=>match fs with
  | []=>dir []
  | (n,an)::r=>match n with
   | 0=>(d an).map λa=>(a,r,[q=some a])
   | n+1=>dir ((n,an)::r)
def YD(n:Nat):Nat->List V->List aV->O (V×List aV):=Ot eu λf σ=>Tp eu (ai n) f.k sN f.body σ
def Bf:List Prop->Prop
 | []=>True
 | p::r=>p/\Bf r
theorem Bf.app:∀ {l r:List Prop},Bf (l++r)->Bf l/\Bf r
 | [],_,h=>⟨trivial,h⟩
 | _::_,_,h=>⟨⟨h.1,h.2.app.1⟩,h.2.app.2⟩
structure bg{α:Type}(x:O α)(y:Option α):Prop where
 out:∀ fs a Oe ps,x fs=some (a,Oe,ps)->Bf ps->y=some a
section
variable{β:Type}
theorem bg.ret(a:α):bg (eu.ret a) (bT.ret a):=⟨λfs a' Oe ps h Z=>by cases h; rfl⟩
theorem bg.lift(x:Option α):bg (eu.lift x) (bT.lift x):=⟨λfs a Oe ps h Z=>by
 induction x using nN with
 | none=>exact (mK h)
 | some b=>cases h; rfl⟩
theorem bg.bx{x:O α}{y:Option α}{f:α->O β}{g:α->Option β}(h:bg x y)(k:∀ a,bg (f a) (g a)):bg (eu.bx x f) (bT.bx y g):=⟨λfs b Oe ps e hp=>by
 have e:((x fs).bind λr=>(f r.1 r.2.1).map λq=>(q.1,q.2.1,r.2.2++q.2.2))=some (b,Oe,ps):=e;induction hx:x fs using nN with
 | none=>rw [hx] at e; exact (mK e)
 | some r=>
  rw [hx] at e;have e:((f r.1 r.2.1).map λq=>(q.1,q.2.1,r.2.2++q.2.2))=some (b,Oe,ps):=e;induction hf:f r.1 r.2.1 using nN with
  | none=>rw [hf] at e; exact (mK e)
  | some q=>rw [hf] at e;cases e;rw [h.out fs _ _ _ hx hp.app.1];exact (k _).out _ _ _ _ hf hp.app.2⟩
theorem bg.ask{q:Option α}{x:O α}(h:bg x q):bg (eu.ask d q x) (bT.ask d q q):=⟨λfs a Oe ps e hp=>by
 induction fs using lh with
 | nil=>exact h.out _ _ _ _ e hp
 | cons p r=>
  obtain ⟨n,an⟩:=p;induction n using oF with
  | zero=>
   have e:((d an).map λa=>(a,r,[q=some a]))=some (a,Oe,ps):=e;induction hd:d an using nN with
   | none=>rw [hd] at e; exact (mK e)
   | some b=>rw [hd] at e; cases e; exact hp.1
  | succ n=>exact h.out _ _ _ _ e hp⟩
theorem bg.q(x:Option α):bg (eu.q d x) (bT.q d x):=bg.ask (bg.lift x)
theorem bg.bif(b:Bool){x x':O α}{y y':Option α}(h:bg x y)(h':bg x' y'):bg (bif b then x else x') (bif b then y else y'):=by induction b <;> assumption
theorem bg.fail:bg (α:=α) eu.fail bT.fail:=bg.lift none
theorem bg.gd(b:Bool):bg (eu.gd b) (bT.gd b):=(bg.q _).bx λc=>.bif c (.ret _) .fail
section
variable{cf:CF}(H:∀ e σ,bg (ev e σ) (eE e σ))
include H
theorem Dj:∀ es σ,bg (su eu ev es σ) (su bT eE es σ)
 | [],σ=>.ret _
 | e::r,σ=>(H e σ).bx λp=>(Dj r _).bx λq=>.ret _
theorem PN(an:Bool):∀ es σ,bg (LW eu ev an es σ) (LW bT eE an es σ)
 | [],σ=>.ret _
 | e::r,σ=>(H e σ).bx λp=>(bg.q _).bx λb=>.bif _ (PN an r _) (.ret _)
theorem Nj:∀ o σ,bg (GL eu ev o σ) (GL bT eE o σ)
 | some e,σ=>H e σ
 | none,σ=>.ret _
theorem F4:∀ k σ,bg (zw eu ev k σ) (zw bT eE k σ)
 | .plain e,σ=>(H e σ).bx λp=>(bg.q _).bx λr=>.ret _
 | .enum e,σ=>(H e σ).bx λp=>(bg.q _).bx λr=>.ret _
 | .zip a b,σ=>(H a σ).bx λp=>(H b _).bx λq=>(bg.q _).bx λr=>.ret _
 | .vals e,σ=>(H e σ).bx λp=>(bg.q _).bx λr=>.ret _
theorem rx(t:Tg)(cs:List Expr)(elt:Expr)(v:V)(σ:St):bg (qh eu ev t cs elt v σ) (qh bT eE t cs elt v σ):=
 (bg.lift _).bx λcg=>(PN H true cs _).bx λc=>(bg.q _).bx λb=>.bif b ((H elt _).bx λp=>.ret _) (.ret _)
theorem PM:∀ ks vs σ,bg (dr.RB eu ev ks vs σ) (dr.RB bT eE ks vs σ)
 | some e::ks,x::vs,σ=>(H e σ).bx λp=>(H x _).bx λq=>(PM ks vs _).bx λr=>.ret _
 | none::_,_,_=>.ret _
 | [],_,_=>.ret _
 | some _::_,[],_=>.ret _
end
theorem ry{f:V->St->O (List V×St)}{g:V->St->Option (List V×St)}(H:∀ v σ,bg (f v σ) (g v σ)):∀ l σ,bg (dj eu f l σ) (dj bT g l σ)
 | [],σ=>.ret _
 | v::r,σ=>(H v σ).bx λp=>(ry H r _).bx λq=>.ret _
theorem F9(p:Out×St){f:St->O (Out×St)}{g:St->Option (Out×St)}(H:∀ σ,bg (f σ) (g σ)):bg (HZ eu p f) (HZ bT p g):=by
 obtain ⟨o,σ⟩:=p;induction o using Mine.Out.casesOn with
 | ez=>exact H σ
 | ret v=>exact .ret _
theorem F8{f:V->St->O (Out×St)}{g:V->St->Option (Out×St)}(H:∀ v σ,bg (f v σ) (g v σ)):∀ l σ,bg (dO eu f l σ) (dO bT g l σ)
 | [],σ=>.ret _
 | v::r,σ=>(H v σ).bx λp=>F9 p (F8 H r)
theorem F0{c:St->O (V×St)}{c':St->Option (V×St)}{b:St->O (Out×St)}{b':St->Option (Out×St)}(H:∀ σ,bg (c σ) (c' σ))(H':∀ σ,bg (b σ) (b' σ)):∀ n σ,bg (nF eu c b n σ) (nF bT c' b' n σ)
 | 0,_=>.fail
 | n+1,σ=>(H σ).bx λp=>(bg.q _).bx λt=>.bif t ((H' _).bx λq=>F9 q (F0 H H' n)) (.ret _)
theorem xk{r:V×List V}{σ:St}{x:List V->St->O (α×St)}{y:List V->St->Option (α×St)}(H:∀ l σ,bg (x l σ) (y l σ)):bg (tV eu r σ x) (tV bT r σ y):=(H _ _).bx λq=>.ret _
section
variable(cf:CF)
theorem Ga(n:Nat)(as:List V)(σ:St):bg (uU eu cf n as σ) (uU bT cf n as σ):=(bg.q _).bx λr=>.ret _
theorem abw(n:Nat)(as:List V)(W:List aV):bg (G3 eu cf n as W) (G3 bT cf n as W):=(bg.q _).bx λr=>(bg.lift _).bx λl=>(bg.lift _).bx λZ=>(bg.gd _).bx λZ=>.ret _
theorem Vd(n:Nat)(as:List V)(σ:St):bg (NH eu cf n as σ) (NH bT cf n as σ):=(bg.ask (abw cf n as σ.W)).bx λZ=>.ret _
theorem abx(n:Nat)(as:List V)(σ:St):bg (V6 eu cf n as σ) (V6 bT cf n as σ):=(bg.q _).bx λr=>(bg.lift _).bx λZ=>.ret _
theorem PQ(n:Nat)(as:List V)(σ:St):bg (CO eu cf n as σ) (CO bT cf n as σ):=
 .bif _ ((bg.q _).bx λv=>.ret _) (.bif _ (Ga cf ..) (.bif _ (Vd cf ..) (abx cf ..)))
end
theorem Nm(cv:List (Option V))(q:List V×St):bg (L5 eu cv q) (L5 bT cv q):=(bg.gd _).bx λZ=>.ret _
section
variable{cf:CF}{ev:gr->Expr->St->O (V×St)}{eE:gr->Expr->St->Option (V×St)}(H:∀ k e σ,bg (ev k e σ) (eE k e σ))
include H
theorem Vc(k:gr)(v:Vw)(σ:St):bg (dr eu cf ev eE k v σ) (dr bT cf eE eE k v σ):=match v with
 | .cst v=>.ret _
 | .var i=>.lift _
 | .cv j=>(bg.lift _).bx λv=>.ret _
 | .gi i=>.ret _
 | .not e=>(H k e σ).bx λp=>(bg.lift _).bx λb=>.ret _
 | .neg i=>.ret _
 | .S4 e=>(H k e σ).bx λp=>(bg.lift _).bx λb=>.ret _
 | .bin o a b=>(H k a σ).bx λp=>(H k b _).bx λq=>(bg.q _).bx λb=>.ret _
 | .cmp o a b=>(H k a σ).bx λp=>(H k b _).bx λq=>(bg.q _).bx λb=>.ret _
 | .Mj o o' a b d=>(H k a σ).bx λp=>(H k b _).bx λq=>(bg.q _).bx λt=>.bif t ((H k d _).bx λr=>(bg.q _).bx λZ=>.ret _) (.ret _)
 | .S6 ng a=>(H k a σ).bx λp=>.ret _
 | .ZU ng a=>(H k a σ).bx λp=>(bg.lift _).bx λZ=>.ret _
 | .ZT ng a=>(H k a σ).bx λp=>(bg.lift _).bx λZ=>.ret _
 | .boo an es=>PN (H k) an es σ
 | .ite c a b=>(H k c σ).bx λp=>(bg.q _).bx λt=>.bif t (H k a _) (H k b _)
 | .attr o f=>(H k o σ).bx λp=>(bg.q _).bx λZ=>.ret _
 | .sub o i=>(H k o σ).bx λp=>(H k i _).bx λq=>(bg.q _).bx λZ=>.ret _
 | .ZJ o lo hi=>(H k o σ).bx λp=>(Nj (H k) lo _).bx λq=>(Nj (H k) hi _).bx λr=>(bg.q _).bx λZ=>.ret _
 | .rev o=>(H k o σ).bx λp=>(bg.lift _).bx λZ=>.ret _
 | .tup es=>(Dj (H k) es σ).bx λp=>.ret _
 | .lst es=>(Dj (H k) es σ).bx λp=>.ret _
 | .df ks vs=>(PM (H k) ks vs σ).bx λp=>(bg.lift _).bx λZ=>.ret _
 | .C7=>.ret _
 | .JR ks vs=>(PM (H k) ks vs σ).bx λp=>(bg.lift _).bx λZ=>.ret _
 | .call n es=>(Dj (H k) es σ).bx λp=>PQ cf ..
 | .ZR e=>(H k e σ).bx λp=>Vd cf ..
 | .ZQ o f es=>(H k o σ).bx λp=>(bg.lift _).bx λt=>(Dj (H k) es _).bx λq=>.bif t.1 (Ga cf ..) ((bg.lift _).bx λZ=>(bg.q _).bx λr=>.ret _)
 | .lc sc t it cs elt=>.bif _ ((F4 (H k) _ σ).bx λr=>(xk λl cg=>.ask (ry (rx (H _) t cs elt) l cg)).bx λq=>Nm ..) .fail
 | .Wh sc t it t2 ki elt=>.bif _ ((F4 (H k) _ σ).bx λr=>(xk λl cg=>.ask (ry (λv σ=>(bg.lift _).bx λcg=>(F4 (H _) _ _).bx λr=>xk λl fN=>.ask (ry (rx (H _) t2 [] elt) l fN)) l cg)).bx λq=>Nm ..) .fail
 | .bad=>.fail
end
theorem Nl(cf:CF):∀ n k e σ,bg (Og eu cf n k e σ) (i7 cf n k e σ)
 | 0,_,_,_=>.fail
 | n+1,k,e,σ=>Vc (λk e σ=>Nl cf n k e σ) k (vw k e) σ
section
variable{k:gr}(H:∀ e σ,bg (ev e σ) (eE e σ)){ex:List Stmt->St->O (Out×St)}{exp:List Stmt->St->Option (Out×St)}(H':∀ b σ,bg (ex b σ) (exp b σ))
theorem uj(i:Nat)(lv:LV)(σ:St):bg (vv eu i lv σ) (vv bT i lv σ):=(bg.lift _).bx λZ=>.ret _
theorem F7(o:Option (List aV))(σ:St):bg (Dr eu o σ) (Dr bT o σ):=(bg.q _).bx λZ=>.ret _
theorem Nk(i:Nat)(f:List V->Option (List V))(σ:St):bg (yj eu i f σ) (yj bT i f σ):=(bg.lift _).bx λZ=>(bg.q _).bx λZ=>uj ..
include H
theorem sEE:∀ v σ,bg (LU eu ev v σ) (LU bT eE v σ)
 | .x e,σ=>(H e σ).bx λp=>.ret _
 | .ol,σ=>.ret _
 | .od,σ=>.ret _
 | .wd,σ=>.ret _
theorem Vh:∀ l σ,bg (Ii eu ev k l σ) (Ii bT eE k l σ)
 | [],σ=>.ret _
 | e::r,σ=>(sEE H _ σ).bx λp=>(Vh r _).bx λq=>.ret _
theorem sTT:∀ t lv σ,bg (Gr eu ev t lv σ) (Gr bT eE t lv σ)
 | .v i,lv,σ=>.lift _
 | .a o f,lv,σ=>(bg.lift _).bx λx=>(H o σ).bx λp=>(bg.q _).bx λZ=>.ret _
 | .bad,_,_=>.fail
theorem Vb:∀ ts vs σ,bg (rC eu ev k ts vs σ) (rC bT eE k ts vs σ)
 | [],[],σ=>.ret _
 | t::ts,v::vs,σ=>(sTT H _ v σ).bx λcg=>Vb ts vs cg
 | [],_::_,_=>.fail
 | _::_,[],_=>.fail
include H'
theorem PK(s:Sv)(σ:St):bg (gu eu ev eE k ex exp s σ) (gu bT eE eE k exp exp s σ):=match s with
 | .exp e=>(H e σ).bx λp=>.bif _ (.ret _) .fail
 | .app i e=>.bif _ ((H e σ).bx λp=>Nk ..) .fail
 | .ext i e=>.bif _ ((H e σ).bx λp=>(bg.lift _).bx λr=>Nk ..) .fail
 | .Es i e=>(H e σ).bx λp=>uj ..
 | .Mz i es=>(Dj H es σ).bx λp=>uj ..
 | .MA i=>uj ..
 | .Mx i e=>(H e σ).bx λp=>(bg.lift _).bx λl=>uj ..
 | .MB o f e=>(H e σ).bx λp=>(H o _).bx λq=>F7 ..
 | .Sh o j e=>(H e σ).bx λp=>(H o _).bx λq=>(H j _).bx λr=>F7 ..
 | .My i o j e=>(H e σ).bx λp=>.bif _ ((H j _).bx λr=>(bg.lift _).bx λl=>(bg.gd _).bx λZ=>uj ..) ((H o _).bx λq=>(H j _).bx λr=>F7 ..)
 | .Mw ts es=>(Vh H es σ).bx λp=>(Vb H ts _ _).bx λZ=>.ret _
 | .ZE is e=>(H e σ).bx λp=>(bg.lift _).bx λZ=>.ret _
 | .ite c a b=>(H c σ).bx λp=>(bg.q _).bx λt=>.bif t (H' a _) (H' b _)
 | .ZC c b=>.ask (F0 (H c) (H' b) 64 σ)
 | .for t it b=>.bif _ ((F4 H _ σ).bx λr=>xk λl cg=>.ask (F8 (λv σ=>(bg.lift _).bx λcg=>H' b cg) l cg)) .fail
 | .ret e=>(H e σ).bx λp=>.ret _
 | .Kr=>.ret _
 | .bad=>.fail
end
theorem Vf{st:Stmt->St->O (Out×St)}{st':Stmt->St->Option (Out×St)}(H:∀ s σ,bg (st s σ) (st' s σ)):∀ b σ,bg (Tq eu st b σ) (Tq bT st' b σ)
 | [],σ=>.ret _
 | s::r,σ=>(H s σ).bx λp=>F9 p (Vf H r)
theorem Vg(cf:CF)(k:gr):∀ n b σ,bg (Tp eu cf k n b σ) (yo cf k n b σ)
 | 0,_,_=>.fail
 | n+1,b,σ=>Vf (λs σ=>PK (Nl cf eN k) (λb σ=>Vg cf k n b σ) _ σ) b σ
theorem aZ(n k:Nat)(as:List V)(W:List aV):bg (YD n k as W) (ai (n+1) k as W):=
 (bg.lift _).bx λf=>(bg.lift _).bx λσ=>(Vg ..).bx λr=>.bif _ ((bg.gd _).bx λZ=>.ret _) (.ret _)
end
structure Fa where
 n:Nat
 an:An
 p:Prop
 h:p
def keys(l:List Fa):List (Nat×An):=l.map λf=>(f.n,f.an)
def props(l:List Fa):List Prop:=l.map λf=>f.p
theorem xq:∀ l:List Fa,Bf (props l)
 | []=>trivial
 | f::r=>⟨f.h,xq r⟩
theorem au{x:O α}{y:Option α}(s:bg x y)(l:List Fa){a:α}(e:x (keys l)=some (a,[],props l)):y=some a:=s.out _ _ _ _ e (xq l)
abbrev fT(n:Nat)(h:b=true):Fa:=⟨n,.b true,some b=some true,av some h⟩
abbrev fF(n:Nat)(h:b=false):Fa:=⟨n,.b false,some b=some false,av some h⟩
abbrev fB(n:Nat){q:Option Bool}(h:q=some b):Fa:=⟨n,.b b,_,h⟩
abbrev fV(n:Nat){q:Option V}{b:V}(h:q=some b):Fa:=⟨n,.v b,_,h⟩
abbrev fC(n:Nat){q:Option (V×List aV)}{b:V×List aV}(h:q=some b):Fa:=⟨n,.c b,_,h⟩
abbrev fW(n:Nat){q:Option (List aV)}{b:List aV}(h:q=some b):Fa:=⟨n,.w b,_,h⟩
abbrev fO(n:Nat){q:Option (Out×St)}{b:Out×St}(h:q=some b):Fa:=⟨n,.o b,_,h⟩
abbrev fL(n:Nat){q:Option (List V×St)}{b:List V×St}(h:q=some b):Fa:=⟨n,.l b,_,h⟩
abbrev fI(n:Nat){q:Option (V×List V)}{b:V×List V}(h:q=some b):Fa:=⟨n,.i b,_,h⟩
abbrev fX(n:Nat){q:Option (List V)}{b:List V}(h:q=some b):Fa:=⟨n,.vs b,_,h⟩
def et:Nat->Str:=λk=>(tQ[k]?).getD "extend"
def n8(c:Nat):List Str:=(AR c).map et
def Yd:List Nat:=[119,195,276,283,290,295,302,307,314,319,366,373,380,387,394,434,441,70,75,134,141,146,151,156,161,166,209,216,223,230,237,245,250,255,331,338,345,477,484,489,496,501,506,511,516,521,533,0,0,0,90,112,181,269,360,427,463]
def RX:List Nat:=[93,122,198,322,409,444,466]
def pB(k:Nat):Addr:=(Yd[k-30]?).getD 0
def fK(k:Nat):Addr:=(RX[k]?).getD 0
def Yg:Data->Option FuncData
 | .func fd=>some fd
 | _=>none
def U4:Data->Option (List Value)
 | .seq vs _=>some vs.toList
 | _=>none
def ZG:Value->Option V
 | .none=>some .none
 | .int i _=>some (.int i)
 | .bytes b _=>iv (decide (b.toList.length<=100000)) (.bytes b.toList)
 | _=>none
def Iu(K:Frag):Value->Option (List V)
 | .none=>some []
 | .ref T=>(K.lookup T).bind λo=>(U4 o.data).bind λl=>(jD ZG l).bind λl=>iv (!l.isEmpty) l
 | _=>none
def kL:List Nat:=[30,31,32,33,34,35,36,37,38,39,40,41,42,43,44,45,46,47,48,49,50,51,52,53,54,55,56,57,58,59,60,61,62,63,64,65,66,67,68,69,70,71,72,73,74,75,80,81,82,83,84,85,86]
def fL2:List (Addr×Option Stmt):=kL.map (λk=>(pB k,nW k))++ [(35,xC (2,0)),(528,pw.main.body[64]?)]
abbrev FO:Type:=Arguments×FuncBody×Scope×List (Str×Addr)×Addr×Addr×Bool×Option (List V)
def Yh(K:Frag)(a:Addr):Option FO:=(K.lookup a).bind λo=>(Yg o.data).map λfd=>(fd.params,fd.body,fd.scope,fd.closure,fd.globals,fd.builtins,codeIn K fd.code fd.qualname,Iu K fd.defaults)
def fWa(st:Option Stmt):Option FO:=st.bind λst=>(oQ st).map λh=>(h.1,.stmts h.2.1,h.2.2,[],mainGlobals,builtinsNs,true,jD AM h.1.defaults)
def cOb(K:Frag)(k:Nat):List (Option (Option Value))×List Bool×Option Value:=
 let C:Value:=.ref (fK k)
 (findIn K C "__getattribute__" ::findIn K C "__getattr__" ::findIn K C "__setattr__" ::findIn K C "__init__" ::(AR k).map (λf=>findIn K C (et f)),
  [hasDictIn K (fK k),plainOver K (fK k),makesIn K (fK k),keepIn K C],typeIn K (.ref (pB (80+k))))
def cWa(k:Nat):List (Option (Option Value))×List Bool×Option Value:=
 (some (some (.builtin "object.__getattribute__"))::some none::some (some (.builtin "object.__setattr__"))::some (some (.ref (pB (80+k))))::(AR k).map (λZ=>some none),[true,true,true,true],some (.type "function"))
def KW:Value->Value
 | .int i _=>.int i 0
 | v=>v
def To(n:Nat):Option Value:=bif Nat.blt n 12 then none else some (.ref (bif Nat.blt n 90 then pB n else fK (n-90)))
def Co:List (Str×Option Value):=qI.map (λp=>(p.1,To p.2))++LK.map (λp=>(p.1,some (.int p.2 0)))++ [(Str.ofString "enumerate",none),(Str.ofString "zip",none),(Str.ofString "Exception",none),(Str.ofString "Shape",some (.ref (fK 6))),(Str.ofString "Misused",some (.ref 63)),(Str.ofString "_law_refused",some (.ref 528))]
def sM:List Value:=[.ref 38,.type "Exception",.type "BaseException",.type "object"]
def c63:Obj:=excClassObj "Misused" "Misused" 63 62 [.ref 38] sM true [] [] false none none (some (.ref 54)) none (some (.str "Misused" 241)) (some (.str "Misused" 249)) (some (.bool true)) "Exception.__new__"
abbrev KO:Type:=List (Option FO)×List (List (Option (Option Value))×List Bool×Option Value)×List (Option (Option Value)×Option Value)×List Bool×List (Option (Option Value))×Option Obj×List (Option (Option Value))×Option (Addr×Addr)×Option Bool
def BL(K:Frag):KO:=
 (fL2.map λp=>Yh K p.1,(List.range 7).map (cOb K),K2.map (λq=>(findIn K (.ref (fK q.1)) (et q.2.1),typeIn K (.ref (pB q.2.2)))),
  [(List.range 46).all λj=>keepIn K (.ref (pB (30+j))),keepIn K (.ref 63),keepIn K (.ref 528),(K.lookup 3).isSome,codeHdIn K 532 530],Co.map (λp=>(nsIn K mainGlobals p.1).map (Option.map KW)),K.lookup 63,
  [findIn K (.ref 63) "__init__",some (typeIn K (.ref 35)),findIn K (.ref 63) "__setattr__",findIn K (.ref 63) "why"],tabIn K "law",mroIn K 63 (.type "object"))
def EZ:KO:=
 (fL2.map λp=>fWa p.2,(List.range 7).map cWa,K2.map (λq=>(some (some (.ref (pB q.2.2))),some (.type "function"))),
  [true,true,true,true,true],Co.map (λp=>some p.2),some c63,
  [some (some (.ref 35)),some (some (.type "function")),some (some (.builtin "object.__setattr__")),some none],some (532,530),some true)
def GO(o:Obj):Bool:=match o.cls,o.data with
 | .none,.fields _=>false
 | .type t,_=>t != "list"
 | _,_=>true
abbrev dQ(vs:List Value)(n:Nat):Obj:={cls:=.type "list",data:=.seq vs.toArray n}
structure Hyp(p:World×Frag×Heap)(sc:Scope)(g aS:Heap)(L:Addr)(mg mb:Str->Option Value)(w8:Addr)(w7:List Value)(l:List Int)(env:Env):Prop where
 ob:BL p.2.1=EZ
 all:p.2.1.all (λq=>GO q.2)=true
 ie:p.2.1.In g
 nl:g.NoLimit
 G:g.Ns mainGlobals mg
 B:g.Ns builtinsNs mb
 hb:∀ x:Str,x≠"__name__" ->mb x=bootBuiltins x
 bmn:∃ bm ob,mg "__builtins__" =some (.ref bm)/\bm≠builtinsNs/\g.get? bm=some ob/\ob.cls=.type "module" /\ob.dict=some builtinsNs/\ob.data=.plain
 n5:g.get? 530=none
 eh:p.2.2=hideAll g [w8]
 el:g.get? w8=some (dQ w7 0)
 hI:IntsAre w7 l
 hlen:l.length<=63
 hL:L=g.objs.size
 F:Fr g L aS (bindL env.kindOf [("script",.ref w8)] λZ=>none)
 C:Cl L (cellsFrom (L+1) sc.names []) aS (PySem.bindC env.kindOf [("script",.ref w8)] λZ=>none)
 e5:aS.get? 530=some (tabObj #[])
 l5:530<L
def Je(p:World×Frag×Heap):Prop:=∀ (ar:Arguments) (b:List Stmt) (sc:Scope) (g aS:Heap) (L:Addr) (mg mb:Str->Option Value) (w8:Addr) (w7:List Value) (l:List Int) (name:Str) (a:Addr) (s:Shared) (Q:Flow->Shared->Prop) (E:Value->Shared->Prop),
 (nW 76).bind oQ=some (ar,b,sc)->Hyp p sc g aS L mg mb w8 w7 l (envOfC name sc L a (.ref 532))->s.heap=aS->(∀ h' tk m,Fr g L h' m->(∃ ps,h'.get? 530=some (tabObj ps))->Q (.ret (.bool true)) {s with heap:=h',toks:=tk})->
  wpAny (model pw p.1) (callerA.deeper (envOfC name sc L a (.ref 532))) (execs b (envOfC name sc L a (.ref 532))) Q E s
def qv:Program:={pw with main:={pw.main with body:=pw.main.body.drop 65}}
def Wb:List Str:=(pw.main.scope.names.map (·.1)).filter (· != "law")
def Wn:List Nat:=[0,1,2,3,4,5,6,10,14,24,28,34,35,37,38,44,48,50,51,56,60,62,63,69,70,74,75,78,82,83,89,90,92,93,100,104,105,111,112,118,119,121,122,127,133,134,140,141,145,146,150,151,155,156,160,161,165,166,169,173,174,180,181,194,195,197,198,208,209,215,216,222,223,229,230,236,237,238,244,245,249,250,254,255,258,262,268,269,275,276,282,283,289,290,294,295,301,302,306,307,313,314,318,319,321,322,330,331,337,338,344,345,348,352,353,359,360,361,365,366,372,373,379,380,386,387,393,394,408,409,416,420,426,427,433,434,440,441,443,444,451,455,456,462,463,465,466,476,477,483,484,488,489,495,496,500,501,505,506,510,511,515,516,520,521,527,528,530,531,532,533]
def Ro:Nat->List Obj->List Nat->Frag
 | n,o::r,k::ks=>bif Nat.beq n k then((alive o).bind λo=>iv (GO o) (n,o)).toList++Ro (n+1) r ks else Ro (n+1) r (k::ks)
 | _,_,_=>[]
def frK(h:Heap):Frag:=Ro 0 h.objs.toList Wn
def obS(s:Shared):KO×Option Obj:=(BL (frK s.heap),s.heap.get? 530)
def XO(st:SharedT->Thread->Option (SharedT×Thread))(ok:Thread->Bool):Nat->SharedT->Thread->Option SharedT
 | 0,_,_=>none
 | n+1,s,t=>match through t with
  | true=>some s
  | false=>match ok t with
   | false=>none
   | true=>match st s t with
    | some (s',t')=>XO st ok n s' t'
    | none=>none
theorem t9{tb:String->Option Builtin}{p:Program}{w:World}{xu:Nat}{ann:Option Value}:∀ {n:Nat} {s s':SharedT} {t:Thread},XO (stepT (denote tb) p w) (stepOk xu ann) n s t=some s'->topRun tb p w xu ann n s.abs t=some s'.abs
 | 0,_,_,_,h=>by cases h
 | n+1,s,s',t,h=>by
  unfold XO at h;unfold topRun;cases ht:through t with
  | true=>rw [ht] at h; cases h; rfl
  | false=>
   rw [ht] at h;cases hk:stepOk xu ann t with
   | false=>rw [hk] at h; cases h
   | true=>
    rw [hk] at h;cases hs:stepT (denote tb) p w s t with
    | none=>rw [hs] at h; cases h
    | some r=>obtain ⟨ke,agU⟩:=r; rw [hs] at h; dsimp only; rw [stepT_spec hs]; exact t9 h
def S0T(P:Params)(os:OsState):SharedT:=
 ⟨((boot_heap P).objs.toList.foldl (λ(x:BT×Nat) o=>(x.1.ins x.2 o,x.2+1)) (.nil,0)).1,11,(boot_heap P).life,#[],boot_drawn,boot_toks,os⟩
theorem MP(P:Params)(os:OsState):(S0T P os).abs=⟨boot_heap P,#[],boot_drawn,boot_toks,os⟩:= ⋯
def fin(P:Params)(s:Shared):=((staticsOk (importedModules pw.main.body) (boot_heap P) s.heap&&namesBound pw s.heap&&gensDone s&&laidKept (boot_heap P) s.heap,openSeen qv Wb (importedModules pw.main.body) (λZ=>true) true s,obS s))
theorem run(w:World)(os:OsState):(XO (stepT (denote treeTable) pw w) (stepOk 11 (some (.ref 6))) 4400 (S0T w.params os) (topStub pw)).map (λS=>fin w.params S.abs)=some (true,openGood qv Wb,EZ,some (tabObj #[])):=by rw [Fast.te10156331382660048174,Fast.te11892475500146522536,Fast.te14364793385576792824,Fast.te6613529449190102663];unfold fin;rw [Fast.te4187177175401517315];kernel_rfl
theorem sz(P:Params):((boot_heap P).isNs mainGlobals&&(#[]:Array GenState).size==0,(boot_heap P).objs.size,(boot_heap P).nsMap mainGlobals "__annotations__")=(true,11,some (.ref 6)):= ⋯
theorem Sl{a:Bool}(x:a=true)(y:b=true):(a&&b)=true:=by rw [x,y]; rfl
theorem abr:PySem.Challenge.rw_np0205_01.wellSaid=true:=by
 rw [Fast.te9446332074065402090];unfold Fast.tw9446332074065402090 Fast.tw17960256430627541270 Fast.tw2436336058641802641 Fast.tw12908688711261696721
 repeat' first | with_reducible refine Sl ?_ ?_ | as_aux_lemma=>kernel_rfl
def nr(k:Nat):gr:=((fn k).map (·.k)).getD ⟨[],[],[],false,false⟩
def hO(k:Nat):List Stmt:=((fn k).map (·.body)).getD []
def lZ(cf:CF)(k i c:Nat)(σ:St):Option (Out×St):=yo cf (nr k) 12 (((hO k).drop i).take c) σ
def ifX(s:Stmt):Option Expr:=match s with
 | .If c _ _ _=>some c
 | _=>none
def IK(k i:Nat):Option Expr:=((hO k)[i]?).bind ifX
def yF(cf:CF)(k i:Nat)(σ:St):Option (V×St):=((IK k i).map λc=>i7 cf eN (nr k) c σ).getD none
end
section
variable{a:Addr}{b:Bool}{p:Pos}{l:List (V×V)}{n i:Nat}{v:Value}{M:aV}{loc:List (Option LV)}{o':Obj}{W:List aV}{h h':Heap}{α:Type}{x:Str}{j:Nat}{y:Str}{β:Type}{f:Nat}{A:Around}{s:Shared}{Q:Value->Shared->Prop}{tk:Nat}{e:Expr}{m:Str->Option Value}{k:V}{E:Value->Shared->Prop}{L:Addr}{vs:List Value}{es:List DictEntry}{prog:Program}{w:Value}{xs:List (List Int×Addr×Value)}{d:Addr}{ws:List Value}{R:Result->Shared->Prop}{pos:Pos}{Q':β->Shared->Prop}{op:BoolOp}{env:Env}{cf:CF}{ng:Bool}{C:Bool->Shared->Prop}{name attr:Str}{ks:List (Option Expr)}{items:List V}{A3:List aV}{ep N:Nat}{is:List Int}{sc:Scope}{kindOf:Str->Option NameKind}{binds:List (Str×Value)}{cells:List (Str×Addr)}{as:List V}{fd:FuncData}{args:Args}{wall:List Value}{kf:Nat}{ts:List (List Int)}{hh:Int}{l':List (V×V)}{W':List aV}{apos:Pos}{RR:Result->Shared->Prop}{it:Addr}{bs:List (Array UInt8×Tok)}{I:Addr}{ps:List (Nat×LV)}{pl:Sem Bool}{many:Bool}{ix:Str->Option Nat}{qL:Expr}{fp:List Addr}{te:Expr}{D:Addr}{elt:Expr}{gens:List Comprehension}{cp:Pos}{cs:List Expr}{line:Nat}{ap:Pos}{ls:List LV}
abbrev wW(vs:List Value)(n:Nat):Obj:={cls:=.type "tuple",data:=.seq vs.toArray n}
abbrev b9(es:List DictEntry)(n:Nat):Obj:={cls:=.type "dict",data:=.dict es.toArray n}
abbrev PS(a b c:Int)(t u v:Tok):Obj:={cls:=.type "range",data:=.fields #[.int a t,.int b u,.int c v]}
inductive gG where
 | gN | bO | own (i:Nat) | loc | cell (i:Nat) | nq | gl (n:Nat) | gd (n:Nat)
variable{X:gG->Prop}{t t':gG}
def gG.ctorIdx(x:gG):Nat:=x.casesOn 0 1 (λZ=>2) 3 (λZ=>4) 5 (λZ=>6) (λZ=>7)
theorem eT{a b:gG}{p:Prop}(h:a=b):gG.noConfusionType p a b:=gG.noConfusion h
theorem gG.own.inj{a b:Nat}(h:gG.own a=gG.own b):a=b:=gG.noConfusion h id
theorem gG.cell.inj{a b:Nat}(h:gG.cell a=gG.cell b):a=b:=gG.noConfusion h id
theorem gG.gl.inj{a b:Nat}(h:gG.gl a=gG.gl b):a=b:=gG.noConfusion h id
theorem gG.gd.inj{a b:Nat}(h:gG.gd a=gG.gd b):a=b:=gG.noConfusion h id
structure bc where
 T:Addr->Option (gG×Obj)
 N:Nat
 ga:Nat->Addr
 om:Nat->Addr
 vals:Nat->Option Value
variable{c c':bc}{post:bc->α->Prop}{c₀ fg aX:bc}
def xn:World×Frag×Heap:=@Classical.epsilon _ ⟨(aWorld 1,[],{})⟩ λp=>¬ Je p
def gD:World:=xn.1
def cT:Frag:=xn.2.1
def eI:Heap:=xn.2.2
abbrev aO:Model:=model pw gD
def mB:V->Int
 | .int i=>hashInt i
 | .tup l=>(dG l).elim 0 λa=>reduceHash (Builtin.Tuple.tupleHashOf (a.map hashInt))
 | _=>0
def pS(l:List (V×V)):Prop:=l.Pairwise λa b=>dK a.1 b.1=false
inductive MU(i:Int):Value->Prop
 | mk (t:Tok):MU i (.int i t)
inductive Y2(k:Nat):Value->Prop
 | mk (t:Tok):Y2 k (.str (jG k) t)
inductive SR(b:List UInt8):Value->Prop
 | mk (t:Tok) (h:b.length<=100000):SR b (.bytes b.toArray t)
section
variable(c:bc)
inductive wB(tg:gG)(mk:List Value->Nat->Obj)(n:Nat)(R:List Value->Prop):Value->Prop
 | mk (a:Addr) (vs:List Value) (k:Nat) (t:c.T a=some (tg,mk vs k)) (S:R vs) (b:n<=100000):wB tg mk n R (.ref a)
inductive SO(tg:gG)(l:List (V×V))(R:List DictEntry->Prop):Value->Prop
 | mk (a:Addr) (es:List DictEntry) (k:Nat) (t:c.T a=some (tg,b9 es k)) (S:R es) (nd:pS l) (b:l.length<=100000):SO tg l R (.ref a)
inductive Zj(k:Nat)(R:List DictEntry->Prop):Value->Prop
 | mk (a d:Addr) (es:List DictEntry) (n:Nat) (t:c.T a=some (.gN,instObj (fK k) d)) (t':c.T d=some (.gN,b9 es n)) (S:R es):Zj k R (.ref a)
inductive Jq(n:Nat):Value->Prop
 | mk (h:n<c.N):Jq n (.ref (c.ga n))
inductive Y5(a b s:Int):Value->Prop
 | mk (r:Addr) (t u w:Tok) (h:c.T r=some (.gN,PS a b s t u w)):Y5 a b s (.ref r)
inductive u9(A:Value->Prop)(B:List Value->Prop):List Value->Prop
 | mk (v:Value) (t:List Value) (h:A v) (r:B t):u9 A B (v::t)
inductive OT(k:V)(A A':Value->Prop)(B:List DictEntry->Prop):List DictEntry->Prop
 | mk (e:DictEntry) (t:List DictEntry) (h:A e.key) (h':A' e.val) (hh:e.hash=mB k) (r:B t):OT k A A' B (e::t)
inductive OS(A:Value->Prop)(B:List Str->List DictEntry->Prop):List Str->List DictEntry->Prop
 | mk (e:DictEntry) (t:List DictEntry) (y:Str) (m:List Str) (tk:Tok) (hk:e.key=.str y tk) (h:A e.val) (r:B m t):OS A B (y::m) (e::t)
mutual
noncomputable def VR:V->Value->Prop
 | .none,v=>v=.none
 | .bool b,v=>v=.bool b
 | .int i,v=>MU i v
 | .Jw k,v=>Y2 k v
 | .bytes b,v=>SR b v
 | .tup l,v=>wB c .gN wW l.length (dw l) v
 | .lst l,v=>wB c .gN dQ l.length (dw l) v
 | .df l,v=>SO c .gN l (iV l) v
 | .inst k l,v=>Zj c k (lO (n8 k) l) v
 | .glob n,v=>Jq c n v
 | .ql a b s,v=>Y5 c a b s v
noncomputable def dw:List V->List Value->Prop
 | [],vs=>vs=[]
 | x::r,vs=>u9 (VR x) (dw r) vs
noncomputable def iV:List (V×V)->List DictEntry->Prop
 | [],es=>es=[]
 | (k,x)::r,es=>OT k (VR k) (VR x) (iV r) es
noncomputable def lO:List Str->List V->List DictEntry->Prop
 | _,[],es=>es=[]
 | ns,x::r,es=>OS (VR x) (λm t=>lO m r t) ns es
end
end
theorem aW{a:Bool}(h:(a&&b)=true):a=true/\b=true:=by induction a using eK with | false=>exact Bool.noConfusion h | true=>exact ⟨rfl,h⟩
structure ji(c c':bc):Prop where
 gN:∀ a o,c.T a=some (.gN,o)->c'.T a=some (.gN,o)
 N:c.N<=c'.N
 ga:∀ n,n<c.N->c'.ga n=c.ga n
 om:∀ n,n<c.N->c'.om n=c.om n
structure Lw(c c':bc):Prop extends ji c c' where
 bO:∀ a o,c.T a=some (.bO,o)->c'.T a=some (.bO,o)
structure Le(c c':bc):Prop extends Lw c c' where
 vals:c'.vals=c.vals
theorem ji.refl(c:bc):ji c c:=⟨λZ Z h=>h,aA _,λZ Z=>rfl,λZ Z=>rfl⟩
theorem ji.trans{a b:bc}(x:ji a b)(y:ji b c):ji a c:=
 ⟨λZ Z h=>y.gN _ _ (x.gN _ _ h),af x.N y.N,λn h=>(y.ga n (ax h x.N)).trans (x.ga n h),λn h=>(y.om n (ax h x.N)).trans (x.om n h)⟩
theorem Lw.refl(c:bc):Lw c c:=⟨ji.refl c,λZ Z h=>h⟩
theorem Lw.trans{a b:bc}(x:Lw a b)(y:Lw b c):Lw a c:=⟨x.toji.trans y.toji,λZ Z h=>y.bO _ _ (x.bO _ _ h)⟩
theorem Le.refl(c:bc):Le c c:=⟨Lw.refl c,rfl⟩
theorem Le.trans{a b:bc}(x:Le a b)(y:Le b c):Le a c:=⟨x.toLw.trans y.toLw,y.vals.trans x.vals⟩
theorem qY{l:List V}(h:∀ x∈l,∀ v,VR c x v->VR c' x v):∀ vs,dw c l vs->dw c' l vs:=by
 induction l with
 | nil=>exact λZ q=>q
 | cons x r ih=>intro vs q;injection q with v t a b;exact ⟨v,t,h x aq v a,ih (λy m=>h y (aw _ m)) t b⟩
theorem wA(h:∀ p∈l,(∀ v,VR c p.1 v->VR c' p.1 v)/\∀ v,VR c p.2 v->VR c' p.2 v):∀ es,iV c l es->iV c' l es:=by
 induction l with
 | nil=>exact λZ q=>q
 | cons x r ih=>intro es q;have hx:=h x aq;injection q with e t a b hh d;exact ⟨e,t,hx.1 _ a,hx.2 _ b,hh,ih (λy m=>h y (aw _ m)) t d⟩
theorem wz{l:List V}(h:∀ x∈l,∀ v,VR c x v->VR c' x v):∀ ns es,lO c ns l es->lO c' ns l es:=by
 induction l with
 | nil=>exact λZ Z q=>q
 | cons x r ih=>intro ns es q;injection q with e t y m tk hk a b;exact ⟨e,t,y,m,tk,hk,h x aq _ a,ih (λy m=>h y (aw _ m)) m t b⟩
theorem KQ{p q:Bool}(h:(b||(p&&q))=true):(b||p)=true:=by induction b using eK with | false=>exact (aW h).1 | true=>rfl
theorem Qa{p q:Bool}(h:(b||(p&&q))=true):(b||q)=true:=by induction b using eK with | false=>exact (aW h).2 | true=>rfl
theorem VR.gen(hf:∀ a o,c.T a=some (.gN,o)->c'.T a=some (.gN,o))(hg:∀ m,(b||tv n (.glob m))=true->∀ v,Jq c m v->Jq c' m v)(x:V):(b||tv n x)=true->∀ v,VR c x v->VR c' x v:=
 V.rec (motive_1:=λx=>(b||tv n x)=true->∀ v,VR c x v->VR c' x v) (motive_2:=λl=>(b||lP n l)=true->∀ x∈l,∀ v,VR c x v->VR c' x v)
  (motive_3:=λl=>(b||tu n l)=true->∀ p∈l,(∀ v,VR c p.1 v->VR c' p.1 v)/\∀ v,VR c p.2 v->VR c' p.2 v) (motive_4:=λp=>((b||tv n p.1)=true->∀ v,VR c p.1 v->VR c' p.1 v)/\((b||tv n p.2)=true->∀ v,VR c p.2 v->VR c' p.2 v))
  (λZ Z h=>h) (λZ Z Z h=>h) (λZ Z Z h=>h) (λZ Z Z h=>h) (λZ Z Z h=>h)
  (λl ih q v h=>by induction h with | mk a vs n t r b=>exact ⟨a,vs,n,hf _ _ t,qY (ih q) vs r,b⟩)
  (λl ih q v h=>by induction h with | mk a vs n t r b=>exact ⟨a,vs,n,hf _ _ t,qY (ih q) vs r,b⟩)
  (λl ih q v h=>by induction h with | mk a vs n t r k b=>exact ⟨a,vs,n,hf _ _ t,wA (ih q) vs r,k,b⟩)
  (λk l ih q v h=>by induction h with | mk a d es n t t' r=>exact ⟨a,d,es,n,hf _ _ t,hf _ _ t',wz (ih q) _ es r⟩)
  hg (λa b s Z v h=>by induction h with | mk r n u w t=>exact ⟨r,n,u,w,hf _ _ t⟩)
  (λZ x m=>eX m) (λx r i1 i2 q=>ah.mpr ⟨i1 (KQ q),i2 (Qa q)⟩)
  (λZ x m=>eX m) (λx r i1 i2 q=>ah.mpr ⟨⟨i1.1 (KQ (KQ q)),i1.2 (Qa (KQ q))⟩,i2 (Qa q)⟩) (λa b i j=>⟨i,j⟩) x
theorem VR.mono(l:ji c c')(x:V)(v:Value)(h:VR c x v):VR c' x v:=
 VR.gen (n:=0) (b:=true) l.gN (λm Z v h=>by induction h with | mk h=>exact l.ga m h▸⟨ax h l.N⟩) x rfl v h
theorem dw.mono(l:ji c c')(xs:List V)(vs:List Value)(h:dw c xs vs):dw c' xs vs:=qY (λx Z=>VR.mono l x) vs h
theorem iV.mono(l:ji c c')(xs:List (V×V))(es:List DictEntry)(h:iV c xs es):iV c' xs es:=wA (λx Z=>⟨VR.mono l _,VR.mono l _⟩) es h
theorem lO.mono(l:ji c c')(xs:List V)(ns:List Str)(es:List DictEntry)(h:lO c ns xs es):lO c' ns xs es:=wz (λx Z=>VR.mono l x) ns es h
structure iR where
 k:gr
 env:Env
 L:Addr
 C:Addr
 cl:Nat->Addr
 r:Nat
variable{F:iR}
def pK(es:List DictEntry):Prop:=∀ e∈es,∃ y tk,e.key=.str y tk/\e.hash=hashStr gD y
inductive Ss(o:Obj)(m:Str->Option Value):Prop
 | mk (es:Array DictEntry) (ep:Nat) (d:o.data=.dict es ep) (k:StrKeys es) (f:∀ name,nsFind es name=m name)
section
variable(c:bc)
def CZ(i:Nat):LV->Value->Prop
 | .v x,v=>VR c x v
 | .ol l,v=>wB c (.own i) dQ l.length (dw c l) v
 | .od l,v=>SO c (.own i) l (iV c l) v
inductive Zc(n k:Nat)(l:List V):Prop
 | mk (es:List DictEntry) (e:Nat) (t:c.T (c.ga n)=some (.gl n,instObj (fK k) (c.om n))) (t':c.T (c.om n)=some (.gd n,b9 es e)) (S:lO c (n8 k) l es)
inductive Zb(n:Nat)(l:List V):Prop
 | mk (vs:List Value) (e:Nat) (t:c.T (c.ga n)=some (.gl n,dQ vs e)) (S:dw c l vs) (b:l.length<=100000)
inductive Zd(n:Nat)(l:List (V×V)):Prop
 | mk (es:List DictEntry) (e:Nat) (t:c.T (c.ga n)=some (.gl n,b9 es e)) (S:iV c l es) (nd:pS l) (b:l.length<=100000)
inductive MSd(n:Nat)(ks:List Nat)(l:List V):Prop
 | mk (es:List DictEntry) (e:Nat) (t:c.T (c.ga n)=some (.gl n,b9 es e)) (S:lO c (ks.map jG) l es) (k:pK es) (nd:(ks.map jG).Nodup)
def MR(n:Nat):aV->Prop
 | .inst k l=>Zc c n k l
 | .list l=>Zb c n l
 | .dict l=>Zd c n l
 | .sd ks l=>MSd c n ks l
 | .dead=>True
def BK:gG->Bool
 | .bO=>true
 | .loc=>true
 | .nq=>true
 | .cell _=>true
 | _=>false
inductive aeE:Prop
 | mk (a:Addr) (o:Obj) (h:sysModules<a) (t:c.T a=some (.bO,o))
structure CY:Prop where
 up:aeE c
 sys:∀ t o,c.T sysModules=some (t,o)->o.cls=.type "dict" ->BK t=true
structure dp(W:List aV)(h:Heap):Prop where
 low:CY c
 hold:∀ a t o,c.T a=some (t,o)->h.get? a=some o
 base:∀ a o,eI.get? a=some o->c.T a=some (.bO,o)
 len:W.length=c.N
 jx:∀ n M,W[n]? =some M->MR c n M
inductive yW(F:iR):Prop
 | mk (o:Obj) (m:Str->Option Value) (t:c.T F.L=some (.loc,o)) (n:Ss o m) (z:∀ (i:Nat) (x:Str) (v:Value),F.k.vn[i]? =some (x,false)->c.vals i=some v->m x=some v)
inductive Js(a:Addr)(i:Nat):Prop
 | mk (o:Obj) (ov:Option Value) (t:c.T a=some (.cell i,o)) (d:o.data=.cell ov) (z:∀ v,c.vals i=some v->ov=some v)
inductive MJ(i:Nat)(lv:LV):Prop
 | mk (v:Value) (e:c.vals i=some v) (r:CZ c i lv v)
structure Bb(F:iR)(loc:List (Option LV)):Prop where
 len:loc.length=F.k.vn.length
 ns:yW c F
 cells:∀ (i:Nat) (x:Str),F.k.vn[i]? =some (x,true)->Js c (F.cl i) i
 vals:∀ (i:Nat) (lv:LV),loc[i]? =some (some lv)->MJ c i lv
inductive Zx(m:Str->Option Value)(y:Str)(x:V):Prop
 | mk (v:Value) (e:m y=some v) (r:VR c x v)
inductive aeU(F:iR)(cv:List (Option V)):Prop
 | mk (o:Obj) (m:Str->Option Value) (t:c.T F.C=some (.nq,o)) (n:Ss o m) (z:∀ (j:Nat) (y:Str) (x:V),F.k.zd[j]? =some y->cv[j]? =some (some x)->Zx c m y x)
structure CvR(F:iR)(cv:List (Option V)):Prop where
 len:cv.length=F.k.zd.length
 ns:F.k.zd≠ [] ->aeU c F cv
structure bQ(F:iR)(σ:St)(h:Heap):Prop where
 w:dp c σ.W h
 loc:Bb c F σ.loc
 cv:CvR c F σ.cv
end
structure Ch(c c':bc)(X:gG->Prop):Prop where
 keep:∀ a t o,c.T a=some (t,o)->¬ X t->c'.T a=some (t,o)
 gf:ji c c'
theorem Ch.lw(x:Ch c c' X)(hb:¬ X .bO):Lw c c':=⟨x.gf,λa o h=>x.keep a _ o h hb⟩
theorem Ch.le(x:Ch c c' X)(hb:¬ X .bO)(hv:c'.vals=c.vals):Le c c':=⟨x.lw hb,hv⟩
theorem CZ.ch(x:Ch c c' X)(hi:¬ X (.own i)){lv:LV}(h:CZ c i lv v):CZ c' i lv v:=by
 induction lv using LV.casesOn with
 | v _=>exact VR.mono x.gf _ _ h
 | ol _=>induction h with | mk a vs n t r b=>exact ⟨a,vs,n,x.keep _ _ _ t hi,dw.mono x.gf _ _ r,b⟩
 | od _=>induction h with | mk a vs n t r k b=>exact ⟨a,vs,n,x.keep _ _ _ t hi,iV.mono x.gf _ _ r,k,b⟩
theorem MR.ch(x:Ch c c' X)(hn:n<c.N)(h1:¬ X (.gl n))(h2:¬ X (.gd n))(h:MR c n M):MR c' n M:=by
 have k1:=λo e=>x.keep (c.ga n) _ o e h1;have k2:=λo e=>x.keep (c.om n) _ o e h2;rw [<-x.gf.ga n hn] at k1;rw [<-x.gf.om n hn] at k2;induction M with
 | inst k l=>induction h with | mk es e a b r=>rw [<-x.gf.ga n hn,<-x.gf.om n hn] at a; rw [<-x.gf.om n hn] at b; exact ⟨es,e,k1 _ a,k2 _ b,lO.mono x.gf _ _ _ r⟩
 | list l=>induction h with | mk es e a r b=>rw [<-x.gf.ga n hn] at a; exact ⟨es,e,k1 _ a,dw.mono x.gf _ _ r,b⟩
 | dict l=>induction h with | mk es e a r k b=>rw [<-x.gf.ga n hn] at a; exact ⟨es,e,k1 _ a,iV.mono x.gf _ _ r,k,b⟩
 | sd ks l=>induction h with | mk es e a r k b=>rw [<-x.gf.ga n hn] at a; exact ⟨es,e,k1 _ a,lO.mono x.gf _ _ _ r,k,b⟩
 | dead=>trivial
theorem yW.ch(x:Ch c c' X)(hv:c'.vals=c.vals)(h1:¬ X .loc):yW c F->yW c' F
 | ⟨o,m,a,b,d⟩=>⟨o,m,x.keep _ _ _ a h1,b,λi y v hi h=>d i y v hi (hv▸h)⟩
theorem Js.ch(x:Ch c c' X)(hv:c'.vals=c.vals)(h1:¬ X (.cell i)):Js c a i->Js c' a i
 | ⟨o,ov,t,b,d⟩=>⟨o,ov,x.keep _ _ _ t h1,b,λv h=>d v (hv▸h)⟩
theorem MJ.ch(x:Ch c c' X)(hv:c'.vals=c.vals){i:Nat}{lv:LV}(h1:¬ X (.own i)):MJ c i lv->MJ c' i lv
 | ⟨v,e,r⟩=>⟨v,hv▸e,r.ch x h1⟩
theorem Bb.ch(x:Ch c c' X)(hv:c'.vals=c.vals)(h1:¬ X .loc)(h2:∀ i,¬ X (.cell i))(h3:∀ i,¬ X (.own i))(l:Bb c F loc):Bb c' F loc:=
 ⟨l.len,l.ns.ch x hv h1,λi y hi=>(l.cells i y hi).ch x hv (h2 i),λi lv hl=>(l.vals i lv hl).ch x hv (h3 i)⟩
theorem CvR.ch(x:Ch c c' X)(h1:¬ X .nq){cv:List (Option V)}(l:CvR c F cv):CvR c' F cv:=
 ⟨l.len,λgx=>(l.ns gx).casesOn λo m a b d=>⟨o,m,x.keep _ _ _ a h1,b,λj y z hj hz=>(d j y z hj hz).casesOn λv e r=>⟨v,e,VR.mono x.gf _ _ r⟩⟩⟩
def bc.put(c:bc)(a:Addr)(t:gG)(o:Obj):bc:={c with T:=λb=>if b=a then some (t,o)else c.T b}
theorem aF(c:bc)(a:Addr)(t:gG)(o:Obj):(c.put a t o).T a=some (t,o):=dm rfl
theorem bY(c:bc){b:Addr}(t:gG)(o:Obj)(h:b≠a):(c.put a t o).T b=c.T b:=cb h
theorem cm{b:Addr}{u:gG}{o q:Obj}(e:(c.put a t o).T b=some (u,q)):(b=a/\u=t/\q=o)\/(b≠a/\c.T b=some (u,q)):=by
 by_cases hb:b=a
 ·rw [hb,aF] at e; cases e; exact .inl ⟨hb,rfl,rfl⟩
 ·rw [bY _ _ _ hb] at e; exact .inr ⟨hb,e⟩
theorem aev{b:Addr}{u:gG}{o q:Obj}(h:c.T a=some (t,o))(h':c.T b=some (u,q))(n:u≠t):b≠a:=λe=>by rw [e,h] at h'; cases h'; exact n rfl
theorem Ch.put{o:Obj}(h:c.T a=some (t,o))(h1:t≠ .gN):Ch c (c.put a t' o') (λx=>x=t):=
 have k:∀ b u q,c.T b=some (u,q)->¬ u=t->(c.put a t' o').T b=some (u,q):=λb u q hb hx=>(bY _ _ _ (aev h hb hx)).trans hb
 ⟨k,⟨λb q hb=>k b _ q hb (λe=>h1 e.symm),aA _,λZ Z=>rfl,λZ Z=>rfl⟩⟩
theorem Ch.fresh{o:Obj}(h:c.T a=none):Ch c (c.put a t o) (λZ=>False):=
 have k:∀ b u q,c.T b=some (u,q)->(c.put a t o).T b=some (u,q):=λb u q hb=>(bY _ _ _ λe=>by rw [e,h] at hb; exact (mK hb)).trans hb
 ⟨λb u q hb Z=>k b u q hb,⟨λb q hb=>k b _ q hb,aA _,λZ Z=>rfl,λZ Z=>rfl⟩⟩
theorem CY.put(l:CY c){o:Obj}(h:a≠sysModules\/BK t=true\/o.cls≠ .type "dict")(hb:∀ o,c.T a≠some (.bO,o)):CY (c.put a t o):=by
 refine ⟨l.up.casesOn λb o' DP e=>⟨b,o',DP,(bY _ _ _ λq:b=a=>hb o' (q▸e)).trans e⟩,λt' ZO e' hc=> ?_⟩;rcases cm e' with⟨e1,rfl,rfl⟩ | ⟨_,e2⟩
 ·exact h.elim (λh=>absurd e1.symm h) λh=>h.elim id λh=>absurd hc h
 ·exact l.sys t' ZO e2 hc
theorem CY.ne(l:CY c){o:Obj}(h:c.T a=some (t,o))(hc:o.cls=.type "dict")(ht:BK t=false):a≠sysModules:=λe=>
 Bool.noConfusion (ht.symm.trans (l.sys t o (e▸h) hc))
theorem CY.vy(l:CY c){o:Obj}(h:c.T a=some (t,o))(ht:t≠ .bO)(hc:BK t'=true\/(BK t=false/\o'.cls=o.cls)):CY (c.put a t' o'):=
 l.put (hc.elim (λhc=>.inr (.inl hc)) λ⟨h1,h2⟩=>(Classical.em (o.cls=.type "dict")).elim (λhd=>.inl (l.ne h hd h1)) λhd=>.inr (.inr (h2▸hd))) λZO e=>ht (by rw [h] at e; cases e; rfl)
theorem Ch.refl(c:bc)(X:gG->Prop):Ch c c X:=⟨λZ Z Z h Z=>h,ji.refl c⟩
section
variable{σ:St}{lv lv':LV}
theorem eV{l:List α}{x:α}(e:l[n]? =some x):n<l.length:=(eD.mp e).1
theorem dp.lt(r:dp c W h)(e:W[n]? =some M):n<c.N:=r.len▸eV e
theorem dp.fresh(r:dp c W h):c.T h.objs.size=none:=by
 induction e:c.T h.objs.size using nN with
 | none=>rfl
 | some p=>exact absurd (bt (r.hold _ p.1 p.2 e)) (eM _)
theorem dp.j8(r:dp c W h):h.objs.size≠sysModules:=r.low.up.casesOn
 λZ Z hb e=>dM (di hb (bt (r.hold _ _ _ e)))
theorem dp.Qq(r:dp c W h){o:Obj}:CY (c.put h.objs.size t o):=r.low.put (.inl r.j8) λo e=>by rw [r.fresh] at e; exact (mK e)
theorem dp.heap(r:dp c W h)(k:∀ a t o,c.T a=some (t,o)->h'.get? a=some o):dp c W h':=⟨r.low,k,r.base,r.len,r.jx⟩
theorem dp.push(r:dp c W h)(o:Obj):dp c W (h.push o):=r.heap λa t o' e=>aE _ (r.hold a t o' e)
theorem dp.keeps(r:dp c W h)(k:∀ a o,h.get? a=some o->h'.get? a=some o):dp c W h':=r.heap λa t o e=>k _ _ (r.hold a t o e)
theorem bQ.heap(r:bQ c F σ h)(k:∀ a t o,c.T a=some (t,o)->h'.get? a=some o):bQ c F σ h':=⟨r.w.heap k,r.loc,r.cv⟩
theorem bQ.push(r:bQ c F σ h)(o:Obj):bQ c F σ (h.push o):=⟨r.w.push o,r.loc,r.cv⟩
theorem bQ.keeps(r:bQ c F σ h)(k:∀ a o,h.get? a=some o->h'.get? a=some o):bQ c F σ h':=⟨r.w.keeps k,r.loc,r.cv⟩
theorem dp.old(r:dp c W h):∀ a o,eI.get? a=some o->h.get? a=some o:=λa o e=>r.hold a .bO o (r.base a o e)
theorem bQ.ie(r:bQ c F σ h)(x:cT.In eI):cT.In h:=λa o e=>r.w.old a o (x a o e)
theorem bQ.old(r:bQ c F σ h):∀ a o,eI.get? a=some o->h.get? a=some o:=r.w.old
theorem dp.alloc(r:dp c W h)(t:gG)(o:Obj)(hf:o.isFreed=false):dp (c.put h.objs.size t o) W (h.push o):=by
 have x:=Ch.fresh (t:=t) (o:=o) r.fresh;refine ⟨r.Qq,λa u q e=> ?_,λa q e=>x.keep _ _ _ (r.base a q e) id,r.len,λn M e=>(r.jx n M e).ch x (r.lt e) id id⟩;rcases cm e with⟨rfl,rfl,rfl⟩ | ⟨_,e2⟩
 ·exact aR _ hf
 ·exact aE _ (r.hold a u q e2)
theorem bQ.alloc(r:bQ c F σ h)(t:gG)(o:Obj)(hf:o.isFreed=false):bQ (c.put h.objs.size t o) F σ (h.push o):=
 have x:=Ch.fresh (t:=t) (o:=o) r.w.fresh
 ⟨r.w.alloc t o hf,r.loc.ch x rfl id (λZ=>id) (λZ=>id),r.cv.ch x id⟩
theorem bQ.gw(r:bQ c F σ h)(t:gG)(o:Obj):Le c (c.put h.objs.size t o):=(Ch.fresh (t:=t) (o:=o) r.w.fresh).le id rfl
theorem my(hold:∀ a t o,c.T a=some (t,o)->h.get? a=some o)(hs:Heap.SameBut a h h')(ha:h'.get? a=some o'):∀ b u q,(c.put a t o').T b=some (u,q)->h'.get? b=some q:=by
 intro b u q e;rcases cm e with⟨rfl,rfl,rfl⟩ | ⟨hb,e2⟩
 ·exact ha
 ·exact (hs.2 b hb).trans (hold b u q e2)
theorem Dg{l:List α}{x y:α}(e:(l.set i x)[j]? =some y):(j=i/\y=x/\i<l.length)\/(j≠i/\l[j]? =some y):=by
 by_cases hj:j=i
 ·subst hj;have hl:=eV e;rw [iI] at hl;rw [List.getElem?_set_self hl] at e;obtain rfl:=ae e;exact .inl ⟨rfl,rfl,hl⟩
 ·rw [List.getElem?_set_ne (Ne.symm hj)] at e;exact .inr ⟨hj,e⟩
theorem Bb.reset(x:Ch c c' (λt=>t=.own i))(hv:c'.vals=c.vals)(l:Bb c F loc)(hi:loc[i]? =some (some lv))(h:∀ v,c.vals i=some v->CZ c i lv v->CZ c' i lv' v):Bb c' F (loc.set i (some lv')):=by
 refine ⟨(iI ..).trans l.len,l.ns.ch x hv eT,λj y hj=>(l.cells j y hj).ch x hv eT,λj Ha hl=> ?_⟩;rcases Dg hl with⟨rfl,e,_⟩ | ⟨hj,e⟩
 ·obtain rfl:=ae e;exact (l.vals j lv hi).casesOn λv e r=>⟨v,hv▸e,h v e r⟩
 ·exact (l.vals j Ha e).ch x hv λq=>hj (gG.own.inj q)
end
inductive aeX{α β:Type}(x:Option α)(f:α->Option β)(b:β):Prop
 | mk (a:α) (h:x=some a) (h':f a=some b)
theorem eY{x:Option α}{f:α->Option β}{b:β}(h:x.bind f=some b):aeX x f b:=match x,h with
 | some a,h=>⟨a,rfl,h⟩
theorem aJ{x:Option α}{f:α->Option β}{b:β}{p:Prop}(h:x.bind f=some b)(k:∀ a,x=some a->f a=some b->p):p:=(eY h).casesOn k
inductive Za{α β:Type}(x:Option α)(f:α->β):β->Prop
 | mk (a:α) (h:x=some a):Za x f (f a)
theorem eo{x:Option α}{f:α->β}{b:β}(h:x.map f=some b):Za x f b:=match x,h with
 | some a,h=>by obtain rfl:=ae h; exact ⟨a,rfl⟩
inductive AsO{α:Type}(b:Bool)(x:α):α->Prop
 | mk (h:b=true):AsO b x x
theorem eC{x y:α}(h:iv b x=some y):AsO b x y:=match b,h with
 | true,h=>by obtain rfl:=ae h; exact ⟨rfl⟩
theorem cE{p:Prop} [Decidable p](h:decide p=true):p:=fc h
theorem fb{a:Bool}{p:Prop}(h:(a&&b)=true)(k:a=true->b=true->p):p:=k (aW h).1 (aW h).2
theorem nn{x:α}{p:Prop}(h:(none:Option α)=some x):p:=(mK h)
theorem fJ{v:V}{i:Int}(h:tp v=some i):v=.int i:=by induction v using lH <;> first | exact nn h | exact av V.int (ae h)
theorem lN{v:V}{i:Bool}(h:Si v=some i):v=.bool i:=by induction v using lH <;> first | exact nn h | exact av V.bool (ae h)
theorem yN{v:V}{i:List UInt8}(h:YP v=some i):v=.bytes i:=by induction v using lH <;> first | exact nn h | exact av V.bytes (ae h)
theorem kP{v:V}{i:List V}(h:ze v=some i):v=.lst i:=by induction v using lH <;> first | exact nn h | exact av V.lst (ae h)
theorem sV{v:V}{i:List V}(h:MC v=some i):v=.tup i:=by induction v using lH <;> first | exact nn h | exact av V.tup (ae h)
theorem Oz{v:V}{i:List (V×V)}(h:asD v=some i):v=.df i:=by induction v using lH <;> first | exact nn h | exact av V.df (ae h)
theorem CT{v:V}(h:asG v=some i):v=.glob i:=by induction v using lH <;> first | exact nn h | exact av V.glob (ae h)
theorem mw{x:Str}:∀ {l:List Str} {i:Nat},iM x l=some i->l[i]? =some x
 | y::r,i,h=>by
  rw [QK] at h;induction e:Fast.sEq y x using eK with
  | true=>rw [e] at h; obtain rfl:=ae h; exact av some (gb.mp e)
  | false=>rw [e] at h; induction eo h with | mk j hj=>have k:=mw hj; exact k
theorem mq{α:Type}(x:Str):∀ l:List (Str×α),gH x l=l.lookup x
 | []=>rfl
 | p::r=>by
  obtain ⟨y,a⟩:=p;rw [BS];induction e:Fast.sEq y x using eK with
  | true=>rw [gb.mp e,List.lookup_cons_self]; rfl
  | false=>
   have hn:(x==y)=false:=aI.mpr λq=>by rw [gb.mpr q.symm] at e; exact (Bool.noConfusion e)
   rw [List.lookup_cons,hn,<-mq x r]; rfl
theorem jm(h:fQ x=true):(x==("__debug__" :Str))=false:=aI.mpr λe=>by
 unfold fQ at h; rw [gb.mpr e] at h; exact (Bool.noConfusion h)
structure iZ(r:Nat)(A:Around):Prop where
 depth:A.depth+10*(r+1)<recursionLimit
 units:A.units+100*(r+1)<cLine
 handled:A.handled=none
theorem iZ.mono{r r':Nat}(h:iZ r A)(k:r'<=r):iZ r' A:=
 ⟨az (bf (Nat.mul_le_mul_left _ (cC k)) _) h.depth,az (bf (Nat.mul_le_mul_left _ (cC k)) _) h.units,h.handled⟩
theorem iZ.un{r:Nat}(h:iZ r A)(hn:n<100):A.units+n<cLine:=az (bf (af (bV hn) (Nat.le_mul_of_pos_right 100 (cN r))) _) h.units
theorem iZ.u{r:Nat}(h:iZ r A):A.units<cLine:=h.un (n:=0) ∅
theorem iZ.u1{r:Nat}(h:iZ r A):A.in1.units<cLine:=h.un (n:=1) ∅
structure cM(F:iR):Prop where
 kind:F.env.scope.kind=.function
 glob:F.env.globals=mainGlobals
 R8:F.env.builtins=builtinsNs
 var:∀ (i:Nat) (x:Str),F.k.vn[i]? =some (x,false)->F.k.cmp=false->F.env.kindOf x=some .local/\F.env.locals=F.L
 cell:∀ (i:Nat) (x:Str),F.k.vn[i]? =some (x,true)->(F.k.cmp=false\/F.k.y0.lookup x=some .free)->F.env.kindOf x=some .cell/\F.env.cells.lookup x=some (F.cl i)
 own:∀ (j:Nat) (x:Str),F.k.zd[j]? =some x->F.env.kindOf x=some .local/\F.env.locals=F.C
 gl:∀ x:Str,F.k.y0.lookup x=some .globalImplicit->F.env.kindOf x=some .globalImplicit
 nd:(F.k.vn.map (·.1)).Nodup
 ndc:F.k.zd.Nodup
 YL:F.k.cmp=false->F.k.zd=[]
 scc:F.k.cmp=false->∀ x:Str,F.k.y0.lookup x=some .cell->∃ i:Nat,F.k.vn[i]? =some (x,true)
section
variable(F:iR)
def Ko(c:bc)(s:Shared)(σ:St)(post:bc->α->Prop)(Q:α->Shared->Prop):Prop:=∀ c' h' tk a,Le c c'->bQ c' F σ h'->post c' a->Q a {s with heap:=h',toks:=tk}
def Gv(t:Sem α)(σ:St)(post:bc->α->Prop)(σ':St):Prop:=
 ∀ (A:Around) (c:bc) (s:Shared) (Q:α->Shared->Prop) (E:Value->Shared->Prop),iZ F.r A->bQ c F σ s.heap->Ko F c s σ' post Q->wpAny aO A t Q E s
def Gs(t:Sem α)(σ:St)(post:bc->α->Prop)(σ':St):Prop:=
 ∀ (A:Around) (c:bc) (s:Shared) (Q:α->Shared->Prop) (E:Value->Shared->Prop),iZ F.r A->bQ c F σ s.heap->
  (∀ c' h' lX a,Lw c c'->bQ c' F σ' h'->post c' a->Q a {s with heap:=h',toks:=lX})->wpAny aO A t Q E s
def SE(e:Expr)(σ:St)(v:V)(σ':St):Prop:=Gv F (eval e F.env) σ (λc w=>VR c v w) σ'
def ST(e:Expr)(σ:St)(b:Bool)(σ':St):Prop:=Gv F (isTrue e F.env (eval e F.env)) σ (λZ v=>v=b) σ'
end
section
variable{σ σ' cg fN MX:St}
theorem Ko.mono{s':Shared}{σ:St}{Q:α->Shared->Prop}(l:Le c c')(q:Ko F c s σ post Q)(e:∀ h tk,{s' with heap:=h,toks:=tk}={s with heap:=h,toks:=tk}):Ko F c' s' σ post Q:=
 λEi h' tk a l' R p=>e h' tk▸q Ei h' tk a (l.trans l') R p
theorem Ko.at{σ:St}{Q:α->Shared->Prop}(q:Ko F c s σ post Q){a:α}(R:bQ c F σ s.heap)(p:post c a):Q a {s with toks:=tk}:=q c s.heap tk a (Le.refl c) R p
theorem Ko.qe{σ:St}{Q:α->Shared->Prop}(q:Ko F c s σ post Q){a:α}(R:bQ c F σ s.heap)(p:post c a):Q a s:=q c s.heap s.toks a (Le.refl c) R p
theorem SE.none{k pos}:SE F (.Constant .none k pos) σ .none σ:=λA c s Q E hA hR q=>wpAny_Constant_none (q.qe hR rfl)
theorem SE.bool{k pos}:SE F (.Constant (.bool b) k pos) σ (.bool b) σ:=λA c s Q E hA hR q=>wpAny_Constant_bool (q.qe hR rfl)
theorem SE.int{i:Int}{k pos}:SE F (.Constant (.int i) k pos) σ (.int i) σ:=λA c s Q E hA hR q=>wpAny_Constant_int (q.at hR ⟨_⟩)
theorem SE.str{k pos}:SE F (.Constant (.str (jG n)) k pos) σ (.Jw n) σ:=λA c s Q E hA hR q=>wpAny_Constant_str (q.at hR ⟨_⟩)
theorem SE.RZ{b:List UInt8}{k pos}(hb:b.length<=100000):SE F (.Constant (.bytes b) k pos) σ (.bytes b) σ:=λA c s Q E hA hR q=>by
 show wpAny _ _ (mkTextBytes b.toArray) _ _ _;exact aa (wpAny_fresh (aj (q.at hR ⟨_,hb⟩)))
theorem SE.neg{i:Int}{k pos pos'}:SE F (.UnaryOp .USub (.Constant (.int i) k pos) pos') σ (.int (-i)) σ:=λA c s Q E hA hR q=>
 wpAny_UnaryOp (wpAny_Constant_int (PyProof.Rows.neg_int (q.at hR ⟨_⟩)))
theorem SE.S4{i:Int}{pos}(h:SE F e σ (.int i) cg):SE F (.UnaryOp .USub e pos) σ (.int (-i)) cg:=λA c s Q E hA hR q=>
 wpAny_UnaryOp (h A c s _ _ hA hR λc' h' lX v l R V=>by induction V with | mk t=>exact PyProof.Rows.neg_int (q c' h' _ _ l R ⟨_⟩))
theorem ST.of(h:SE F e σ (.bool b) σ')(he:isTrue e F.env (eval e F.env)=(do let v<-eval e F.env; standAt e.pos; holding [v] (truthy v))):ST F e σ b σ':=λA c s Q E hA hR q=>
 wpAny_isTrue_value (h A c s _ _ hA hR λc' h' lX v l R V=>by subst V; exact cA (q c' h' lX b l R rfl)) he
theorem SE.GP{pos}(h:SE F e σ (.bool b) cg):SE F (.UnaryOp .Not e pos) σ (.bool (!b)) cg:=λA c s Q E hA hR q=>
 wpAny_UnaryOp (h A c s _ _ hA hR λc' h' lX v l R V=>by subst V; exact not_value (cA (q c' h' lX _ l R rfl)))
theorem ST.GP{pos}(h:ST F e σ b cg):ST F (.UnaryOp .Not e pos) σ (!b) cg:=λA c s Q E hA hR q=>
 wpAny_isTrue_Not (h A c s _ _ hA hR λc' h' lX v l R V=>by subst V; exact q c' h' lX _ l R rfl)
theorem Ss.ns{o:Obj}(ho:h.get? a=some o)(n:Ss o m):h.Ns a m:=n.casesOn
 λes ep d x y=>⟨o,es,ep,ho,d,x,y⟩
theorem uA{o:Obj}{ov:Option Value}(ho:h.get? a=some o)(d:o.data=.cell ov):h.IsCell a ov:=⟨o,ho,d⟩
inductive OF(k:gr)(x:Str)(i:Nat):Prop
 | cell (h:k.vn[i]? =some (x,true)) (h':k.cmp=false\/k.y0.lookup x=some .free)
 | loc (h:k.vn[i]? =some (x,false)) (h':k.cmp=false)
theorem UJ{k:gr}(h:iM x (k.vn.map (·.1))=some i):∃ b,k.vn[i]? =some (x,b):=by
 have e:=mw h;rw [bB] at e;induction q:k.vn[i]? using nN with
 | none=>rw [q] at e; exact (mK e)
 | some p=>rw [q] at e; obtain rfl:=ae e; exact ⟨p.2,rfl⟩
theorem UK{k:gr}(h:rf k x=some i):OF k x i:=by
 refine aJ h λj hj h2=> ?_;cases eC h2 with | mk h2=>
 refine ag (UJ hj) λb e=> ?_;rw [e] at h2;cases hc:k.cmp with
 | false=>exact b.casesOn (λe=>.loc e hc) (λe=>.cell e (.inl hc)) e
 | true=>
  rw [hc] at h2;have h2:(Ao k x&&b)=true:=h2;refine fb h2 λh3 z1=> ?_;obtain rfl:=z1;refine .cell e (.inr ?_);unfold Ao at h3;rw [mq] at h3;generalize k.y0.lookup x=o at h3 ⊢;induction o using nN with
  | none=>exact Bool.noConfusion h3
  | some q=>induction q using PySem.NameKind.casesOn <;> first | rfl | exact Bool.noConfusion h3
theorem BX (ek:cM F) {lv:LV} (hR:bQ c F σ s.heap) (hv:OF F.k x i) (hl:σ.loc[i]? =some (some lv))
  (q:∀ v,c.vals i=some v->CZ c i lv v->Q v s):wpAny aO A (loadName F.env x) Q E s:=(hR.loc.vals i lv hl).casesOn
 λv ZZ lr=>hv.casesOn
  (λh h'=>(hR.loc.cells i _ h).casesOn
   λo ov t d z=>wpAny_loadName_cell ek.kind (ek.cell i _ h h').1 (ek.cell i _ h h').2 (uA (hR.w.hold _ _ _ t) (z v ZZ▸d)) (q v ZZ lr))
  (λh h'=>hR.loc.ns.casesOn
   λo m t n z=>wpAny_loadName_local ek.kind (ek.var i _ h h').1 ((ek.var i _ h h').2▸n.ns (hR.w.hold _ _ _ t)) (z i _ v h ZZ) (q v ZZ lr))
theorem dp.Vn{o:Obj}(r:dp c W h)(ha:c.T a=some (t,o))(h1:t≠ .gN)(h2:t≠ .bO)(h3:∀ n,t≠ .gl n)(h4:∀ n,t≠ .gd n)(hk:BK t'=true\/(BK t=false/\o.cls=o.cls)):dp (c.put a t' o) W h:=
 have x:Ch c (c.put a t' o) (λu=>u=t):=Ch.put ha h1
 ⟨r.low.vy ha h2 hk,λb u q e=>match cm e with
  | .inl ⟨e1,_,e3⟩=>e1▸e3▸r.hold _ _ _ ha
  | .inr ⟨_,e⟩=>r.hold _ _ _ e,λb q e=>(x.le (λe=>h2 e.symm) rfl).bO _ _ (r.base b q e),r.len,λn M e=>(r.jx n M e).ch x (r.lt e) (λq=>h3 n q.symm) (λq=>h4 n q.symm)⟩
inductive Frz(c:bc)(F:iR)(σ:St)(i:Nat)(lv:LV)(h:Heap)(v:Value):Prop
 | mk (c':bc) (l:Le c c') (R:bQ c' F {σ with loc:=σ.loc.set i (~~~(nV lv))} h) (r:VR c' (nV lv) v)
theorem Cs{lv:LV}{o:Obj}(hR:bQ c F σ h)(hl:σ.loc[i]? =some (some lv))(hv:c.vals i=some v)(ha:c.T a=some (.own i,o))(hq:ji c (c.put a .gN o)->VR (c.put a .gN o) (nV lv) v):Frz c F σ i lv h v:=
 have x:Ch c (c.put a .gN o) (λt=>t=.own i):=Ch.put ha eT
 ⟨_,x.le eT rfl,⟨hR.w.Vn ha eT eT (λZ=>eT) (λZ=>eT) (.inr ⟨rfl,rfl⟩),
  hR.loc.reset x rfl hl λv' NW Z=>by rw [hv] at NW; obtain rfl:=ae (NW); exact hq x.gf,hR.cv.ch x eT⟩,hq x.gf⟩
theorem Cr{lv:LV}(hR:bQ c F σ h)(hl:σ.loc[i]? =some (some lv))(hv:c.vals i=some v)(lr:CZ c i lv v):Frz c F σ i lv h v:=by
 induction lv using Mine.LV.casesOn with
 | v x=>exact ⟨c,Le.refl c,⟨hR.w,hR.loc.reset (Ch.refl c _) rfl hl λv Z h=>h,hR.cv⟩,lr⟩
 | ol l=>induction lr with | mk a vs n ha hs hb=>exact Cs hR hl hv ha λx=>⟨a,vs,n,aF ..,dw.mono x _ _ hs,hb⟩
 | od l=>induction lr with | mk a vs n ha hs hn hb=>exact Cs hR hl hv ha λx=>⟨a,vs,n,aF ..,iV.mono x _ _ hs,hn,hb⟩
inductive Got(F:iR)(c:bc)(h:Heap)(v:Value)(p:V×St):Prop
 | mk (c':bc) (l:Le c c') (R:bQ c' F p.2 h) (r:VR c' p.1 v)
theorem Frz.got{lv:LV}:Frz c F σ i lv h v->Got F c h v (nV lv,{σ with loc:=σ.loc.set i (~~~(nV lv))})
 | ⟨c',l,R,r⟩=>⟨c',l,R,r⟩
theorem H0{lv:LV}{p:V×St}(hR:bQ c F σ h)(hl:σ.loc[i]? =some (some lv))(hg:DS σ i=some p)(hv:c.vals i=some v)(lr:CZ c i lv v):Got F c h v p:=by
 unfold DS at hg;rw [hl] at hg;induction lv using Mine.LV.casesOn with
 | v y=>exact ae hg▸⟨c,Le.refl c,hR,lr⟩
 | ol l=>exact ae hg▸(Cr hR hl hv lr).got
 | od l=>exact ae hg▸(Cr hR hl hv lr).got
theorem Hg{f:LV->Option β}{b:β}(h:((σ.loc[i]?).bind λo=>o.bind f)=some b):∃ lv,σ.loc[i]? =some (some lv)/\f lv=some b:=by induction eY h with | mk o h1 h2=>induction eY h2 with | mk lv h3 h4=>exact ⟨lv,h3▸h1,h4⟩
theorem SE.var(ek:cM F){p:V×St}{pos}(hc:rf F.k x=some i)(hd:fQ x=true)(h:DS σ i=some p):SE F (.Name x pos) σ p.1 p.2:=λA c s Q E hA hR q=>match Hg h with
 | ⟨lv,hl,_⟩=>wpAny_Name (BX ek hR (UK hc) hl λw hw lr=>(H0 hR hl h hw lr).casesOn
  λc' l R r=>q c' s.heap s.toks w l R r) (jm hd)
theorem SE.cv(ek:cM F){v:V}{pos}(hc:iM x F.k.zd=some j)(hd:fQ x=true)(h:(σ.cv[j]?).bind id=some v):SE F (.Name x pos) σ v σ:=λA c s Q E hA hR q=>aJ h λo h1 h2=>(hR.cv.ns (λe=>by rw [e] at hc; exact (mK hc))).casesOn
  λo m t n z=>(z j x v (mw hc) (h1.trans (av some h2))).casesOn
   λw hm lr=>wpAny_Name (wpAny_loadName_local ek.kind (ek.own j x (mw hc)).1 ((ek.own j x (mw hc)).2▸n.ns (hR.w.hold _ _ _ t)) hm (q.qe hR lr)) (jm hd)
theorem vz(hR:bQ c F σ h)(n:eI.Ns a m):h.Ns a m:=n.keeps hR.old
theorem rT{k:gr}(h:fR k x=true):k.y0.lookup x=some .globalImplicit:=by
 unfold fR at h;rw [mq] at h;generalize k.y0.lookup x=o at h ⊢;induction o using nN with
 | none=>exact Bool.noConfusion h
 | some q=>induction q using PySem.NameKind.casesOn <;> first | rfl | exact Bool.noConfusion h
end
def qc(h:Heap)(n:Nat):Heap:=⟨h.objs.extract 0 n,h.life⟩
theorem kK{a:Nat}(ha:a<n):(qc h n).get? a=h.get? a:=by
 have e:(h.objs.extract 0 n)[a]? =h.objs[a]? :=by
  rw [Array.getElem?_extract,bF];split
  ·rfl
  ·rename_i hn;exact (Array.getElem?_eq_none (dZ λq=>hn (by rw [Nat.sub_zero]; exact Nat.lt_min.mpr ⟨ha,q⟩))).symm
 unfold qc Heap.get?;rw [e]
theorem uS:(qc h n).objs.size<=n:=by unfold qc; rw [Array.size_extract,Nat.sub_zero]; exact Nat.min_le_left _ _
theorem qa{a:Nat}(ha:n<=a):(qc h n).get? a=none:=by
 induction e:(qc h n).get? a using nN with
 | none=>rfl
 | some o=>exact absurd (ax (bt e) uS) (Nat.not_lt.mpr ha)
def vB(h:Heap)(L:Addr):List (Addr×Obj):=(List.range h.objs.size).filterMap λa=>bif Nat.blt L a then(h.get? a).map (λo=>(a,o))else none
theorem sO{a b:Nat}(h:Nat.blt a b=true):a<b:=bH h
theorem AY{a b:Nat}(h:a<b):Nat.blt a b=true:=Nat.ble_eq_true_of_le h
theorem lg{o:Obj}:(a,o)∈vB h L<->L<a/\h.get? a=some o:=by
 unfold vB;rw [List.mem_filterMap];constructor
 ·rintro ⟨b,_,e⟩;induction hb:Nat.blt L b using eK with
  | true=>
   rw [hb] at e;induction q:h.get? b using nN with
   | none=>rw [q] at e; exact (mK e)
   | some o'=>rw [q] at e; cases e; exact ⟨sO hb,q⟩
  | false=>rw [hb] at e; exact (mK e)
 ·rintro ⟨hb,e⟩;exact ⟨a,ft.mpr (bt e),by rw [AY hb,e]; rfl⟩
section
variable{σ:St}
theorem bQ.frame {o:Obj} (R:bQ c F σ h) (t:c.T F.L=some (.loc,o)) (z:∀ (i:Nat) (x:Str) (v:Value),F.k.vn[i]? =some (x,false)->c.vals i=some v->m x=some v) (n':Ss o' m) (pW:h'.get? F.L=some o')
  (keep:∀ b u q,b≠F.L->c.T b=some (u,q)->h'.get? b=some q):Le c (c.put F.L .loc o')/\bQ (c.put F.L .loc o') F σ h':=
 have x:Ch c (c.put F.L .loc o') (λu=>u=.loc):=Ch.put t eT
 ⟨x.le eT rfl,⟨⟨R.w.low.vy t eT (.inl rfl),λb u q e=>match cm e with
   | .inl ⟨e1,_,e3⟩=>e1▸e3▸pW
   | .inr ⟨hb,e⟩=>keep b u q hb e,λb q e=>(x.le eT rfl).bO _ _ (R.w.base b q e),R.w.len,λk M e=>(R.w.jx k M e).ch x (R.w.lt e) eT eT⟩,
  ⟨R.loc.len,⟨o',m,aF ..,n',z⟩,λi y hi=>(R.loc.cells i y hi).ch x rfl eT,λi lv hl=>(R.loc.vals i lv hl).ch x rfl eT⟩,R.cv.ch x eT⟩⟩
theorem bQ.tag(R:bQ c F σ h){o:Obj}(t:gG)(hn:c.T a=none)(hs:a≠sysModules\/BK t=true\/o.cls≠ .type "dict")(ho:h.get? a=some o):Le c (c.put a t o)/\bQ (c.put a t o) F σ h:=
 have x:Ch c (c.put a t o) (λZ=>False):=Ch.fresh hn
 ⟨x.le id rfl,⟨⟨R.w.low.put hs (λo e=>by rw [hn] at e; exact (mK e)),λb u q e=>match cm e with
   | .inl ⟨e1,_,e3⟩=>e1▸e3▸ho
   | .inr ⟨_,e⟩=>R.w.hold _ _ _ e,λb q e=>(x.le id rfl).bO _ _ (R.w.base b q e),R.w.len,λn M e=>(R.w.jx n M e).ch x (R.w.lt e) id id⟩,R.loc.ch x rfl id (λZ=>id) (λZ=>id),R.cv.ch x id⟩⟩
inductive Nw(c:bc)(F:iR)(σ:St)(h':Heap)(D:Addr)(o:Obj):Prop
 | mk (c':bc) (l:Le c c') (R:bQ c' F σ h') (t:c'.T D=some (.gN,o))
inductive aeq(c:bc)(F:iR)(σ:St)(h:Heap):Prop
 | mk (g:Heap) (m:Str->Option Value) (news:List (Addr×Obj)) (Fm:Fr g F.L h m) (N:News g F.L h news) (up:∀ p∈news,p.1<h.objs.size)
   (k0:∀ h',Fr g F.L h' m->News g F.L h' news->∃ c',Le c c'/\bQ c' F σ h')
   (k:∀ h' D o,Fr g F.L h' m->News g F.L h' ((D,o)::news)->(∀ p∈news,p.1<D)->(D≠sysModules\/o.cls≠ .type "dict")->Nw c F σ h' D o)
theorem bQ.Fi(R:bQ c F σ h):aeq c F σ h:=by
 injection R.loc.ns with o m t n z;have hL:=R.w.hold _ _ _ t;have go:∀ h' extra,Fr (qc h F.L) F.L h' m->News (qc h F.L) F.L h' (extra++vB h F.L)->∃ o',Le c (c.put F.L .loc o')/\bQ (c.put F.L .loc o') F σ h':=λh' extra F' N'=>match F'.ns with
  | ⟨o',es,ep,pW,JC,QS,QZ⟩=>⟨o',R.frame t z ⟨es,ep,JC,QS,QZ⟩ pW λb u q hb e=>
   have e':=R.w.hold _ _ _ e
   (Nat.lt_or_gt_of_ne hb).elim (λjt=>F'.keep b q ((kK jt).trans e')) λhgt=>(N' (b,q) (List.mem_append_right _ (lg.mpr ⟨hgt,e'⟩))).1⟩
 refine ⟨qc h F.L,m,vB h F.L,⟨n.ns hL,λb q e=> ?_,uS⟩,λp hp=> ?_,λp hp=>bt (lg.mp (show(p.1,p.2)∈_ from hp)).2,λh' F' N'=>(go h' [] F' N').imp' _ λZ x=>x,λh' D o F' N' jt hs=> ?_⟩
 ·rcases Nat.lt_or_ge b F.L with hb | hb
  ·rw [kK hb] at e; exact e
  ·rw [qa hb] at e; exact (mK e)
 ·have⟨h1,h2⟩:=lg.mp (show(p.1,p.2)∈_ from hp);exact ⟨h2,dM h1,qa (bV h1)⟩
 ·refine ag (go h' [(D,o)] F' N') λo' z1=>And.elim (λl R'=> ?_) z1;refine And.elim (λx1 z1=>And.elim (λx2 x3=> ?_) z1) (N' _ (aq ..));have hn:(c.put F.L .loc o').T D=none:=by
   rw [bY _ _ _ x2];induction hq:c.T D using nN with
   | none=>rfl
   | some z=>
    have e':=R.w.hold D z.1 z.2 hq;rcases Nat.lt_or_gt_of_ne x2 with HM | hgt
    ·rw [kK HM,e'] at x3; exact (SW x3)
    ·exact absurd (jt _ (lg.mpr ⟨hgt,e'⟩)) (eM _)
  have T:=R'.tag .gN hn (hs.imp id .inr) x1;exact ⟨_,l.trans T.1,T.2,aF ..⟩
end
section
variable{σ σ':St}
theorem eZ:∀ {l m:List V} {vs ws:List Value},dw c l vs->dw c m ws->dw c (l++m) (vs++ws)
 | [],_,_,_,rfl,h'=>h'
 | x::r,m,_,ws,⟨v,t,a,b⟩,h'=>⟨v,t++ws,a,eZ b h'⟩
theorem aY:∀ {l:List V} {vs:List Value},dw c l vs->l.length=vs.length
 | [],_,rfl=>rfl
 | x::r,_,⟨v,t,a,b⟩=>av (· +1) (aY b)
theorem nA{x:V}{v:Value}(h:VR c x v):∀ n:Nat,dw c (List.replicate n x) (List.replicate n v)
 | 0=>rfl
 | n+1=>⟨v,_,h,nA h n⟩
abbrev jP(F:iR)(c:bc)(σ:St)(s:Shared)(v:V)(Q:Value->Shared->Prop):Prop:=Ko F c s σ (λc w=>VR c v w) Q
theorem dJ(R:bQ c F σ h)(e:c.T a=some (t,dQ vs n)):h.IsList a vs.toArray:=⟨_,R.w.hold _ _ _ e,rfl,n,rfl⟩
theorem oN(R:bQ c F σ h)(e:c.T a=some (t,wW vs n)):IsTup h a vs.toArray:=⟨_,R.w.hold _ _ _ e,rfl,n,rfl⟩
theorem Eo{a b:Int}(ha:0<=a)(hb:0<=b):Builtin.bitAnd a b=((a.toNat&&&b.toNat:Nat):Int):=by unfold Builtin.bitAnd; rw [ak ha,ak hb]
theorem FL{i:Int}(h:small i=true): -(2 ^ 62)<i/\i<2 ^ 62:=⟨cE (aW h).1,cE (aW h).2⟩
theorem MF{i:Int}{k:Nat}(h: -(k:Int)<i)(h':i<(k:Int)):i.natAbs<k:=by omega
theorem nH{i:Int}(h:small i=true): -2 ^ 64<i/\i<2 ^ 64/\i.natAbs<2 ^ 64:=
 have q:=FL h;have a:=Int.lt_trans (show-2 ^ 64<(-(2 ^ 62):Int)by decide) q.1;have b:=Int.lt_trans q.2 (show(2 ^ 62:Int)<2 ^ 64 by decide)
 ⟨a,b,MF (k:=2 ^ 64) a b⟩
theorem rq(h:jR n=true):n<=100000:=cE h
theorem fits{a b:Nat}(h:jR (a+b)=true){a' b':Nat}(e:a=a')(e':b=b')(hn:100000<=n):a'+b'<=n:=e▸e'▸af (rq h) hn
theorem LQ{l m:List α}(h:jR (l.length+m.length)=true):(l++m).length<=100000:=(aQ ..).symm▸rq h
section
variable{o:Operator}{x y v:V}{a b:Value}(hA:iZ F.r A)(hR:bQ c F σ s.heap)(ha:VR c x a)(hb:VR c y b)(q:jP F c σ s v Q)
include hA hR ha hb q
theorem A2(h:YT x y=some v):wpAny aO A (binaryOp .Add a b) Q E s:=by
 induction x using lH with
 | int i=>injection ha with t;injection eo h with j hj;obtain rfl:=fJ hj;induction hb with | mk u=>exact PyProof.Rows.add_int (q.at hR ⟨_⟩)
 | bytes x=>injection ha with t _;refine aJ h λz hj h2=> ?_;obtain rfl:=yN hj;injection eC h2 with hs;injection hb with u _;refine PySem.W.KBy.add_bytes (fits hs aM.symm aM.symm ∅) λt' k=>q c s.heap _ _ (Le.refl c) hR ?_;rw [List.append_toArray]; exact ⟨t',LQ hs⟩
 | tup x=>
  injection ha with YO vs n e1 s1 _;refine aJ h λz hj h2=> ?_;obtain rfl:=sV hj;injection eC h2 with hs;have DP:=hb;injection hb with aeh ws m e2 s2 _;injection hR.Fi with g m' news Fm N up _ kk;have l1:=aY s1; have l2:=aY s2;refine add_tuples Fm N (oN hR e1) (oN hR e2) (λe=> ?_) (λZ e=> ?_) (λZ Z h' F' N'=> ?_) (fits hs l1 l2 ∅)
  ·subst e;obtain rfl:=gB.mp l1;exact q.qe hR DP
  ·subst e;obtain rfl:=gB.mp l2;rw [bS] at q;exact q.qe hR ⟨_,_,_,e1,s1,by assumption⟩
  ·injection kk h' _ _ F' N' up (.inl hR.w.j8)with c' l R' e;exact q c' h' s.toks _ l R' ⟨_,_,_,e,dw.mono l.toji _ _ (eZ s1 s2),LQ hs⟩
 | lst x=>injection ha with YO vs n e1 s1 _;refine aJ h λz hj h2=> ?_;obtain rfl:=kP hj;injection eC h2 with hs;injection hb with aeh ws m e2 s2 _;injection hR.Fi with g m' news Fm N up _ kk;refine add_lists Fm N (dJ hR e1) (dJ hR e2) (λh' F' N'=> ?_) (fits hs (aY s1) (aY s2) ∅);injection kk h' _ _ F' N' up (.inl hR.w.j8)with c' l R' e;exact q c' h' s.toks _ l R' ⟨_,_,_,e,dw.mono l.toji _ _ (eZ s1 s2),LQ hs⟩
 | _=>exact nn h
theorem Aa(h:VY x y=some v):wpAny aO A (binaryOp .Mult a b) Q E s:=by
 induction x using lH with
 | int i=>injection ha with t;refine aJ h λj hj h2=> ?_;obtain rfl:=fJ hj;injection eC h2 with hs;injection hb with u;have sm:=nH (aW hs).1;exact PySem.P.mul_int (q.at hR ⟨_⟩) (IntMulOk.of_left (intBits_le_64 sm.1 sm.2.1))
 | lst x=>
  induction x using lh with
  | nil=>exact nn h
  | cons agy r=>
  induction r using lh with
  | cons _ _=>exact nn h
  | nil=>
  injection ha with YO vs Qj e1 s1 _;refine aJ h λn hj h2=> ?_;obtain rfl:=fJ hj;injection eC h2 with hs;injection hb with u;have h1:=cE (aW hs).1;have h2:=cE (aW hs).2;injection hR.Fi with g m' news Fm N up _ kk;injection s1 with UG agV w1 w2;subst w2;refine PySem.W.KMa.mul Fm N (dJ hR e1) (by lia) (by lia) (by simp; lia) rfl λD h' F' N' hl=> ?_;induction kk h' D _ F' N' hl (.inr (λe=>by injection e with e; exact absurd e ∅))with | mk c' l R' e=>
  have e3:∀ n,(List.replicate n [UG]).flatten=List.replicate n UG:=λn=>by
   induction n with
   | zero=>rfl
   | succ j ih=>rw [List.replicate_succ,List.flatten_cons,ih]; rfl
  rw [e3] at e;exact q c' h' s.toks _ l R' ⟨_,_,_,e,dw.mono l.toji _ _ (nA w1 _),by rw [fM]; lia⟩
 | _=>exact nn h
theorem QJ{f:Int->Int->Bool}{g:Int->Int->Int}(h:ii x y (λi j=>iv (f i j) (.int (g i j)))=some v)(k:∀ i j t u,f i j=true->(∀ {t n:Nat},Q (.int (g i j) t) {s with toks:=n})->wpAny aO A (binaryOp o (.int i t) (.int j u)) Q E s):wpAny aO A (binaryOp o a b) Q E s:=by refine aJ h λi hi h2=> ?_;refine aJ h2 λj hj h3=> ?_;obtain rfl:=fJ hi;obtain rfl:=fJ hj;injection eC h3 with hs;induction ha with | mk t=>induction hb with | mk u=>exact k i j t u hs (q.at hR ⟨_⟩)
omit hA in
theorem AZ(hA:iZ F.r A)(h:d7 o x y=some v):wpAny aO A (binaryOp o a b) Q E s:=by
 induction o with
 | Add=>exact A2 hA hR ha hb q h
 | Mult=>exact Aa hA hR ha hb q h
 | Sub=>exact QJ (f:=λZ Z=>true) hA hR ha hb q h λi j t u hs q=>PyProof.Rows.sub_int q
 | FloorDiv=>exact QJ hA hR ha hb q h λi j t u hs q=>floordiv_int (cE (aW hs).1) q (.inl (PyProof.noPylong_small (cE (aW hs).2)))
 | Mod=>exact QJ hA hR ha hb q h λi j t u hs q=>mod_int (cE hs) q
 | Pow=>exact QJ hA hR ha hb q h λi j t u hs q=>pow_int_small (cE (aW (aW hs).1).1) (cn (cE (aW (aW hs).1).2) ∅) (nH (aW hs).2).2.2 q
 | LShift=>exact QJ hA hR ha hb q h λi j t u hs q=>lshift_int_small (cE (aW (aW hs).1).1) (cn (cE (aW (aW hs).1).2) ∅) (nH (aW hs).2).2.2 q
 | RShift=>exact QJ hA hR ha hb q h λi j t u hs q=>rshift_int (cE (aW hs).1) q
 | BitAnd=>exact QJ hA hR ha hb q h λi j t u hs q=>and_int (Eo (cE (aW hs).1) (cE (aW hs).2)▸q)
 | _=>exact nn h
end
end
theorem jv:∀ {l:List V} {a:List Int},dG l=some a->l=a.map V.int
 | [],_,h=>by obtain rfl:=ae h; rfl
 | x::r,_,h=>by
  injection eY h with i hi h2;injection eo h2 with a ha;exact congr (av List.cons (fJ hi)) (jv ha)
theorem j0:∀ l:List Int,dG (l.map V.int)=some l
 | []=>rfl
 | i::r=>by
  show(dG (r.map V.int)).map (i::·)=_;rw [j0 r]; rfl
inductive Sx:V->Nat->Prop
 | int (i:Int):Sx (.int i) 1
 | tup (l:List Int):Sx (.tup (l.map V.int)) (2+l.length)
theorem Qx(l:List Int):kk (.tup (l.map V.int))=2+l.length:=by show(bif(dG (l.map V.int)).isSome then 2+(l.map V.int).length else 0)=_;rw [j0,ao]; rfl
theorem B3(h:kk k≠0):Sx k (kk k):=by
 induction k using lH with
 | int i=>exact .int i
 | tup l=>
  induction e:dG l using nN with
  | none=>
   have:kk (.tup l)=0:=by show(bif(dG l).isSome then 2+l.length else 0)=_;rw [e]; rfl
   exact absurd this h
  | some a=>rw [jv e,Qx]; exact .tup a
 | _=>exact absurd rfl h
theorem Jh{l:List Int}(h:dw c (l.map V.int) vs)(prog:Program)(w:World):ItemsAre (intKind prog w) l vs:=by
 induction l generalizing vs with
 | nil=>subst h; exact .nil
 | cons i l ih=>induction h with | mk v t a b=>induction a; exact .cons (by simp [intKind,Value.isInt]) (ih b)
theorem qf(hold:∀ a t o,c.T a=some (t,o)->h.get? a=some o){l:List Int}(hv:VR c (.tup (l.map V.int)) v):∃ a,v=.ref a/\∀ prog w,IsTupleKey (intKind prog w) h l a:=by obtain ⟨a,vs,n,e,s,_⟩:=hv;exact ⟨a,rfl,λprog w=>⟨_,_,_,hold _ _ _ e,rfl,rfl,Jh s prog w⟩⟩
theorem p4(l:List Int)(prog:Program)(w:World):mB (.tup (l.map V.int))=tupleKeyHash (intKind prog w) l:=by show(dG (l.map V.int)).elim 0 _=_;rw [j0]; rfl
theorem pR(l m:List Int):dK (.tup (l.map V.int)) (.tup (m.map V.int))=decide (l=m):=by show(dG (l.map V.int)).any (λx=>(dG (m.map V.int)).any λy=>decide (x=y))=_;rw [j0,j0]; rfl
theorem vu {key:Value} {Q:Int->Shared->Prop} (hold:∀ a t o,c.T a=some (t,o)->s.heap.get? a=some o) (hu:A.units<cLine) (hk:kk k≠0) (hv:VR c k key)
  (q:∀ tk,Q (mB k) {s with toks:=tk}):wpAny aO A (pyHash key) Q E s:=by
 have kc:=B3 hk;generalize kk k=m at kc;induction kc with
 | int i=>obtain ⟨t⟩:=hv; exact wpAny_pyHash_int (q _)
 | tup l=>obtain ⟨a,rfl,ik⟩:=qf hold hv;exact wpAny_pyHash_tuple hu (ik pw gD) (by rw [<-p4]; exact q _)
theorem fE:∀ {l:List (V×V)} {es:List DictEntry},iV c l es->l.length=es.length
 | [],_,rfl=>rfl
 | (_,_)::r,_,⟨_,_,_,_,_,b⟩=>av (· +1) (fE b)
inductive Zs(c:bc)(e:V×V)(o:Option DictEntry):Prop
 | mk (d:DictEntry) (h:o=some d) (k:VR c e.1 d.key) (v:VR c e.2 d.val)
theorem CW{e:V×V}(h:iV c l es)(hj:l[j]? =some e):Zs c e es[j]? :=by
 induction l generalizing es j with
 | nil=>exact nn hj
 | cons x r ih=>
  injection h with d t a b hh f;induction j using oF with
  | zero=>obtain rfl:=ae hj; exact ⟨d,rfl,a,b⟩
  | succ j=>exact ih (es:=t) (j:=j) f hj
def lA(k:V)(l:List (V×V)):Option Nat:=l.findIdx? λe=>dK e.1 k
theorem kk1(h:kk k=1):∃ i,k=.int i:=by
 have:=B3 (k:=k) (by lia);rw [h] at this;generalize hq:(1:Nat)=q at this;induction this with
 | int i=>exact ⟨i,rfl⟩
 | tup l=>lia
theorem kk2(h:kk k=2+n):∃ l:List Int,k=.tup (l.map V.int):=by
 have:=B3 (k:=k) (by lia);rw [h] at this;generalize hq:2+n=q at this;induction this with
 | int i=>lia
 | tup l=>exact ⟨l,rfl⟩
theorem yS{w:World}(v:iV c l es)(hk:(l.all λe=>kk e.1==1)=true):(∀ e∈es,∃ k,(intKind prog w).is k e.key=true/\e.hash=(intKind prog w).hash k)/\
  ∀ i:Int,(es.findIdx? λe=>(intKind prog w).is i e.key)=lA (.int i) l:=by
 induction l generalizing es with
 | nil=>subst v; exact ⟨λZ hh=>(eX hh),λZ=>rfl⟩
 | cons e r ih=>
  injection v with d t a b hh f;have hk:=aW hk;refine ag (kk1 (aD.mp hk.1)) λi he=> ?_;rw [he] at a hh;have hu:∃ u,d.key=.int i u:=by generalize d.key=z at a; induction a; exact ⟨_,rfl⟩
  refine ag hu λu hu=>And.elim (λih1 WH=> ?_) (ih f hk.2);have e1:∀ j,(intKind prog w).is j d.key=(i==j):=λj=>by rw [hu]; rfl
  refine ⟨ah.mpr ⟨⟨i,(e1 i).trans (aG i),hh⟩,ih1⟩,λj=> ?_⟩;show _=List.findIdx? (λe=>dK e.1 (.int j)) (e::r);rw [dq,dq,e1,WH j,he]; rfl
theorem yR{w:World}(hold:∀ a t o,c.T a=some (t,o)->h.get? a=some o)(v:iV c l es)(hk:(l.all λe=>kk e.1==2+n)=true):
  ∃ xs:List (List Int×Addr×Value),es=xs.map (entryOfKey (tupleKind (intKind prog w)))/\(∀ x∈xs,IsTupleKey (intKind prog w) h x.1 x.2.1)/\l.map (·.1)=xs.map λx=>V.tup (x.1.map V.int):=by
 induction l generalizing es with
 | nil=>subst v; exact ⟨[],rfl,λZ hh=>(eX hh),rfl⟩
 | cons e r ih=>
  injection v with d t a b hh f;have hk:=aW hk;refine ag (kk2 (aD.mp hk.1)) λks he=> ?_;rw [he] at a hh;refine ag (qf hold a) λu z=>And.elim (λhu ik=> ?_) z;refine ag (ih f hk.2) λxs z=>And.elim (λh1 z=>And.elim (λh2 h3=> ?_) z) z;refine ⟨(ks,u,d.val)::xs,?_,ah.mpr ⟨ik prog w,h2⟩,?_⟩
  ·rw [bu,<-h1];refine av (λx=>x::t) ?_;unfold entryOfKey;show(⟨d.hash,d.key,d.val⟩:DictEntry)=_;rw [hu,hh,p4 ks prog w]; rfl
  ·rw [bu,bu,h3,he]
theorem DH(hn:pS l)(e:l.map (·.1)=xs.map λx=>V.tup (x.1.map V.int)):(xs.map (·.1)).Nodup:=by have h1:(l.map (·.1)).Pairwise λa b=>dK a b=false:=br.mpr hn;rw [e,br] at h1;refine br.mpr (h1.imp λ{a b} uE hq=> ?_);rw [pR,hq] at uE;simp at uE
theorem Iz(e:l.map (·.1)=xs.map λx=>V.tup (x.1.map V.int))(ks:List Int):
  lA (.tup (ks.map V.int)) l=xs.findIdx? λx=>decide (x.1=ks):=by
 induction xs generalizing l with
 | nil=>induction l using lh with
  | nil=>rfl
  | cons _ _=>simp at e
 | cons x t ih=>induction l using lh with
  | nil=>simp at e
  | cons y r=>rw [bu,bu] at e;injection e with e1 e2;show List.findIdx? (λe=>dK e.1 _) (y::r)=_;rw [dq,dq,e1,pR];have:=ih e2;unfold lA at this;rw [this]
theorem p8 {key:Value} {Q:Option Nat->Shared->Prop} (hold:∀ a t o,c.T a=some (t,o)->s.heap.get? a=some o) (hu:A.units<cLine)
  (ho:s.heap.get? d=some (b9 es n)) (hd:iV c l es) (hn:pS l) (hk:ju k l=true) (hv:VR c k key)
  (q:Q (lA k l) s):wpAny aO A (dictFind d key (mB k)) Q E s:=by
 unfold ju at hk;rw [fZ,bne_iff_ne] at hk;obtain ⟨QR,hU⟩:=hk;generalize HP:kk k=m at hU;have kc:=B3 QR;rw [HP] at kc;induction kc with
 | int i=>
  obtain ⟨t⟩:=hv;obtain ⟨h1,h2⟩:=yS (prog:=pw) (w:=gD) hd hU;refine wpAny_dictFind_of (knd:=intKind pw gD) (k:=i) (by simp [intKind,Value.isInt]) ho rfl (λe he=>h1 e (by simpa using he)) ?_;have:(es.toArray.findIdx? λe=>(intKind pw gD).is i e.key)=lA (.int i) l:=by rw [<-h2 i]; simp
  rw [this]; exact q
 | tup ks=>
  obtain ⟨a,rfl,ik⟩:=qf hold hv;obtain ⟨xs,h1,h2,h3⟩:=yR (prog:=pw) (w:=gD) hold hd hU;have tn:=DH hn h3;rw [Iz h3] at q;rw [p4 ks pw gD];refine wpAny_dictFind_heap (knd:=tupleKind (intKind pw gD)) (xs:=xs) hu (ik pw gD) ho rfl h1 h2 tn (λtM=> ?_) (λj p hj=> ?_)
  ·have:(xs.findIdx? λx=>decide (x.1=ks))=none:=by
    rw [List.findIdx?_eq_none_iff];intro x hx;induction hd:decide (x.1=ks)using eK with
    | false=>rfl
    | true=>obtain ⟨j,hj⟩:=List.mem_iff_getElem?.mp hx;exact absurd hj (by have:=tM j x.2; rwa [<-fc hd] at this)
   rw [this] at q; exact q
  ·have:(xs.findIdx? λx=>decide (x.1=ks))=some j:=by
    rw [List.findIdx?_eq_some_iff_getElem];obtain ⟨jt,he⟩:=eD.mp hj;refine ⟨jt,by rw [he]; simp,λi pA=> ?_⟩;simp only [decide_eq_true_eq];intro hq;have h5:xs[i]? =some (ks,(xs[i]'(by lia)).2):=by rw [aP (by lia),<-hq]
    exact absurd (idxH_unique tn h5 hj) (by lia)
   rw [this] at q; exact q
theorem uQ(k:V)(l:List (V×V)):ey k l=(lA k l).bind λj=>(l[j]?).map (·.2):=by
 induction l with
 | nil=>rfl
 | cons e r ih=>
  rw [Mg]; unfold lA;rw [dq];induction dK e.1 k using eK with
  | true=>rfl
  | false=>
   rw [cb ∅,ih];unfold lA;induction List.findIdx? (λe=>dK e.1 k) r using nN with
   | none=>rfl
   | some j=>rfl
theorem uP(v:V)(h:lA k l=none):gq k v l=l++ [(k,v)]:=by
 induction l with
 | nil=>rfl
 | cons e r ih=>
  unfold lA at h;rw [dq] at h;rw [sD];induction hk:dK e.1 k using eK with
  | true=>rw [hk] at h; exact (SW h)
  | false=>rw [hk] at h;simp only [Bool.false_eq_true,if_false,Option.map_eq_none_iff] at h ⊢;rw [ih h]; rfl
theorem uO(v:V)(h:lA k l=some j):gq k v l=l.modify j λe=>(e.1,v):=by
 induction l generalizing j with
 | nil=>exact (mK h)
 | cons e r ih=>
  unfold lA at h;rw [dq] at h;rw [sD];induction hk:dK e.1 k using eK with
  | true=>rw [hk] at h; obtain rfl:=ae h; rfl
  | false=>rw [hk] at h;simp only [Bool.false_eq_true,if_false,bN] at h ⊢;obtain ⟨i,hi,rfl⟩:=h;rw [ih hi]; rfl
theorem uR(h:lA k l=some j):kI k l=l.eraseIdx j:=by
 induction l generalizing j with
 | nil=>exact (mK h)
 | cons e r ih=>
  unfold lA at h;rw [dq] at h;rw [RP];induction hk:dK e.1 k using eK with
  | true=>rw [hk] at h; obtain rfl:=ae h; rfl
  | false=>rw [hk] at h;simp only [Bool.false_eq_true,if_false,bN] at h ⊢;obtain ⟨i,hi,rfl⟩:=h;rw [ih hi]; rfl
theorem CJ(h:lA k l=some j):j<l.length:=(List.findIdx?_eq_some_iff_getElem.mp h).1
theorem Jl{v:V}{e:DictEntry}(h:iV c l es)(a:VR c k e.key)(b:VR c v e.val)(hh:e.hash=mB k):iV c (l++ [(k,v)]) (es++ [e]):=by
 induction l generalizing es with
 | nil=>subst h; exact ⟨e,[],a,b,hh,rfl⟩
 | cons x r ih=>induction h with | mk d t p q z f=>exact ⟨d,_,p,q,z,ih f⟩
theorem A6{v:V}{x:Value}(h:iV c l es)(a:VR c v x):iV c (l.modify j λe=>(e.1,v)) (es.modify j λe=>{e with val:=x}):=by
 induction l generalizing es j with
 | nil=>subst h; induction j using oF <;> rfl
 | cons e r ih=>
  injection h with d t p q z f;induction j using oF with
  | zero=>exact ⟨_,_,p,a,z,f⟩
  | succ j=>exact ⟨d,_,p,q,z,ih f⟩
theorem EA(h:iV c l es):iV c (l.eraseIdx j) (es.eraseIdx j):=by
 induction l generalizing es j with
 | nil=>subst h; rfl
 | cons x r ih=>
  injection h with d t p q z f;induction j using oF with
  | zero=>exact f
  | succ j=>exact ⟨d,_,p,q,z,ih f⟩
theorem Ak{v:V}(h:pS l):pS (l.modify j λe=>(e.1,v)):=by
 unfold pS at h ⊢;rw [<-br (f:=λe:V×V=>e.1) (R:=λa b=>dK a b=false)] at h ⊢;have:(l.modify j λe=>(e.1,v)).map (·.1)=l.map (·.1):=by
  induction l generalizing j with
  | nil=>induction j using oF <;> rfl
  | cons x r ih=>induction j using oF with
   | zero=>rfl
   | succ j=>rw [List.modify_succ_cons,bu,bu,ih (fU.mp h).2]
 rw [this]; exact h
theorem Hs{v:V}(h:pS l)(hi:lA k l=none):pS (l++ [(k,v)]):=by unfold pS at h ⊢;rw [List.pairwise_append];refine ⟨h,List.pairwise_singleton _ _,λa ha b hb=> ?_⟩;rw [ay] at hb; subst hb;exact List.findIdx?_eq_none_iff.mp hi a ha
theorem DI(h:pS l):pS (l.eraseIdx j):=h.sublist (List.eraseIdx_sublist _ _)
theorem wg(h:ju k l=true):kk k≠0:=by unfold ju at h; rw [fZ,bne_iff_ne] at h; exact h.1
theorem sA {key:Value} {Q:Option Value->Shared->Prop} (hold:∀ a t o,c.T a=some (t,o)->s.heap.get? a=some o) (hu:A.units<cLine)
  (ho:s.heap.get? d=some (b9 es n)) (hd:iV c l es) (hn:pS l) (hk:ju k l=true) (hv:VR c k key)
  (q0:∀ tk,ey k l=none->Q none {s with toks:=tk}) (q1:∀ tk v x,ey k l=some v->VR c v x->Q (some x) {s with toks:=tk}):wpAny aO A (dictGet d key) Q E s:=by
 unfold dictGet
 try with_reducible refine bq ?_
 refine aa (vu hold hu (wg hk) hv λtk=>aa (p8 (s:={s with toks:=tk}) hold hu ho hd hn hk hv ?_));rw [uQ] at q0 q1;induction hi:lA k l using nN with
 | none=>rw [hi] at q0; exact aj (q0 tk rfl)
 | some j=>rw [hi] at q1;have hl:l[j]? =some (l[j]'(CJ hi)):=aP _;obtain ⟨e,he,a,b⟩:=CW hd hl;refine aa (cB (s:={s with toks:=tk}) ho rfl ?_);rw [cq,he];exact aj (q1 tk _ _ (by rw [Option.bind_some,hl]; rfl) b)
theorem yA(es:List DictEntry)(n:Nat)(f:Array DictEntry->Array DictEntry):(b9 es n).mapDict f=b9 (f es.toArray).toList n:=by simp [Obj.mapDict,b9]
theorem jK(es:List DictEntry)(n:Nat)(f:Array DictEntry->Array DictEntry):(b9 es n).mapDictKeys f=b9 (f es.toArray).toList (n+1):=by simp [Obj.mapDictKeys,b9]
def qg(c:bc)(d:Addr)(l:List (V×V))(h h':Heap):Prop:=∃ es n,h'.get? d=some (b9 es n)/\iV c l es/\pS l/\Heap.SameBut d h h'
theorem AO{o:Obj}{f:Obj->Obj}(ho:h.get? d=some o)(e:f o=b9 es n)(hd:iV c l es)(hn:pS l):qg c d l h (h.update d f):=
 ⟨es,n,by rw [cZ f ho (by rw [e]; rfl),e],hd,hn,dz ..⟩
theorem sy {v:V} {key x:Value} {Q:Unit->Shared->Prop} (hold:∀ a t o,c.T a=some (t,o)->s.heap.get? a=some o) (hu:A.units<cLine)
  (ho:s.heap.get? d=some (b9 es n)) (hd:iV c l es) (hn:pS l) (hk:ju k l=true) (hs:gS l=true) (hv:VR c k key) (hx:VR c v x)
  (q:∀ h',qg c d (gq k v l) s.heap h'->Q () {s with heap:=h'}):wpAny aO A (dictSetHashed d key (mB k) x) Q E s:=by
 unfold dictSetHashed
 try with_reducible refine bq ?_
 refine aa (p8 hold hu ho hd hn hk hv ?_);induction hi:lA k l using nN with
 | none=>
  have hz:es.toArray.size<=sizeLine:=by have h1:=fE hd;have h2:=fc hs;rw [aM,<-h1]; unfold sizeLine; lia
  refine aa (wpAny_rule (wpAny_updateDictKeys (hz:=hz) ho rfl (q _ (AO ho (jK ..) ?_ ?_))))
  ·rw [uP v hi];have:=Jl (e:=⟨mB k,key,x⟩) hd hv hx rfl;simpa using this
  ·rw [uP v hi]; exact Hs hn hi
 | some j=>
  refine aa (wpAny_rule (aa (wpAny_updateDict ho rfl (wpAny_point (q _ (AO ho (yA ..) ?_ ?_))))))
  ·rw [uO v hi];have:=A6 (j:=j) hd hx;simpa using this
  ·rw [uO v hi]; exact Ak hn
theorem yu {v:V} {key x:Value} {Q:Unit->Shared->Prop} (hold:∀ a t o,c.T a=some (t,o)->s.heap.get? a=some o) (hu:A.units<cLine)
  (ho:s.heap.get? d=some (b9 es n)) (hd:iV c l es) (hn:pS l) (hk:ju k l=true) (hs:gS l=true) (hv:VR c k key) (hx:VR c v x)
  (q:∀ h' tk,qg c d (gq k v l) s.heap h'->Q () {s with heap:=h',toks:=tk}):wpAny aO A (dictSet d key x) Q E s:=by
 unfold dictSet
 try with_reducible refine bq ?_
 refine aa (vu hold hu (wg hk) hv λtk=>sy (s:={s with toks:=tk}) hold hu ho hd hn hk hs hv hx λh' hh=>q h' tk hh)
theorem Fv {v:V} {key:Value} {Q:Option DictEntry->Shared->Prop} (hold:∀ a t o,c.T a=some (t,o)->s.heap.get? a=some o) (hu:A.units<cLine)
  (ho:s.heap.get? d=some (b9 es n)) (hd:iV c l es) (hn:pS l) (hk:ju k l=true) (hs:gS l=true) (hv:VR c k key) (hl:ey k l=some v)
  (q:∀ h' tk e,VR c v e.val->qg c d (kI k l) s.heap h'->Q (some e) {s with heap:=h',toks:=tk}):wpAny aO A (Builtin.Dict.takeOut d key) Q E s:=by
 unfold Builtin.Dict.takeOut
 try with_reducible refine bq ?_
 refine aa (vu hold hu (wg hk) hv λtk=>aa (p8 (s:={s with toks:=tk}) hold hu ho hd hn hk hv ?_));rw [uQ] at hl;induction hi:lA k l using nN with
 | none=>rw [hi] at hl; exact (mK hl)
 | some j=>
  rw [hi] at hl;have jt:=CJ hi;have hlj:l[j]? =some (l[j]'jt):=aP _;obtain ⟨e,he,a,b⟩:=CW hd hlj;rw [Option.bind_some,hlj,Option.map_some] at hl;obtain rfl:=ae hl;have h1:=fE hd;have hz:es.toArray.size<=sizeLine:=by have h2:=fc hs;rw [aM,<-h1]; unfold sizeLine; lia
  refine aa (cB (s:={s with toks:=tk}) ho rfl ?_);rw [cq,he];refine aa (wpAny_updateDictKeys (hz:=hz) (s:={s with toks:=tk}) ho rfl (aj (q _ tk e b (AO ho (jK ..) ?_ ?_))))
  ·rw [uR hi];have:=EA (j:=j) hd;have e1:(es.toArray.eraseIdxIfInBounds j).toList=es.eraseIdx j:=by simp [List.eraseIdxIfInBounds_toArray]
   rw [e1]; exact this
  ·rw [uR hi]; exact DI hn
section
open PySem.SeqAt
theorem CE{cl cl':Value}{k:Nat}{u:gG}(e:some (t,({cls:=cl,data:=.seq vs.toArray k}:Obj))=some (u,{cls:=cl',data:=.seq ws.toArray j})):vs=ws:=by injection e with e; injection e with _ e; injection e with _ _ e; injection e with e _; exact av Array.toList e
section
inductive OX(R R':List Value->Prop):Prop
 | mk (vs:List Value) (r:R vs) (r':R' vs)
theorem Bq{m:Nat}{R R':List Value->Prop}:wB c .gN wW n R v->wB c .gN wW m R' v->OX R R'
 | ⟨a,vs,k,t,S,_⟩,h=>by cases h with | mk _ ws _ t' S' _=>exact ⟨vs,S,CE (t.symm.trans t')▸S'⟩
theorem K5{m:Nat}{R R':List Value->Prop}:wB c .gN dQ n R v->wB c .gN dQ m R' v->OX R R'
 | ⟨a,vs,k,t,S,_⟩,h=>by cases h with | mk _ ws _ t' S' _=>exact ⟨vs,S,CE (t.symm.trans t')▸S'⟩
theorem u9.cut{A:Value->Prop}{B:List Value->Prop}{t:List Value}{p:Prop}(h:u9 A B (v::t))(k:A v->B t->p):p:=by cases h with | mk _ _ a b=>exact k a b
theorem tY{f:V->V->Option Bool}(ih:∀ {x y v b},VR c x v->VR c y v->f x y=some b->b=true){l m:List V}(p1:dw c l vs)(p2:dw c m vs)(h:vf f l m=some b):b=true:=by
 induction l generalizing m vs b with
 | nil=>induction m using lh with
  | nil=>exact (ae h).symm
  | cons=>exact nn h
 | cons x l WH=>induction m using lh with
  | nil=>exact nn h
  | cons=>injection p1 with v t h1 r1;refine u9.cut p2 λh2 r2=>aJ h λp e h4=> ?_;injection eo h4 with q e';obtain rfl:=ih h1 h2 e;exact WH r1 r2 e'
theorem CR{l m:List α}(h:l.length=m.length):(l.length==m.length)=true:=aD.mpr h
theorem mN:∀ (n:Nat) {x y:V} {v:Value} {b:Bool},VR c x v->VR c y v->vg n x y=some b->b=true
 | 0,_,_,_,_,_,_,h=>nn h
 | n+1,x,y,v,b,hx,hy,h=>by
  induction x using lH with
  | none=>induction y using lH with
   | none=>exact (ae h).symm
   | _=>exact nn h
  | bool a=>injection eo h with a' e;obtain rfl:=lN e;subst hx; cases hy; exact aG a
  | int a=>injection eo h with a' e;obtain rfl:=fJ e;induction hx; cases hy; exact aG a
  | bytes a=>injection eo h with a' e;obtain rfl:=yN e;induction hx; cases hy; exact aG a
  | tup l=>refine aJ h λm e h2=> ?_;obtain rfl:=sV e;injection Bq hx hy with vs r r';rw [CR ((aY r).trans (aY r').symm)] at h2;exact tY (mN n) r r' h2
  | lst l=>refine aJ h λm e h2=> ?_;obtain rfl:=kP e;injection K5 hx hy with vs r r';rw [CR ((aY r).trans (aY r').symm)] at h2;exact tY (mN n) r r' h2
  | _=>exact nn h
def isF:Value->Bool
 | .float _ _=>true
 | _=>false
structure VK(x:V)(v:Value):Prop where
 nf:isF v=false
 non:(v==Value.none)=m4 x
 han:handedIn v=true
theorem MM{x:V}(h:VR c x v):VK x v:=by induction x using lH <;> first | (subst h; exact ⟨rfl,rfl,rfl⟩) | (induction h; exact ⟨rfl,rfl,rfl⟩)
def eqT(v w:Value):Sem Bool:=holding [v,w] do
 if v==w then rule "eq-bool.same-object"; return true
 truthOfDropped (<-richCompare .Eq v w)
theorem RF(h:isF v=false):eqBool v w=eqT v w:=by
 induction v using PySem.Value.casesOn with
 | float=>exact (Bool.noConfusion h)
 | _=>rfl
theorem EqAt.of_rc{x:V}(hx:VR c x v)(r:RcAt A s v w b)(h:v=w->b=true):EqAt A s v w b:=λprog w' E Q q=>by
 rw [RF ((MM hx).nf)];unfold eqT;refine bq ?_;refine wpAny_ite_split (λe=> ?_) (λZ=>aa (r prog w' E _ (cA q)));exact aa (wpAny_rule (aj (h (eq_of_beq e)▸q)))
inductive Rc3(A:Around)(s:Shared)(v w:Value)(b:Bool):Prop
 | mk (r:RcAt A s v w b) (n:RcNeAt A s v w (!b))
inductive WAt(A:Around)(s:Shared)(vs ws:List Value)(b:Bool):Prop
 | mk (e:Nat->Bool) (h:(List.range vs.length).all e=b) (l:vs.length=ws.length) (k:∀ j (h1:j<vs.toArray.size) (h2:j<ws.toArray.size),EqAt A s vs.toArray[j] ws.toArray[j] (e j))
theorem WAt.cons{p q:Bool}(h:EqAt A s v w p):WAt A s vs ws q->WAt A s (v::vs) (w::ws) (p&&q)
 | ⟨e,h1,h2,h3⟩=>⟨λj=>Nat.casesOn j p e,by rw [bZ,List.range_succ_eq_map,List.all_cons,f9,<-h1]; rfl,av (· +1) h2,λj=>match j with
  | 0=>λZ Z=>h
  | j+1=>λa b=>h3 j (fq a) (fq b)⟩
theorem Bn{f:V->V->Option Bool}(ih:∀ {x y v w b},VR c x v->VR c y w->f x y=some b->EqAt A s v w b){l m:List V}(p1:dw c l vs)(p2:dw c m ws)(h:vf f l m=some b):WAt A s vs ws b:=by
 induction l generalizing m vs ws b with
 | nil=>induction m using lh with
  | nil=>subst p1 p2; exact ⟨λZ=>true,ae h,rfl,λj a=>absurd a (fy j)⟩
  | cons=>exact nn h
 | cons x l WH=>induction m using lh with
  | nil=>exact nn h
  | cons=>injection p1 with _ _ h1 r1;injection p2 with _ _ h2 r2;refine aJ h λp e h4=> ?_;injection eo h4 with q e';exact (WH r1 r2 e').cons (ih h1 h2 e)
theorem qK(hold:∀ a t o,c.T a=some (t,o)->s.heap.get? a=some o):∀ (n:Nat) {A:Around} {x y:V} {v w:Value} {b:Bool},A.units+n<cLine->VR c x v->VR c y w->vg n x y=some b->Rc3 A s v w b
 | 0,_,_,_,_,_,_,_,_,_,h=>nn h
 | n+1,A,x,y,v,w,b,hu,hx,hy,h=>by
  have u:A.units<cLine:=az (aB ..) hu;have ih:∀ {x y v w b},VR c x v->VR c y w->vg n x y=some b->EqAt A.in1 s v w b:=λh1 h2 h3=>
   (qK hold n (A:=A.in1) (by show A.units+1+n<cLine; rw [bP,dy 1]; exact hu) h1 h2 h3).casesOn
   λr Z=>EqAt.of_rc h1 r λe=>mN n h1 (e▸h2) h3
  induction x using lH with
  | none=>induction y using lH with
   | none=>obtain rfl:=ae h; subst hx; subst hy; exact ⟨RcAt.none_none,RcNeAt.none_none⟩
   | _=>exact nn h
  | bool a=>injection eo h with a' e;obtain rfl:=lN e;subst hx; subst hy; exact ⟨RcAt.bool_bool _ _,RcNeAt.bool_bool _ _⟩
  | int a=>injection eo h with a' e;obtain rfl:=fJ e;induction hx; induction hy; exact ⟨RcAt.int_int _ _ _ _,RcNeAt.int_int _ _ _ _⟩
  | bytes a=>injection eo h with a' e;obtain rfl:=yN e;induction hx; induction hy; exact ⟨λprog w E Q h=>eq_bytes h,λprog w E Q h=>ne_bytes h⟩
  | tup l=>
   refine aJ h λm e h2=> ?_;obtain rfl:=sV e;induction hl:l.length==m.length using eK with
   | false=>rw [hl] at h2; exact nn h2
   | true=>
   rw [hl] at h2;injection hx with a vs k t S _;injection hy with a' zi k' t' S' _;injection Bn ih S S' h2 with e h1 h2 h3;have eq1:((List.range (min vs.toArray.size zi.toArray.size)).all e&&vs.toArray.size==zi.toArray.size)=b:=by rw [aM,aM,<-h2,Nat.min_self,h1,aG,Bool.and_true]
   have i1:IsTup s.heap a vs.toArray:=⟨_,hold _ _ _ t,rfl,_,rfl⟩
   have i2:IsTup s.heap a' zi.toArray:=⟨_,hold _ _ _ t',rfl,_,rfl⟩
   exact ⟨eq1▸RcAt.tuples i1 i2 u h3,eq1▸RcNeAt.tuples i1 i2 u h3⟩
  | lst l=>
   refine aJ h λm e h2=> ?_;obtain rfl:=kP e;injection hx with a vs k t S _;injection hy with a' zi k' t' S' _;have i1:s.heap.IsList a vs.toArray:=⟨_,hold _ _ _ t,rfl,_,rfl⟩
   have i2:s.heap.IsList a' zi.toArray:=⟨_,hold _ _ _ t',rfl,_,rfl⟩
   induction hl:l.length==m.length using eK with
   | false=>
    rw [hl] at h2; obtain rfl:=ae h2;have hz:(vs.toArray.size != zi.toArray.size)=true:=by show(!(vs.length==zi.length))=true;rw [<-aY S,<-aY S',hl]; rfl
    exact ⟨RcAt.lists_lengths i1 i2 hz u,RcNeAt.lists_lengths i1 i2 hz u⟩
   | true=>
   rw [hl] at h2;injection Bn ih S S' h2 with e h1 h2 h3;exact ⟨h1▸RcAt.lists i1 i2 h2 u h3,h1▸RcNeAt.lists i1 i2 h2 u h3⟩
  | _=>exact nn h
inductive PlC(n:Nat):V->Prop
 | int (i:Int):PlC n (.int i)
 | tup (l:List V) (h:l.all (GD n)=true):PlC n (.tup l)
theorem plC{y:V}(h:GD (n+1) y=true):PlC n y:=by
 induction y using lH with
 | int i=>exact .int i
 | tup l=>exact .tup l h
 | _=>exact (Bool.noConfusion h)
theorem Vy{y y':V}(h:GD n y=true)(h':GD n y'=true)(r:VR c y v)(r':VR c y' v):y=y':=by
 induction n generalizing y y' v with
 | zero=>exact Bool.noConfusion h
 | succ n ihn=>
  have go:∀ {l l':List V} {vs:List Value},l.all (GD n)=true->l'.all (GD n)=true->dw c l vs->dw c l' vs->l=l':=λ{l}=>by
   induction l with
   | nil=>intro l' vs _ _ r r'; subst r; induction l' using lh with | nil=>rfl | cons _ _=>cases r'
   | cons x l ih=>
    intro l' vs h h' r r';injection r with v t a b;induction l' using lh with
    | nil=>exact (ZA r')
    | cons x' l'=>exact u9.cut r' λa' b'=>congr (av List.cons (ihn (aW h).1 (aW h').1 a a')) (ih (aW h).2 (aW h').2 b b')
  induction plC h with
  | int i=>induction plC h' with
   | int j=>induction r; cases r'; rfl
   | tup m _=>induction r; cases r'
  | tup l hl=>induction plC h' with
   | int j=>induction r; cases r'
   | tup m hm=>induction Bq r r' with | mk vs s s'=>exact av V.tup (go hl hm s s')
inductive aeK(A:Around)(s:Shared)(v:Value)(e:Value->Bool)(vs:List Value)(b:Bool):Prop
 | mk (any:vs.any e=b) (eq:∀ y∈vs,EqAt A s y v (e y))
def OO(c:bc)(x:V)(y:Value):Prop:=∃ Y,GD 3 Y=true/\VR c Y y/\zj Y x=some true
open Classical in
theorem QG(hold:∀ a t o,c.T a=some (t,o)->s.heap.get? a=some o){x:V}(hx:VR c x v)(hu:A.units+6<cLine){l:List V}(V:dw c l vs)(h:Lx x l=some b):aeK A s v (λy=>decide (OO c x y)) vs b:=by
 induction l generalizing vs b with
 | nil=>subst V; exact ⟨ae h,λy hy=>(eX hy)⟩
 | cons y l ih=>
  injection V with w t a r;rw [WD] at h;induction hp:GD 3 y using eK with
  | false=>rw [hp] at h; exact nn h
  | true=>
  rw [hp] at h;refine aJ h λp e h4=> ?_;injection eo h4 with q e';injection ih r e' with h1 h2;have hw:decide (OO c x w)=p:=by
   induction p using eK with
   | true=>exact ak ⟨y,hp,a,e⟩
   | false=>exact aT λz=>z.elim λY z=>by rw [Vy z.1 hp z.2.1 a,e] at z; exact Bool.noConfusion (ae z.2.2)
  injection qK hold 6 hu a hx e with rc _;exact ⟨by rw [List.any_cons,h1,hw],ah.mpr ⟨hw.symm▸EqAt.of_rc a rc λq=>mN 6 a (q▸hx) e,h2⟩⟩
inductive qA(c:bc)(h:Heap)(d:Addr)(l:List (V×V)):Prop
 | mk (es:List DictEntry) (n:Nat) (sys:(d==sysModules)=false) (g:h.get? d=some (b9 es n)) (r:iV c l es) (nd:pS l)
theorem qA.typeIs:qA c s.heap d l->s.TypeIs (.ref d) "dict"
 | ⟨_,_,_,h,_,_⟩=>⟨_,h,rfl⟩
theorem jT(R:dp c W h)(e:c.T a=some (t,b9 es n))(ht:BK t=false):(a==sysModules)=false:=aI.mpr λq=>by
 have:=R.low.sys t _ (q▸e) rfl;rw [ht] at this; exact (Bool.noConfusion this)
theorem iu(h:eJ W n=some l):W[n]? =some (.dict l):=by
 unfold eJ at h;generalize W[n]? =o at h ⊢;induction o using nN with
 | none=>exact nn h
 | some M=>induction M using Mine.aV.casesOn <;> first | exact nn h | (obtain rfl:=ae h; rfl)
theorem dp.ad7(R:dp c W h)(e:eJ W n=some l):qA c h (c.ga n) l:=(R.jx n _ (iu e)).casesOn
 λes k t d kn Z=>⟨es,k,jT R t rfl,R.hold _ _ _ t,d,kn⟩
inductive Zv(c:bc)(h:Heap)(l:List (V×V)):Value->Prop
 | mk (a:Addr) (D:qA c h a l):Zv c h l (.ref a)
theorem dp.Ys(R:dp c W h):VR c (.df l) v->Zv c h l v
 | ⟨a,es,n,t,d,kn,_⟩=>⟨a,es,n,jT R t rfl,R.hold _ _ _ t,d,kn⟩
variable{σ:St}
theorem oY {key:Value} {Q:Bool->Shared->Prop} (hold:∀ a t o,c.T a=some (t,o)->s.heap.get? a=some o) (hu:A.in1.units<cLine) (D:qA c s.heap d l) (hk:ju k l=true)
  (hv:VR c k key) (q:∀ tk,Q (ey k l).isSome {s with toks:=tk}):wpAny aO A (contains (.ref d) key) Q E s:=by
 have hT:=D.typeIs;injection D with es n sys ho hd hn;unfold contains
 try with_reducible refine bq ?_
 refine aa (wpAny_specialOf hT slot_dict_contains.lookup ?_);show wpAny _ _ (if(some (Value.builtin "dict.__contains__")==some Value.none)=true then _ else _) _ E s;rw [cb (by rw [beq_builtin_none]; exact cS)];refine aa (wpAny_callSpecialUnlessNone?_slot (name:=Str.ofString "__contains__") hT slot_dict_contains
  (bJ slot_dict_contains hT entry_dict_contains ?_ (args_dict_contains _ _)))
 show wpAny _ _ (dictGet d key>>=_) _ _ s;refine aa (sA hold hu ho hd hn hk hv (λtk e=> ?_) (λtk v x e Z=> ?_))
 ·show wpAny _ _ (Builtin.Dict.pendingKey? d key>>=_) _ _ _;exact aa (wpAny_pendingKey_other sys (aj ⟨_,rfl,cA (by have:=q tk; rw [e] at this; exact this)⟩))
 ·show wpAny _ _ (ret (.bool true)) _ _ _;exact aj ⟨_,rfl,cA (by have:=q tk; rw [e] at this; exact this)⟩
inductive Jo(c:bc)(A:Around)(s:Shared)(x:V)(v:Value):Bool->Value->Prop
 | df (d:Addr) (l:List (V×V)) (D:qA c s.heap d l) (hk:ju x l=true) (b:Bool) (e:(ey x l).isSome=b):Jo c A s x v b (.ref d)
 | lst (a:Addr) (vs:List Value) (e:Value->Bool) (i:s.heap.IsList a vs.toArray) (k:∀ y,y∈vs.toArray->EqAt A.in1 s y v (e y)):Jo c A s x v (vs.toArray.any e) (.ref a)
theorem Ca(hA:iZ F.r A)(hR:bQ c F σ s.heap){x y:V}(h:inV σ.W x y=some b)(hx:VR c x v)(hy:VR c y w):Jo c A s x v b w:=by
 induction y using lH with
 | df l=>injection eC h with hk;induction hR.w.Ys hy with | mk d D=>exact .df d l D hk _ rfl
 | glob n=>refine aJ h λl e h2=> ?_;injection eC h2 with hk;induction hy; exact .df _ l (hR.w.ad7 e) hk _ rfl
 | lst l=>injection hy with a vs n t S _;injection QG hR.w.hold (A:=A.in1) hx (hA.un (n:=7) ∅) S h with h1 h2;exact (h1▸List.any_toArray (l:=vs))▸ .lst a vs _ ⟨_,hR.w.hold _ _ _ t,rfl,n,rfl⟩ λy hy=>h2 y (List.mem_toArray.mp hy)
 | _=>exact nn h
section
variable{o:CmpOp}{x y:V}{a b:Value}{v:Bool}
theorem ZW{f:Int->Int->Bool}(h:WG x y f=some v)(ha:VR c x a)(hb:VR c y b)(q:Q (.bool v) s)(k:∀ i j t u,Q (.bool (f i j)) s->wpAny aO A (compareOp o (.int i t) (.int j u)) Q E s):wpAny aO A (compareOp o a b) Q E s:=by refine aJ h λi hi h2=> ?_;injection eo h2 with j hj;obtain rfl:=fJ hi; obtain rfl:=fJ hj; induction ha; induction hb; exact k _ _ _ _ q
theorem iz(hA:iZ F.r A)(hR:bQ c F σ s.heap)(h:iA σ.W o x y=some v)(ha:VR c x a)(hb:VR c y b)(q:∀ {tk},Q (.bool v) {s with toks:=tk}):wpAny aO A (compareOp o a b) Q E s:=by
 have now:Q (.bool v) s:=q (tk:=s.toks);induction o with
 | In=>induction Ca hA hR h ha hb with
  | df d l D hk _ e=>exact aa (oY hR.w.hold hA.u1 D hk ha λtk=>aj (e▸q))
  | lst a vs e i k=>exact in_listAt e i k now
 | NotIn=>
  injection eo h with v h2;induction Ca hA hR h2 ha hb with
  | df d l D hk _ e=>exact aa (oY hR.w.hold hA.u1 D hk ha λtk=>aj (e▸q))
  | lst a vs e i k=>exact notIn_listAt e i k now
 | Eq=>induction qK hR.w.hold 6 (hA.un ∅) ha hb h with | mk r _=>exact r _ _ _ _ now
 | NotEq=>injection eo h with v h2;induction qK hR.w.hold 6 (hA.un ∅) ha hb h2 with | mk _ r=>exact r _ _ _ _ now
 | Lt=>exact ZW h ha hb now λi j t u q=>PyProof.Rows.lt_int q
 | LtE=>exact ZW h ha hb now λi j t u q=>PySem.P.le_int q
 | Gt=>exact ZW h ha hb now λi j t u q=>PyProof.Rows.gt_int q
 | GtE=>exact ZW h ha hb now λi j t u q=>PySem.P.ge_int q
 | _=>exact nn h
end
end
end
section
variable{σ σ' cg fN:St}{a b d:Expr}
theorem Gv.go {t:Sem α} {Np:bc->β->Prop} {Q:α->Shared->Prop} (h:Gv F t σ post cg) (hA:iZ F.r A) (hR:bQ c F σ s.heap) (q:Ko F c s σ' Np Q')
  (k:∀ aX cU a,ji c aX->bQ aX F cg cU.heap->post aX a->Ko F aX cU σ' Np Q'->Q a cU):wpAny aO A t Q E s:=
 h A c s Q E hA hR λc' h' tk a l R p=>k c' _ a l.toji R p (q.mono l λZ Z=>rfl)
structure GX(F:iR)(e:Expr)(σ:St)(p:V×St):Prop where
 se:SE F e σ p.1 p.2
 st:∀ b,p.1=.bool b->ST F e σ b p.2
theorem GX.of{v:V}(h:SE F e σ v σ')(he:isTrue e F.env (eval e F.env)=(do let v<-eval e F.env; standAt e.pos; holding [v] (truthy v))):GX F e σ (v,σ'):=⟨h,λb q=>ST.of (show SE F e σ (.bool b) σ' from q▸h) he⟩
abbrev KoB(F:iR)(c:bc)(s:Shared)(σ:St)(b:Bool)(Q:Value->Shared->Prop):Prop:=Ko F c s σ (λZ v=>v=.bool b) Q
theorem KoB.tr{b:Bool}{Q:Bool->Shared->Prop}(q:Ko F c s σ (λZ v=>v=b) Q):KoB F c s σ b λv s=>wpAny aO A (truthy v) Q E s:=λc' h' tk a l R e=>e▸cA (q c' h' tk b l R rfl)
theorem GX.ZL {w:Around->(Value->Shared->Prop)->(Value->Shared->Prop)->Shared->Prop} {b:Bool} (e1:∀ A Q E s,w A Q E s->wpAny aO A (eval e F.env) Q E s) (e2:∀ A (Q:Bool->Shared->Prop) E s,w A (λv s=>wpAny aO A (truthy v) Q E s) E s->wpAny aO A (isTrue e F.env (eval e F.env)) Q E s)
  (h:∀ A c s Q E,iZ F.r A->bQ c F σ s.heap->KoB F c s σ' b Q->w A Q E s):GX F e σ (.bool b,σ'):=
 ⟨λA c s Q E hA hR q=>e1 _ _ _ _ (h A c s Q E hA hR q),λb' eq=>by cases eq; exact λA c s Q E hA hR q=>e2 _ _ _ _ (h A c s _ E hA hR (KoB.tr q))⟩
abbrev SEs(F:iR)(pos:Pos)(es:List Expr)(σ:St)(vs:List V)(σ':St):Prop:=Gv F (spliced (backTo pos (starEach es F.env))) σ (λc ws=>dw c vs ws) σ'
theorem gZ{op:CmpOp}(h:jb e=true):behindInMarks op e=false:=by
 induction e using ny with
 | Set=>exact (Bool.noConfusion h)
 | _=>rfl
theorem oq{es:List Expr}(h:notStar e=true):starEach (e::es) env=(false,eval e env)::starEach es env:=by
 induction e using ny with
 | Starred=>exact (Bool.noConfusion h)
 | _=>rfl
section
variable{vs:List V}
theorem jP.lst(q:jP F c σ s (.lst vs) Q)(R:bQ c F σ h)(V:dw c vs ws)(b:vs.length<=100000):Q (.ref h.objs.size) {s with heap:=h.push (dQ ws 0),toks:=tk}:=
 have l:=R.gw .gN (dQ ws 0)
 q _ _ tk _ l (R.alloc .gN _ rfl) ⟨_,ws,0,aF ..,dw.mono l.toji _ _ V,b⟩
theorem jP.tup(q:jP F c σ s (.tup vs) Q)(R:bQ c F σ h)(V:dw c vs ws)(b:vs.length<=100000):Q (.ref h.objs.size) {s with heap:=h.push (wW ws 0),toks:=tk}:=
 have l:=R.gw .gN (wW ws 0)
 q _ _ tk _ l (R.alloc .gN _ rfl) ⟨_,ws,0,aF ..,dw.mono l.toji _ _ V,b⟩
theorem g7(V:dw c vs ws)(b:vs.length<=100000):ws.length<=sizeLine:=aY V▸af b ∅
end
theorem MZ(b:Bool):(b != false)=b:=by induction b <;> rfl
theorem MY(b:Bool):(b != true)= !b:=by induction b <;> rfl
variable{ev eE:gr->Expr->St->Option (V×St)}(H:∀ {e σ p},ev F.k e σ=some p->GX F e σ p){r:V×St}
include H
theorem qF:∀ {es:List Expr} {σ:St} {p:List V×St},es.all notStar=true->su bT (ev F.k) es σ=some p->SEs F pos es σ p.1 p.2
 | [],_,_,_,h=>by obtain rfl:=ae h; exact λA c s Q E hA hR q=>eO (q.qe hR rfl)
 | e::r,σ,_,n,h=>by
  refine aJ h λp hp h2=> ?_;refine aJ h2 λt ht h3=> ?_;obtain rfl:=ae h3;exact λA c s Q E hA hR q=>wpAny_items_cons ((H hp).se.go hA hR q λaX cU a l R V q=>(qF (aW n).2 ht).go hA R q λdg ke as dB du fh q=>q.qe du ⟨_,_,VR.mono dB _ _ V,fh⟩) (oq (aW n).1)
omit H in
theorem qX:∀ {es:List Expr} {σ:St} {p:List V×St},su bT (ev F.k) es σ=some p->p.1.length=es.length
 | [],_,_,h=>by obtain rfl:=ae h; rfl
 | e::r,σ,_,h=>by
  refine aJ h λp hp h2=> ?_;refine aJ h2 λt ht h3=> ?_;obtain rfl:=ae h3;exact av (· +1) (qX ht)
theorem adR{o:Operator}(h:dr bT cf ev eE F.k (.bin o a b) σ=some r):GX F (.BinOp a o b pos) σ r:=by refine aJ h λp hp h2=> ?_;refine aJ h2 λt ht h3=> ?_;refine aJ h3 λv hv h4=> ?_;obtain rfl:=ae h4;exact .of (λA c s Q E hA hR q=>wpAny_BinOp ((H hp).se.go hA hR q λaX cU a l R V q=>(H ht).se.go hA R q λdg ke b dB du fh q=>AZ du (VR.mono dB _ _ V) fh q hA hv)) rfl
theorem X6{o:CmpOp}(n:jb b=true)(h:dr bT cf ev eE F.k (.cmp o a b) σ=some r):GX F (.Compare a [o] [b] pos) σ r:=by
 refine aJ h λp hp h2=> ?_;refine aJ h2 λt ht h3=> ?_;refine aJ h3 λv hv h4=> ?_;obtain rfl:=ae h4;exact .ZL (λA Q E s h=>wpAny_Compare1 h (gZ n)) (λA Q E s h=>wpAny_isTrue_Compare1 h (gZ n)) λA c s Q E hA hR q=>
  (H hp).se.go hA hR q λaX cU a l R V q=>(H ht).se.go hA R q λdg ke b dB du fh q=>iz hA du hv (VR.mono dB _ _ V) fh (q.at du rfl)
theorem X4{o o':CmpOp}(n:jb d=true)(h:dr bT cf ev eE F.k (.Mj o o' a b d) σ=some r):GX F (.Compare a [o,o'] [b,d] pos) σ r:=by
 refine aJ h λp hp h2=> ?_;refine aJ h2 λt ht h3=> ?_;refine aJ h3 λv hv h4=> ?_;have m:lastMarks [o,o'] [b,d]=false:=gZ (op:=o') n;induction v using eK with
 | true=>
  refine aJ h4 λu hu h5=> ?_;refine aJ h5 λw hw h6=> ?_;obtain rfl:=ae h6;refine ⟨λA c s Q E hA hR q=>Compare_chain ((H hp).se.go hA hR q λaX cU a l R V q=>chain_link ((H ht).se.go hA R q λdg ke b dB du fh q=>iz hA du hv (VR.mono dB _ _ V) fh (cA (chain_last ?_)))) m,λb eq=> ?_⟩
  ·exact (H hu).se.go hA du (q.mono (Le.refl _) λZ Z=>rfl) λkJ Pu w kh gI s8 q=>iz hA gI hw (VR.mono kh _ _ fh) s8 (q.at gI rfl)
  ·cases eq;refine λA c s Q E hA hR q=>isTrue_chain ((H hp).se.go hA hR q λaX cU a l R V q=>test_link ((H ht).se.go hA R q λdg ke b dB du fh q=>iz hA du hv (VR.mono dB _ _ V) fh (cA (test_last ?_)))) m;exact (H hu).se.go hA du (q.mono (Le.refl _) λZ Z=>rfl) λkJ Pu w kh gI s8 q=>iz hA gI hw (VR.mono kh _ _ fh) s8 (cA (q.at gI rfl))
 | false=>obtain rfl:=ae h4;refine ⟨λA c s Q E hA hR q=>Compare_chain ((H hp).se.go hA hR q λaX cU a l R V q=>chain_link ((H ht).se.go hA R q λdg ke b dB du fh q=>iz hA du hv (VR.mono dB _ _ V) fh (cA (q.at du rfl)))) m,λb eq=> ?_⟩;cases eq;exact λA c s Q E hA hR q=>isTrue_chain ((H hp).se.go hA hR q λaX cU a l R V q=>test_link ((H ht).se.go hA R q λdg ke b dB du fh q=>iz hA du hv (VR.mono dB _ _ V) fh (cA (q.at du rfl)))) m
def Wx(ng:Bool):CmpOp:=bif ng then .IsNot else .Is
theorem adL{kk:Nat}{pos':Pos}(h:dr bT cf ev eE F.k (.S6 ng a) σ=some r):GX F (.Compare a [Wx ng] [.Constant .none kk pos'] pos) σ r:=by
 refine aJ h λp hp h2=> ?_;obtain rfl:=ae h2;refine .ZL (λA Q E s h=>wpAny_Compare1 h (gZ rfl)) (λA Q E s h=>wpAny_isTrue_Compare1 h (gZ rfl)) λA c s Q E hA hR q=>(H hp).se.go hA hR q λaX cU a l R V q=>wpAny_Constant_none ?_;induction ng using eK with
 | false=>exact is_none (q.qe R (by rw [(MM V).non,MZ]))
 | true=>exact isNot_none (q.qe R (by rw [(MM V).non,MY]))
theorem adK(h:dr bT cf ev eE F.k (.ite e a b) σ=some r):GX F (.IfExp e a b pos) σ r:=by
 refine aJ h λp hp h2=> ?_;refine aJ h2 λt ht h3=> ?_;have st:=(H hp).st t (lN ht);induction t using eK with
 | true=>exact ⟨λA c s Q E hA hR q=>wpAny_IfExp (st.go hA hR q λaX cU a l R V q=>by subst V; exact (H h3).se _ _ _ _ _ hA R q),
   λb eq A c s Q E hA hR q=>(arm_isTrue_IfExp ..)▸aa (st.go hA hR q λaX cU a l R V q=>by subst V; exact (H h3).st b eq _ _ _ _ _ hA R q)⟩
 | false=>exact ⟨λA c s Q E hA hR q=>wpAny_IfExp (st.go hA hR q λaX cU a l R V q=>by subst V; exact (H h3).se _ _ _ _ _ hA R q),
   λb eq A c s Q E hA hR q=>(arm_isTrue_IfExp ..)▸aa (st.go hA hR q λaX cU a l R V q=>by subst V; exact (H h3).st b eq _ _ _ _ _ hA R q)⟩
def opB:BoolOp->Bool
 | .And=>true
 | .Or=>false
theorem FG{op:BoolOp}:∀ {es:List Expr} {σ:St} {p:V×St} {t:Bool},LW bT (ev F.k) (opB op) es σ=some p->p.1=.bool t->ST F (.BoolOp op es pos) σ t p.2
 | [],_,_,t,h,eq=>by
  obtain rfl:=ae h; cases eq;exact op.casesOn (λA c s Q E hA hR q=>isTrue_and_nil (q.qe hR rfl)) (λA c s Q E hA hR q=>isTrue_or_nil (q.qe hR rfl))
 | e::r,σ,_,t,h,eq=>by
  refine aJ h λp hp h2=> ?_;refine aJ h2 λd hd h3=> ?_;have st:=(H hp).st d (lN hd);induction op <;> cases d
  ·obtain rfl:=ae h3; cases eq;exact λA c s Q E hA hR q=>isTrue_and (st.go hA hR q λaX cU a l R V q=>by subst V; exact q.qe R rfl)
  ·exact λA c s Q E hA hR q=>isTrue_and (st.go hA hR q λaX cU a l R V q=>by subst V; exact FG h3 eq _ _ _ _ _ hA R q)
  ·exact λA c s Q E hA hR q=>isTrue_or (st.go hA hR q λaX cU a l R V q=>by subst V; exact FG h3 eq _ _ _ _ _ hA R q)
  ·obtain rfl:=ae h3; cases eq;exact λA c s Q E hA hR q=>isTrue_or (st.go hA hR q λaX cU a l R V q=>by subst V; exact q.qe R rfl)
theorem FU{op:BoolOp}:∀ {es:List Expr} {e:Expr} {σ:St} {p:V×St},LW bT (ev F.k) (opB op) (e::es) σ=some p->SE F (.BoolOp op (e::es) pos) σ p.1 p.2
 | [],e,σ,_,h=>by
  cases eY h with | mk p hp h2=>
  refine aJ h2 λd hd h3=> ?_;have se:SE F e σ (.bool d) p.2:=lN hd▸(H hp).se;induction op <;> cases d <;> cases h3 <;> exact λA c s Q E hA hR q=>BoolOp_one (se _ _ _ _ _ hA hR q)
 | ai1::r,e,σ,_,h=>by
  refine aJ h λp hp h2=> ?_;refine aJ h2 λd hd h3=> ?_;have se:SE F e σ (.bool d) p.2:=lN hd▸(H hp).se;induction op <;> cases d
  ·obtain rfl:=ae h3;exact λA c s Q E hA hR q=>BoolOp_and (se.go hA hR q λaX cU a l R V q=>by subst V; exact cA (q.qe R rfl))
  ·exact λA c s Q E hA hR q=>BoolOp_and (se.go hA hR q λaX cU a l R V q=>by subst V; exact cA (FU h3 _ _ _ _ _ hA R q))
  ·exact λA c s Q E hA hR q=>BoolOp_or (se.go hA hR q λaX cU a l R V q=>by subst V; exact cA (FU h3 _ _ _ _ _ hA R q))
  ·obtain rfl:=ae h3;exact λA c s Q E hA hR q=>BoolOp_or (se.go hA hR q λaX cU a l R V q=>by subst V; exact cA (q.qe R rfl))
theorem adQ{es:List Expr}(n:decide (2<=es.length)=true)(h:dr bT cf ev eE F.k (.boo (opB op) es) σ=some r):GX F (.BoolOp op es pos) σ r:=match es,n with
 | _::_,n=>⟨FU H h,λb eq=>FG H h eq⟩
theorem adC{es:List Expr}{kk:Nat}(n:es.all notStar&&decide (es.length<=100))(h:dr bT cf ev eE F.k (.tup es) σ=some r):GX F (.Tuple es kk pos) σ r:=by refine aJ h λp hp h2=> ?_;obtain rfl:=ae h2;exact .of (λA c s Q E hA hR q=>PySem.wpAny_Tuple ((qF H (aW n).1 hp).go hA hR q λaX cU ws l R V q=>have b:p.1.length<=100000:=af (qX hp▸cE (aW n).2) ∅; ⟨g7 V b,jP.tup q R V b⟩)) rfl
theorem adH{es:List Expr}(n:es.all notStar&&decide (es.length<=100))(h:dr bT cf ev eE F.k (.lst es) σ=some r):GX F (.List es pos) σ r:=by refine aJ h λp hp h2=> ?_;obtain rfl:=ae h2;exact .of (λA c s Q E hA hR q=>PySem.wpAny_List ((qF H (aW n).1 hp).go hA hR q λaX cU ws l R V q=>have b:p.1.length<=100000:=af (qX hp▸cE (aW n).2) ∅; ⟨g7 V b,jP.lst q R V b⟩)) rfl
end
section
open PySem.SeqAt
def YM:List Value:=[.builtin "len",.builtin "sum",.builtin "any",.builtin "all",.builtin "min",.builtin "max",.builtin "sorted",.type "list",.type "dict",.type "tuple",.type "bytes",.type "range"]
def sQ(n:Nat):Value:=(YM[n]?).getD .none
structure OV(k:Nat):Prop where
 oR:findIn cT (.ref (fK k)) "__getattribute__" =some (some (.builtin "object.__getattribute__"))
 getattr:findIn cT (.ref (fK k)) "__getattr__" =some none
 setattr:findIn cT (.ref (fK k)) "__setattr__" =some (some (.builtin "object.__setattr__"))
 hasDict:hasDictIn cT (fK k)=true
 plain:plainOver cT (fK k)=true
 fld:∀ f∈AR k,findIn cT (.ref (fK k)) (et f)=some none
 makes:makesIn cT (fK k)=true
structure SM(v:Value)(m:Option (Option Value)):Prop where
 find:m=some (some v)
 type:typeIn cT v=some (.type "function")
inductive aeJ(o:Option Value)(i:Int):Prop
 | mk (t:Tok) (h:o=some (.int i t))
structure yY(mg mb:Str->Option Value)(x:Str)(v:Value):Prop where
 g:mg x=none
 b:mb x=some v
inductive C2(mg mb:Str->Option Value)(x:Str):Nat->Prop
 | blt (n:Nat) (h:n<12) (e:yY mg mb x (sQ n)):C2 mg mb x n
 | fn (n:Nat) (h:47<=n) (h':n<=75) (e:mg x=some (.ref (pB n))):C2 mg mb x n
 | cls (k:Nat) (h:k<7) (e:mg x=some (.ref (fK k))):C2 mg mb x (90+k)
inductive SH:Prop
 | mk (mg mb:Str->Option Value) (hg:eI.Ns mainGlobals mg) (hb:eI.Ns builtinsNs mb) (gi:∀ x i,gH x LK=some i->aeJ (mg x) i) (call:∀ x n,gH x qI=some n->C2 mg mb x n) (en:yY mg mb "enumerate" (.type "enumerate")) (zp:yY mg mb "zip" (.type "zip")) (sh:mg "Shape" =some (.ref (fK 6)))
structure lT:Prop where
 ie:cT.In eI
 Nv:eI.NoLimit
 glob:SH
 cls:∀ k,k<7->OV k
 init:∀ k,k<7->SM (.ref (pB (80+k))) (findIn cT (.ref (fK k)) "__init__")
 uy:∀ k,30<=k->k<=75->keepIn cT (.ref (pB k))=true
 B5:∀ k,k<7->keepIn cT (.ref (fK k))=true
 V9:∀ k f m,KZ k f=some m->SM (.ref (pB m)) (findIn cT (.ref (fK k)) (et f))
section
variable{σ σ' cg fN:St}{a b d:Expr}
theorem SE.gi(ko:lT)(ek:cM F){i:Int}(hg:fR F.k x=true)(hd:fQ x=true)(hi:gH x LK=some i):SE F (.Name x pos) σ (.int i) σ:=λA c s Q E hA hR q=>ko.glob.casesOn
 λmg mb h1 h2 h3 Z Z Z Z=>(h3 x i hi).casesOn
  λt e2=>Name_function_global ek.kind (ek.gl _ (rT hg)) (loadGlobal_global (ek.glob▸vz hR h1) e2 (q.qe hR ⟨t⟩)) (jm hd)
inductive FAt(c:bc)(es:List DictEntry)(y:Str)(j:Nat)(x:V):Prop
 | mk (d:DictEntry) (f:es.find? (λe=>e.key.isStr y)=some d) (i:es.findIdx? (λe=>e.key.isStr y)=some j) (g:es[j]? =some d) (r:VR c x d.val)
theorem s9:∀ {l:List V} {ns:List Str} {es:List DictEntry} {j:Nat} {y:Str} {x:V},lO c ns l es->ns.Nodup->ns[j]? =some y->l[j]? =some x->FAt c es y j x
 | z::l,_,_,0,y,x,⟨d,t,y',m,tk,hk,V,rest⟩,hn,hy,hx=>by
  cases hy; cases hx;have hb:d.key.isStr y=true:=by rw [hk]; exact aG y
  exact ⟨d,by rw [List.find?_cons,hb],by rw [dq,hb]; rfl,rfl,V⟩
 | z::l,_,_,j+1,y,x,⟨d,t,y',m,tk,hk,V,rest⟩,hn,hy,hx=>by
  have hy:m[j]? =some y:=hy;have hb:d.key.isStr y=false:=by rw [hk]; exact aI.mpr λq=>(bj.mp hn).1 (q▸cH hy)
  injection s9 rest (bj.mp hn).2 hy hx with d' f i g r;exact ⟨d',by rw [List.find?_cons,hb]; exact f,by rw [dq,hb,i]; rfl,g,r⟩
theorem A5{l:List V}{ns:List Str}{x:V}{p:Value->Prop}(h:lO c ns l es)(hn:ns.Nodup)(hy:ns[j]? =some y)(hx:l[j]? =some x)(k:∀ v,lookIn y (b9 es n)=some (some v)->VR c x v->p v):∃ v,p v:=(s9 h hn hy hx).casesOn
 λd f Z Z r=>⟨d.val,k _ (by unfold lookIn; show(match es.find? (λe=>e.key.isStr y)with | some e=>some (some e.val) | none=>_)=_; rw [f]) r⟩
theorem yG{k:Nat}(h:¬ k<7):AR k=[]:=by refine ag (Nat.exists_eq_add_of_le (Nat.not_lt.mp h)) λn z=> ?_;rw [z,dy]; rfl
theorem n7(k:Nat):(n8 k).Nodup:=by
 by_cases h:k<7
 ·have:∀ k,k<7->(n8 k).Nodup:=by decide+kernel
  exact this k h
 ·unfold n8; rw [yG h]; exact dR
inductive aeO(k f j:Nat):Prop
 | mk (n:(n8 k)[j]? =some (et f)) (m:f∈AR k) (l:k<7)
theorem vS{k:Nat}(h:Rc k f=some j):aeO k f j:=by refine ag (List.findIdx?_eq_some_iff_getElem.mp h) λjt z1=>And.elim (λh1 Z=> ?_) z1;have h1:=aD.mp h1;refine ⟨?_,h1▸List.getElem_mem jt,Decidable.byContradiction λq=>by rw [yG q] at jt; exact nomatch jt⟩;unfold n8; rw [bB,aP jt,h1]; rfl
theorem ym{C:Addr}{od:Obj}(h1:hasDictIn cT C=true)(h2:findIn cT (.ref C) name=some none)(h3:lookIn name od=some (some v)):findObj cT C (some od) name=some (.value v):=by
 unfold hasDictIn at h1;unfold findObj;induction q:clsIn cT C using nN with
 | none=>rw [q] at h1; exact (Bool.noConfusion h1)
 | some cd=>rw [q] at h1;rw [Option.bind_some,h2,Option.bind_some];unfold W.ownOf;rw [show cd.hasDict=true from h1,dm rfl];show((lookIn name od).bind _)=_;rw [h3]; rfl
theorem CS (ko:lT) (hR:bQ c F σ s.heap) {k:Nat} {l:List V} {a d:Addr} {v:V} (hg:fld f (k,l)=some v) (h1:c.T a=some (t,instObj (fK k) d))
  (h2:c.T d=some (t',b9 es n)) (hf:lO c (n8 k) l es) (q:jP F c σ s v Q):wpAny aO A (getAttr (.ref a) (et f) true) Q E s:=by
 refine aJ hg λj hj hl=> ?_;injection vS hj with g1 g2 g3;have C:=ko.cls k g3;refine ag (A5 (n:=n) hf (n7 k) g1 hl λv a b=>And.intro a b) λw z1=>And.elim (λw1 w2=> ?_) z1;exact get_value (hR.ie ko.ie) ⟨hR.w.hold _ _ _ h1,rfl,rfl,hR.w.hold _ _ _ h2⟩ C.oR (ym C.hasDict (C.fld f g2) w1) (MM w2).han (q.at hR w2)
theorem mu{p:Nat×List V}(h:lj W n=some p):W[n]? =some (.inst p.1 p.2):=by
 unfold lj at h;generalize W[n]? =o at h ⊢;induction o using nN with
 | none=>exact nn h
 | some M=>induction M using Mine.aV.casesOn <;> first | exact nn h | (obtain rfl:=ae h; rfl)
theorem yM(ko:lT)(hR:bQ c F σ s.heap){x v:V}{a:Value}(h:Oy σ.W f x=some v)(V:VR c x a)(q:jP F c σ s v Q):wpAny aO A (getAttr a (et f) true) Q E s:=by
 induction x using lH with
 | inst k l=>induction V with | mk a d es n t t' S=>exact CS ko hR h t t' S q
 | glob n=>refine aJ h λp e h2=> ?_;induction V;induction hR.w.jx n _ (mu e)with | mk es m t t' S=>exact CS ko hR h2 t t' S q
 | _=>exact nn h
theorem qy{o:Expr}{t:Sem Value}(h:gP o=true):attributeBase o attr env t=t:=by
 induction o using ny with
 | Call f a k p=>induction f using ny with
  | Name=>induction a using lh with
   | nil=>induction k using lh with
    | nil=>exact (Bool.noConfusion h)
    | cons=>rfl
   | cons=>rfl
  | _=>rfl
 | _=>rfl
theorem DY{value:Expr}(hs:gP value=true):eval (.Attribute value attr pos) env=(do
  let o<-eval value env
  standAt pos.atName
  let r<-holding [o] (getAttr o attr true)
  letTemporaryGo value o r
  pure r):=by
 show(do
  let o<-attributeBase value attr env (eval value env)
  standAt pos.atName
  let r<-holding [o] (getAttr o attr true)
  letTemporaryGo value o r
  pure r)=_
 rw [qy hs]
inductive Zk(i:Int)(n:Nat):Nat->Prop
 | mk (h:0<=i) (h':i<n):Zk i n i.toNat
theorem HC{i:Int}(h:idx i n=some j):Zk i n j:=by
 unfold idx at h;induction e:decide (0<=i)&&decide (i<n)using eK with
 | false=>rw [e] at h; exact nn h
 | true=>rw [e] at h; obtain rfl:=ae h; exact ⟨cE (aW e).1,cE (aW e).2⟩
theorem HD{i:Int}{m:Nat}(h:i<n)(hn:n<=100000)(hm:100000<m):i<(m:Int):=Int.lt_of_lt_of_le h (cG.mpr (af hn (bV hm)))
inductive aeN(c:bc)(x:V)(o:Option Value):Prop
 | mk (v:Value) (h:o=some v) (r:VR c x v)
theorem nh{l:List V}{x:V}(h:dw c l vs)(hj:l[j]? =some x):aeN c x vs[j]? :=by
 induction l generalizing vs j with
 | nil=>exact nn hj
 | cons y l ih=>
  injection h with v t a b;induction j using oF with
  | zero=>obtain rfl:=ae hj; exact ⟨v,rfl,a⟩
  | succ j=>exact ih (vs:=t) (j:=j) b hj
inductive C1(A:Around)(s:Shared)(a i:Value)(Q:Value->Shared->Prop)(E:Value->Shared->Prop):Prop
 | mk (T id:String) (hT:s.TypeIs a T) (hl:typeLookup (.type T) "__getitem__" =pure (some (.builtin id))) (w:wpAny aO A (getItem a i) Q E s)
theorem qr (hu:A.in1.units<cLine) (hR:bQ c F σ s.heap) {d:Addr} {v:V} {key:Value} (D:qA c s.heap d l) (hl:Eb k l=some v)
  (V:VR c k key) (q:jP F c σ s v Q):C1 A s (.ref d) key Q E:=by
 have hT:=D.typeIs;injection D with es n sys ho hd hn;unfold Eb at hl;induction hk:ju k l using eK with
 | false=>rw [hk] at hl; exact nn hl
 | true=>
 rw [hk] at hl;refine ⟨_,_,hT,slot_dict_getitem.lookup,?_⟩;unfold getItem
 try with_reducible refine bq ?_
 refine aa (wpAny_sequenceKey hT ∅ ?_);refine aa (dA (name:=Str.ofString "__getitem__") hT slot_dict_getitem
  (bJ slot_dict_getitem hT entry_dict_getitem ?_ (args_dict_getitem _ _)))
 show wpAny _ _ (dictGet d key>>=_) _ _ s;refine aa (sA hR.w.hold hu ho hd hn hk V (λtk e=>nn (e.symm.trans hl)) λtk v' x e X=> ?_);obtain rfl:=ae (e.symm.trans hl);exact aj ⟨x,rfl,aj (q.at hR X)⟩
theorem FV{d:Addr}{t:Tok}{Q:Option Nat->Shared->Prop}(ho:s.heap.get? d=some (b9 es n))(hk:pK es)(q:Q (es.findIdx? λe=>e.key.isStr x) s):
  wpAny aO A (dictFind d (.str x t) (hashStr gD x)) Q E s:=by
 refine wpAny_dictFind_of (knd:=strKind pw gD) (k:=x) (aG x) ho rfl (λe he=> ?_) ?_
 ·refine ag (hk e (List.mem_toArray.mp he)) λy z1=>ag z1 λtk z2=>And.elim (λh1 h2=> ?_) z2;exact ⟨y,by rw [h1]; exact aG y,h2⟩
 ·have:(es.toArray.findIdx? λe=>(strKind pw gD).is x e.key)=es.findIdx? λe=>e.key.isStr x:=by
   rw [List.findIdx?_toArray];apply congrFun; apply av
   funext e
   show Value.isStrOf x e.key=_;induction e.key <;> rfl
  rw [this]; exact q
theorem PG {d:Addr} {ns:List Str} {l:List V} {t:Tok} {v:V} {Q:Option Value->Shared->Prop} (ho:s.heap.get? d=some (b9 es n)) (hk:pK es) (hf:lO c ns l es) (hn:ns.Nodup) (hx:ns[j]? =some x) (hl:l[j]? =some v)
  (q:∀ tk w,VR c v w->Q (some w) {s with toks:=tk}):wpAny aO A (dictGet d (.str x t)) Q E s:=by
 injection s9 hf hn hx hl with d' _ h0 h1 h3;unfold dictGet
 try with_reducible refine bq ?_
 refine aa (wpAny_pyHash_str (aa (FV (s:={s with toks:=s.toks+1}) ho hk ?_)));rw [h0];refine aa (cB (s:={s with toks:=s.toks+1}) ho rfl ?_);rw [cq,h1];exact aj (q _ _ h3)
theorem sj{ks:List Nat}{k:Nat}(h:ks.findIdx? (· ==k)=some j):(ks.map jG)[j]? =some (jG k):=by refine ag (List.findIdx?_eq_some_iff_getElem.mp h) λjt z1=>And.elim (λh1 Z=> ?_) z1;rw [bB,aP jt,aD.mp h1]; rfl
theorem Ax {d:Addr} {ks:List Nat} {l:List V} {k:Nat} {t:Tok} {v:V} (hR:bQ c F σ s.heap) (ho:s.heap.get? d=some (b9 es n)) (hk:pK es) (hf:lO c (ks.map jG) l es) (hn:(ks.map jG).Nodup) (hx:ks.findIdx? (· ==k)=some j) (hl:l[j]? =some v)
  (q:jP F c σ s v Q):C1 A s (.ref d) (.str (jG k) t) Q E:=by
 have hT:s.TypeIs (.ref d) "dict" :=⟨_,ho,rfl⟩
 refine ⟨_,_,hT,slot_dict_getitem.lookup,?_⟩;unfold getItem
 try with_reducible refine bq ?_
 refine aa (wpAny_sequenceKey hT ∅ ?_);refine aa (dA (name:=Str.ofString "__getitem__") hT slot_dict_getitem
  (bJ slot_dict_getitem hT entry_dict_getitem ?_ (args_dict_getitem _ _)))
 show wpAny _ _ (dictGet d (.str (jG k) t)>>=_) _ _ s;exact aa (PG ho hk hf hn (sj hx) hl λtk w W=>aj ⟨w,rfl,aj (q.at hR W)⟩)
theorem xh{i:Int}(h0:0<=i)(h1:i<n):seqIndex? i n=some i.toNat:=by simp [seqIndex?,Int.not_lt.mpr h0,h0,h1]
theorem zv(hA:iZ F.r A)(hR:bQ c F σ s.heap){x i v:V}{a b:Value}(h:lR σ.W x i=some v)(V:VR c x a)(I:VR c i b)(q:jP F c σ s v Q):C1 A s a b Q E:=by
 induction x using lH with
 | lst l=>refine aJ h λk e h2=> ?_;refine aJ h2 λj h3 h4=> ?_;obtain rfl:=fJ e;injection HC h3 with g1 g2;injection V with d vs n t S hb;injection I with u;injection nh S h4 with w w1 w2;exact ⟨_,_,⟨_,hR.w.hold _ _ _ t,rfl⟩,PySem.F.slot_list_getitem.lookup,getItem_listL (dJ hR t) g1 (HD (m:=2 ^ 63) g2 hb ∅) w1 (q.qe hR w2)⟩
 | tup l=>refine aJ h λk e h2=> ?_;refine aJ h2 λj h3 h4=> ?_;obtain rfl:=fJ e;injection HC h3 with g1 g2;injection V with d vs n t S hb;injection I with u;injection nh S h4 with w w1 w2;exact ⟨_,_,⟨_,hR.w.hold _ _ _ t,rfl⟩,PySem.F.slot_tuple_getitem.lookup,PyProof.Rows.getItem_tuple (oN hR t) (cn ∅ g1) (HD (m:=2 ^ 63) g2 hb ∅) (xh g1 (show k<(vs.length:Int)from aY S▸g2)) (by rw [cq]; exact w1) (q.qe hR w2)⟩
 | bytes l=>refine aJ h λk e h2=> ?_;refine aJ h2 λj h3 h4=> ?_;injection eo h4 with y h5;obtain rfl:=fJ e;injection HC h3 with g1 g2;injection V with t hb;injection I with u;refine ⟨_,_,iL _ _ _,FB.slot_bytes_getitem.lookup,getItem_bytes (af hb ∅) g1 g2 ?_⟩;rw [cJ,h5];exact q.at hR ⟨_⟩
 | df l=>induction hR.w.Ys V with | mk d D=>exact qr hA.u1 hR D h I q
 | glob n=>
  induction V;induction hw:σ.W[n]? using nN with
  | none=>unfold lR at h; dsimp only at h; rw [hw] at h; exact nn h
  | some M=>
   unfold lR at h;dsimp only at h;rw [hw] at h;induction M using Mine.aV.casesOn with
   | dict l=>induction hR.w.jx n _ hw with | mk es k t d kn _=>exact qr hA.u1 hR ⟨es,k,jT hR.w t rfl,hR.w.hold _ _ _ t,d,kn⟩ h I q
   | sd ks vs=>
    induction i using lH with
    | Jw k=>refine aJ h λj h1 h2=> ?_;induction I;induction hR.w.jx n _ hw with | mk es e t hf hk hn=>exact Ax hR (hR.w.hold _ _ _ t) hk hf hn h1 h2 q
    | _=>exact nn h
   | _=>exact nn h
 | _=>exact nn h
def xw(e:Expr):Bool:=lQ e != 3
theorem rj{o i:Value}(h:xw e=true):subscripted e false o i=operate [o,i] (getItem o i):=by
 induction e using ny with
 | Slice=>exact (Bool.noConfusion h)
 | _=>rfl
variable{ev eE:gr->Expr->St->Option (V×St)}(H:∀ {e σ p},ev F.k e σ=some p->GX F e σ p){r:V×St}
include H
theorem X8(ko:lT)(n:gP a=true)(h:dr bT cf ev eE F.k (.attr a f) σ=some r):GX F (.Attribute a (et f) pos) σ r:=by refine aJ h λp hp h2=> ?_;refine aJ h2 λv hv h3=> ?_;obtain rfl:=ae h3;exact .of (λA c s Q E hA hR q=>Attribute_any_ ((H hp).se.go hA hR q λaX cU a l R V q=>yM ko R hv V q) (DY n)) rfl
theorem Rd(n:xw b=true)(h:dr bT cf ev eE F.k (.sub a b) σ=some r):GX F (.Subscript a b pos) σ r:=by
 refine aJ h λp hp h2=> ?_;refine aJ h2 λt ht h3=> ?_;refine aJ h3 λv hv h4=> ?_;obtain rfl:=ae h4;exact .of (λA c s Q E hA hR q=>Subscript_ ((H hp).se.go hA hR q λaX cU a l R V q=>(H ht).se.go hA R q λdg ke b dB du fh q=>(zv hA du hv (VR.mono dB _ _ V) fh q).casesOn
  λT id hT hl w=>PyProof.Rows.tail_any hT hl w (rj n))) rfl
end
end
section
open PySem.SeqAt
section
variable{σ σ' cg fN:St}{a b d:Expr}
theorem mI:∀ {l:List V} {vs:List Value} (n:Nat),dw c l vs->dw c (l.take n) (vs.take n)
 | _,_,0,_=>rfl
 | [],_,n+1,rfl=>rfl
 | x::l,_,n+1,⟨v,t,a,b⟩=>⟨v,_,a,mI n b⟩
theorem ph:∀ {l:List V} {vs:List Value} (n:Nat),dw c l vs->dw c (l.drop n) (vs.drop n)
 | _,_,0,h=>h
 | [],_,n+1,rfl=>rfl
 | x::l,_,n+1,⟨v,t,a,b⟩=>ph n b
theorem qz:∀ {l:List V} {vs:List Value},dw c l vs->dw c l.reverse vs.reverse
 | [],_,rfl=>rfl
 | x::l,_,⟨v,t,a,b⟩=>by
  rw [List.reverse_cons,List.reverse_cons];exact eZ (qz b) ⟨v,[],a,rfl⟩
theorem MK{l:List V}{a b:Option Int}(h:dw c l vs):dw c (Ee a b l) (Ee a b vs):=by unfold Ee;rw [aY h]; exact mI _ (ph _ h)
theorem yD{l:List α}{a b:Option Int}(h:l.length<=n):(Ee a b l).length<=n:=af (List.length_take_le' ..) (by rw [List.length_drop]; exact af (Nat.sub_le ..) h)
theorem mZ{lo:V}{o:Option Int}{b:Value}(h:IY lo=some o)(V:VR c lo b):IsPart b o:=by
 induction lo using lH with
 | none=>obtain rfl:=ae h; subst V; exact .none
 | int i=>obtain rfl:=ae h; induction V; exact .int _ _
 | _=>exact nn h
theorem yO(b n:Nat)(hb:b<=n):Builtin.Slice.sliceAdjust none (some (b:Int)) 1 (n:Int)=(0,(b:Int)):=by
 unfold Builtin.Slice.sliceAdjust;simp only [show ¬ ((1:Int)<0)by decide,Int.not_lt.mpr (aN b),if_false]
 congr 1
 exact Int.min_eq_left (cG.mpr hb)
theorem xr(b:Nat):Builtin.Slice.slicePlaces 0 (b:Int) 1=b:=by unfold Builtin.Slice.slicePlaces;simp only [show(1:Int)>0 by decide,if_true,Int.ediv_one];split <;> lia
theorem ot{sl:Addr}{b:Nat}{u:Tok}{Q:Int×Int×Nat->Shared->Prop}(hs:s.heap.IsSliceOf sl .none (.int b u) .none)(hb:b<=n)(h:Q (0,1,b) s):
  wpAny aO A (Builtin.Slice.sliceApplied (.ref sl) (pure (n:Int))) Q E s:=by
 refine ag (id hs) λos z1=>And.elim (λXa z2=>And.elim (λhcs Z8=> ?_) z2) z1;unfold Builtin.Slice.sliceApplied Builtin.Slice.sliceFields;refine aa (aa (wpAny_field Xa Z8 (x:=.none) rfl (aa (wpAny_field Xa Z8 (x:=.int b u) rfl (aa (wpAny_field Xa Z8 (x:=.none) rfl (aj ?_)))))));refine aa (slicePart_none ?_);show wpAny _ _ (if((1:Int)==0)=true then _ else _) _ _ s;rw [cb ∅];refine aa (slicePart_none (aa (slicePart_int (aa (aj ?_)))));show wpAny _ _ (match Builtin.Slice.sliceAdjust none (some (b:Int)) 1 (n:Int)with | (lo,hi)=>pure (lo,(1:Int),Builtin.Slice.slicePlaces lo hi 1)) _ _ s;rw [yO b n hb];show wpAny _ _ (pure ((0:Int),(1:Int),Builtin.Slice.slicePlaces 0 (b:Int) 1)) _ _ s;rw [xr];exact aj h
theorem Dt(xs:Array Value)(b:Nat):((List.range b).filterMap λ(k:Nat)=>xs[((0:Int)+(k:Int)*1).toNat]?).toArray=(xs.toList.take b).toArray:=by
 have e:(λ(k:Nat)=>xs[((0:Int)+(k:Int)*1).toNat]?)=(λx=>xs[x]?)∘λx=>0+x:=by
  funext k
  rw [Int.zero_add,Int.mul_one];show xs[k]? =xs[0+k]?;rw [bF]
 rw [e,<-List.filterMap_map,pick_run xs 0 b,List.drop_zero]
theorem nU {t sl:Addr} {items:Array Value} {b:Nat} {u:Tok} (ht:IsTup s.heap t items) (hs:s.heap.IsSliceOf sl .none (.int b u) .none) (hb:b<items.size)
  (h:Q (.ref s.heap.objs.size) {s with heap:=s.heap.push (wW (items.toList.take b) 0)}) (za:items.size<=sizeLine):wpAny aO A (getItem (.ref t) (.ref sl)) Q E s:=by
 have Cj:sizeOk (.seq (items.toList.take b).toArray):=by show(items.toList.take b).toArray.size<=sizeLine;rw [aM];exact af (List.length_take_le' ..) (Array.length_toList▸za)
 refine ag (id hs) λos z1=>And.elim (λXa z2=>And.elim (λhcs Z8=> ?_) z2) z1;unfold getItem
 try with_reducible refine bq ?_
 first | refine aa (aj ?_) | skip
 refine aa (wpAny_sequenceKey ht.typeIs ∅ ?_);refine aa (dA (name:=Str.ofString "__getitem__") ht.typeIs PyProof.Rows.slot_tuple_getitem
  (bJ PyProof.Rows.slot_tuple_getitem ht.typeIs PyProof.Rows.entry_tuple_getitem ?_ (PyProof.Rows.args_tuple_getitem _ _)))
 show wpAny _ _ (Builtin.Tuple.tupleItemsOf (.ref t)>>=_) _ _ s;refine aa (tupleItemsOf_ ht (aa (wpAny_typeOf ⟨os,Xa,hcs⟩ ?_)));rw [dm ∅];refine aa (ot hs (bV hb) ?_);show wpAny _ _ (if((0:Int)==0&&(1:Int)==1&&b==items.size)=true then _ else _) _ _ s;rw [cb (by rw [aI.mpr (aL hb)]; exact cS),Dt items b]
 first
  | exact aa (m:=Builtin.Tuple.tupleExact _) (cX (aj ⟨_,rfl,aj h⟩) Cj)
  | exact aa (m:=Builtin.Tuple.tupleExact _) (cX (aa (aj (aj ⟨_,rfl,aj h⟩))) Cj)
  | exact aa (aa (m:=Builtin.Tuple.tupleExact _) (cX (aj (aj ⟨_,rfl,aj h⟩)) Cj))
  | exact aa (aa (m:=Builtin.Tuple.tupleExact _) (cX (aj ⟨_,rfl,aj h⟩) Cj))
abbrev FN(a b d:Value):Obj:={cls:=.type "slice",data:=.fields #[a,b,d]}
abbrev pu(s:Shared)(o:Obj):Shared:={s with heap:=s.heap.push o}
theorem Om{lo hi:V}{l m:List α}(h:RU lo hi l=some m):∃ a b,IY lo=some a/\IY hi=some b/\m=Ee a b l:=by refine aJ h λa ha h2=> ?_;induction eo h2 with | mk b hb=>exact ⟨a,b,ha,hb,rfl⟩
theorem zx(hR:bQ c F σ s.heap){x lo hi v:V}{a bl bh:Value}(h:pI x lo hi=some v)(V:VR c x a)(L:VR c lo bl)(H:VR c hi bh)(q:jP F c σ s v Q):
  C1 A (pu s (FN bl bh .none)) a (.ref s.heap.objs.size) Q E:=by
 have R:=hR.push (FN bl bh .none);have hold:=R.w.hold;induction x using lH with
 | lst l=>injection eo h with m e;refine ag (Om e) λoa z1=>ag z1 λob z2=>And.elim (λo1 z3=>And.elim (λo2 z4=> ?_) z3) z2;obtain rfl:=z4;injection V with d vs n t S hb;refine ⟨_,_,⟨_,hold _ _ _ t,rfl⟩,PySem.F.slot_list_getitem.lookup,wpAny_getItem_list_slice (items:=vs.toArray) ⟨_,hold _ _ _ t,rfl,n,rfl⟩ (Heap.IsSliceOf.new ..) (mZ o1 L) (mZ o2 H) .none (λq=>(mK q)) ?_ (g7 S hb)⟩;rw [slicePick_plain];exact jP.lst q R (MK S) (yD hb)
 | tup l=>
  induction lo using lH with
  | none=>refine aJ h λk e h2=> ?_;injection eC h2 with g;obtain rfl:=fJ e;have g2:k<l.length:=cE (aW g).2;refine ag (Int.eq_ofNat_of_zero_le (cE (aW g).1)) λk z1=> ?_;obtain rfl:=z1;injection V with d vs n t S hb;subst L;injection H with u;refine ⟨_,_,⟨_,hold _ _ _ t,rfl⟩,PySem.F.slot_tuple_getitem.lookup,nU (items:=vs.toArray) ⟨_,hold _ _ _ t,rfl,n,rfl⟩ (Heap.IsSliceOf.new ..) (show k<vs.length from aY S▸cz.mp g2) ?_ (g7 S hb)⟩;exact jP.tup q R (mI _ S) (af (List.length_take_le' ..) hb)
  | _=>exact nn h
 | bytes l=>
  injection eo h with m e;refine ag (Om e) λoa z1=>ag z1 λob z2=>And.elim (λo1 z3=>And.elim (λo2 z4=> ?_) z3) z2;obtain rfl:=z4;injection V with t hb;refine ⟨_,_,iL _ _ _,FB.slot_bytes_getitem.lookup,getItem_meets (iL _ _ _) ∅ FB.slot_bytes_getitem FB.entry_bytes_getitem (FB.args_bytes_getitem_2 _ _) (KBc.meets_slice2 l.toArray t _ (mZ o1 L) (mZ o2 H))
   ⟨Heap.IsSliceOf.new _ _ _ _,af (KBc.size_picked_le _ _ _) (af hb ∅),λt' k=> ?_⟩⟩
  refine q c _ k _ (Le.refl c) R ?_;rw [KBc.picked_eq];exact ⟨t',yD hb⟩
 | _=>exact nn h
variable{ev eE:gr->Expr->St->Option (V×St)}(H:∀ {e σ p},ev F.k e σ=some p->GX F e σ p){r:V×St}
include H
theorem XW:∀ {o:Option Expr} {p:V×St},GL bT (ev F.k) o σ=some p->Gv F (evalPart o F.env) σ (λc w=>VR c p.1 w) p.2
 | some e,_,h=>(H h).se
 | none,_,h=>by obtain rfl:=ae h; exact λA c s Q E hA hR q=>aj (q.qe hR rfl)
theorem adE{lo hi:Option Expr}(h:dr bT cf ev eE F.k (.ZJ a lo hi) σ=some r):GX F (.Subscript a (.Slice lo hi none p) pos) σ r:=by
 refine aJ h λp hp h2=> ?_;refine aJ h2 λt ht h3=> ?_;refine aJ h3 λu hu h4=> ?_;refine aJ h4 λv hv h5=> ?_;obtain rfl:=ae h5;exact .of (λA c s Q E hA hR q=>Subscript_ ((H hp).se.go hA hR q λaX cU a l R V q=>wpAny_Slice ((XW H ht).go hA R q λdg ke b dB du fh q=>(XW H hu).go hA du q λkJ Pu d kh gI s8 q=>aj
  ((zx gI hv (VR.mono kh _ _ (VR.mono dB _ _ V)) (VR.mono kh _ _ fh) s8 q).casesOn
  λT id hT hl w=>PyProof.Rows.tail_any hT hl w rfl)))) rfl
theorem Vm {zQ zP:Pos} {kk:Nat} {l:List V} {t:V×St} {post:bc->β->Prop} (hA:iZ F.r A) (hR:bQ c F σ s.heap) (hp:ev F.k a σ=some t) (hl:ze t.1=some l) (q:Ko F c s σ' post Q')
  (k:∀ aX cU vs,bQ aX F t.2 cU.heap->dw aX l.reverse vs->l.reverse.length<=100000->Ko F aX cU σ' post Q'->Q (.ref cU.heap.objs.size) (pu cU (dQ vs 0))):
  wpAny aO A (eval (.Subscript a (.Slice none none (some (.UnaryOp .USub (.Constant (.int 1) kk zQ) zP)) p) pos) F.env) Q E s:=
 Subscript_ ((H hp).se.go hA hR q λaX cU a l R V q=>wpAny_Slice (aj (aj ((SE.neg (F:=F) (pos':=zP) (k:=kk) (pos:=zQ) (i:=1)).go hA R q λdg ke b dB du fh q=>by
  injection fh with u;have V:=VR.mono dB _ _ V;rw [kP hl] at V;injection V with d vs n t S hb;have gI:=du.push (FN .none .none (.int (-1) u));have hT:=gI.w.hold _ _ _ t;refine PyProof.Rows.tail_any (T:="list") (ops:=[.ref d,.ref ke.heap.objs.size]) ⟨_,hT,rfl⟩ PySem.F.slot_list_getitem.lookup (wpAny_getItem_list_slice (s:=pu ke (FN .none .none (.int (-1) u))) (items:=vs.toArray) ⟨_,hT,rfl,n,rfl⟩
   (Heap.IsSliceOf.new ..) .none .none (.int _ _) ∅ ?_ (g7 S hb)) rfl
  rw [krv_pick];exact k dg (pu ke (FN .none .none (.int (-1) u))) vs.reverse gI (qz S) ((List.length_reverse ..).symm▸hb) (q.mono (Le.refl _) λZ Z=>rfl)))))
theorem adF{zQ zP:Pos}{kk:Nat}(h:dr bT cf ev eE F.k (.rev a) σ=some r):GX F (.Subscript a (.Slice none none (some (.UnaryOp .USub (.Constant (.int 1) kk zQ) zP)) p) pos) σ r:=by refine aJ h λp hp h2=> ?_;refine aJ h2 λl hl h3=> ?_;obtain rfl:=ae h3;exact .of (λA c s Q E hA hR q=>Vm H hA hR hp hl q λaX cU vs R S b q=>jP.lst q R S b) rfl
end
end
def gE:gG->Bool
 | .own _=>true
 | .loc=>true
 | .cell _=>true
 | .nq=>true
 | _=>false
def yb(t:gG):gG:=bif gE t then .bO else t
def bc.hide(c:bc):bc:={c with T:=λa=>(c.T a).map λp=>(yb p.1,p.2),vals:=λZ=>none}
def uw(o:Option (gG×Obj)):Bool:=o.any λp=>gE p.1
def wR:Option (gG×Obj)->Option (gG×Obj)
 | some p=>bif gE p.1 then none else some p
 | none=>none
def bc.back(c c2:bc):bc:={c2 with T:=λa=>bif uw (c.T a)then c.T a else wR (c2.T a),vals:=c.vals}
section
variable{c2:bc}{σ ES:St}{W2:List aV}{o:Obj}
theorem qT(e:c.T a=some (t,o)):c.hide.T a=some (yb t,o):=av (Option.map _) e
theorem jd(e:c.T a=some (t,o))(ht:gE t=false):c.hide.T a=some (t,o):=by rw [qT e]; unfold yb; rw [ht]; rfl
inductive Jp(c:bc)(a:Addr):gG->Obj->Prop
 | mk (t:gG) (o:Obj) (e:c.T a=some (t,o)):Jp c a (yb t) o
theorem Ci(e:c.hide.T a=some (t,o)):Jp c a t o:=by
 have e:(c.T a).map (λp=>(yb p.1,p.2))=some (t,o):=e;induction q:c.T a using nN with
 | none=>rw [q] at e; exact (mK e)
 | some p=>rw [q] at e; cases e; exact ⟨p.1,p.2,q⟩
theorem GS(h:¬ b=true):b=false:=eF.mpr h
theorem m5(c:bc):Ch c c.hide (λt=>gE t=true):=⟨λa t o e ht=>jd e (GS ht),⟨λa o e=>jd e rfl,aA _,λZ Z=>rfl,λZ Z=>rfl⟩⟩
theorem KR:∀ t,BK t=true->BK (yb t)=true
 | .bO,_=>rfl
 | .loc,_=>rfl
 | .nq,_=>rfl
 | .cell _,_=>rfl
theorem dp.hide(R:dp c W h):dp c.hide W h:=
 ⟨⟨R.low.up.casesOn λa o ha e=>⟨a,o,ha,jd e rfl⟩,λt o e hc=>match Ci e with
   | ⟨t,o,e⟩=>KR t (R.low.sys t o e hc)⟩,λa t o e=>(Ci e).casesOn
  λt o e=>R.hold a t o e,λa o e=>jd (R.base a o e) rfl,R.len,λn M e=>(R.jx n M e).ch (m5 c) (R.lt e) (λq=>Bool.noConfusion q) (λq=>Bool.noConfusion q)⟩
theorem I3(e:c.T a=some (t,o))(ht:gE t=true):(c.back c2).T a=some (t,o):=by show(bif uw (c.T a)then c.T a else wR (c2.T a))=_;rw [e]; show(bif gE t then _ else _)=_; rw [ht]; rfl
theorem yK(hc:uw (c.T a)=false)(e:c2.T a=some (t,o))(ht:gE t=false):(c.back c2).T a=some (t,o):=by show(bif uw (c.T a)then c.T a else wR (c2.T a))=_;rw [hc,e]; show(bif gE t then _ else _)=_; rw [ht]; rfl
theorem uZ(l:Lw c.hide c2)(e:c2.T a=some (t,o))(ht:gE t=false)(hb:t≠ .bO):(c.back c2).T a=some (t,o):=yK (by
 induction q:c.T a using nN with
 | none=>rfl
 | some p=>induction hu:gE p.1 using eK with
  | false=>exact hu
  | true=>
   have k:c.hide.T a=some (.bO,p.2):=by rw [qT (t:=p.1) (o:=p.2) q]; unfold yb; rw [hu]; rfl
   cases e.symm.trans (l.bO _ _ k); exact absurd rfl hb) e ht
theorem yJ(e:c.T a=some (t,o))(e2:c2.T a=some (t,o))(ht:gE t=false):(c.back c2).T a=some (t,o):=yK (by rw [e]; exact ht) e2 ht
inductive SV(c c2:bc)(a:Addr)(t:gG)(o:Obj):Prop
 | old (e:c.T a=some (t,o)) (ht:gE t=true)
 | new (e:c2.T a=some (t,o)) (ht:gE t=false)
theorem wq(e:(c.back c2).T a=some (t,o)):SV c c2 a t o:=by
 have e:(bif uw (c.T a)then c.T a else wR (c2.T a))=some (t,o):=e;induction q:uw (c.T a)using eK with
 | true=>rw [q] at e; exact .old e (by rw [show c.T a=_ from e] at q; exact q)
 | false=>
  rw [q] at e;have e:wR (c2.T a)=some (t,o):=e;induction q2:c2.T a using nN with
  | none=>rw [q2] at e; exact (mK e)
  | some p=>
   rw [q2] at e;have e:(bif gE p.1 then none else some p)=some (t,o):=e;induction hu:gE p.1 using eK with
   | true=>rw [hu] at e; exact (mK e)
   | false=>rw [hu] at e; obtain rfl:=ae e; exact .new q2 hu
theorem lG(l:Lw c.hide c2):Le c (c.back c2):=⟨⟨⟨λa o e=>yJ e (l.gN _ _ (jd e rfl)) rfl,l.N,l.ga,l.om⟩,λa o e=>yJ e (l.bO _ _ (jd e rfl)) rfl⟩,rfl⟩
theorem pe(l:Lw c.hide c2):ji c2 (c.back c2):=⟨λa o e=>uZ l e rfl eT,aA _,λZ Z=>rfl,λZ Z=>rfl⟩
theorem Mr(l:Lw c.hide c2):Ch c2 (c.back c2) (λt=>gE t=true\/t=.bO):=⟨λa t o e ht=>uZ l e (GS λq=>ht (.inl q)) (λq=>ht (.inr q)),pe l⟩
theorem yL(l:Lw c.hide c2):Ch c (c.back c2) (λt=>gE t=false):=⟨λa t o e ht=>I3 e (Bool.not_eq_false _▸ht),(lG l).toji⟩
theorem bQ.back(R:bQ c F σ h)(l:Lw c.hide c2)(R2:dp c2 W2 h'):bQ (c.back c2) F {σ with W:=W2} h':=
 ⟨⟨⟨R.w.low.up.casesOn λa o ha e=>⟨a,o,ha,(lG l).bO _ _ e⟩,λt o e hc=>(wq e).casesOn
   (λe Z=>R.w.low.sys t o e hc)
   (λe Z=>R2.low.sys t o e hc)⟩,λa t o e=>(wq e).casesOn
   (λe ht=>R2.hold a _ o (l.bO _ _ (by rw [qT e]; unfold yb; rw [ht]; rfl)))
   (λe Z=>R2.hold a t o e),λa o e=>(lG l).bO _ _ (R.w.base a o e),R2.len,λn M e=>(R2.jx n M e).ch (Mr l) (R2.lt e) (λq=>q.elim (λq=>Bool.noConfusion q) eT) (λq=>q.elim (λq=>Bool.noConfusion q) eT)⟩,
  R.loc.ch (yL l) rfl (λq=>Bool.noConfusion q) (λi q=>(Bool.noConfusion q)) (λi q=>(Bool.noConfusion q)),R.cv.ch (yL l) (λq=>Bool.noConfusion q)⟩
end
section
open PySem.SeqAt
section
variable{σ σ' cg fN:St}{a b d:Expr}
inductive Fin(c₀ c:bc)(F:iR)(σ:St)(h':Heap)(d:Addr)(t:gG)(o':Obj):Prop
 | mk (l:Le c₀ (c.put d t o')) (m:ji c (c.put d t o')) (R:bQ (c.put d t o') F σ h')
theorem bQ.fin{aS:Heap}{d:Addr}{o:Obj}(tf:dp c₀ A3 aS)(l:Le c₀ c)(h0:c₀.T d=none)(hd:c.T d=some (.bO,o))(hn:d≠sysModules)(R:bQ c F σ h)(hs:Heap.SameBut d h h')(ho:h'.get? d=some o')(t:gG):Fin c₀ c F σ h' d t o':=by
 have x:Ch c (c.put d t o') (λu=>u=.bO):=Ch.put hd eT;have ne:∀ {a p},c₀.T a=some p->a≠d:=λe q=>nn (h0.symm.trans (q▸e));have up:∀ {a p},c₀.T a=some p->∀ {r},c.T a=some r->(c.put d t o').T a=some r:=λe r q=>(bY _ _ _ (ne e)).trans q;refine ⟨⟨⟨⟨λa o e=>up e (l.gN a o e),l.N,l.ga,l.om⟩,λa o e=>up e (l.bO a o e)⟩,l.vals⟩,x.gf,⟨⟨⟨?_,λt' ZO e' hc=> ?_⟩,my R.w.hold hs ho,λa o e=>up (tf.base a o e) (R.w.base a o e),R.w.len,λn M e=>(R.w.jx n M e).ch x (R.w.lt e) eT eT⟩,R.loc.ch x rfl eT (λi q=>(gG.noConfusion q)) (λi q=>(gG.noConfusion q)),R.cv.ch x eT⟩⟩
 ·induction tf.low.up with | mk b ob hb e=>exact ⟨b,ob,hb,up e (l.bO _ _ e)⟩
 ·rw [bY _ _ _ (Ne.symm hn)] at e';exact R.w.low.2 t' ZO e' hc
def bc.oE(c:bc)(a d:Addr):bc:={c with N:=c.N+1,ga:=λn=>if n=c.N then a else c.ga n,om:=λn=>if n=c.N then d else c.om n}
theorem bc.vE(c:bc)(a d:Addr):Le c (c.oE a d):=⟨⟨⟨λZ Z h=>h,da _,λn hn=>cb (aL hn),λn hn=>cb (aL hn)⟩,λZ Z h=>h⟩,rfl⟩
theorem bc.qQ{a d:Addr}:(c.oE a d).ga c.N=a:=dm rfl
theorem bc.xA{a d:Addr}:(c.oE a d).om c.N=d:=dm rfl
inductive MQ(c:bc)(F:iR)(σ:St)(M:aV)(h':Heap)(a:Addr):Prop
 | mk (c':bc) (l:Le c c') (R:bQ c' F {σ with W:=σ.W++ [M]} h') (V:VR c' (.glob σ.W.length) (.ref a))
inductive Jn(c:bc)(W:List aV)(M:aV)(h':Heap)(a:Addr):Prop
 | mk (c':bc) (l:Lw c c') (R:dp c' (W++ [M]) h') (V:VR c' (.glob W.length) (.ref a))
theorem bQ.up{a:Addr}(R:bQ c F σ h):Jn c.hide σ.W M h' a->MQ c F σ M h' a
 | ⟨_,l,R',V⟩=>⟨_,lG l,R.back l R',VR.mono (pe l) _ _ V⟩
theorem dp.oE(R:dp c W h){a d:Addr}(m:MR (c.oE a d) c.N M):Jn c W M h a:=by
 have l:=c.vE a d;have x:Ch c (c.oE a d) (λZ=>False):=⟨λZ Z Z e Z=>e,l.toji⟩
 refine ⟨_,l.toLw,⟨⟨R.low.up.casesOn λb o hb e=>⟨b,o,hb,e⟩,R.low.sys⟩,R.hold,R.base,by rw [aQ,R.len]; rfl,λn M' e=> ?_⟩,?_⟩
 ·rcases Nat.lt_or_ge n W.length with hn | hn
  ·rw [List.getElem?_append_left hn] at e;exact (R.jx n M' e).ch x (R.len▸hn) id id
  ·rw [List.getElem?_append_right hn] at e;have hz:n-W.length=0:=Nat.lt_one_iff.mp (eV e);rw [hz] at e;obtain rfl:=ae e;rw [fz (Nat.le_of_sub_eq_zero hz) hn,R.len]; exact m
 ·have:Jq (c.oE a d) W.length (.ref ((c.oE a d).ga W.length)):=⟨R.len▸Nat.lt_succ_self _⟩
  rw [R.len,bc.qQ] at this;rw [R.len]; exact this
theorem bQ.Ny(R:bQ c F σ h){o:Obj}(hf:o.isFreed=false)(m:∀ c',ji c c'->c'.T (c'.ga c.N)=some (.gl c.N,o)->MR c' c.N M):MQ c F σ M (h.push o) h.objs.size:=by have l1:Lw c.hide (c.hide.put h.objs.size (.gl c.N) o):=(Ch.fresh R.w.hide.fresh).lw id;have e:((c.hide.put h.objs.size (.gl c.N) o).oE h.objs.size 0).ga c.N=h.objs.size:=bc.qQ (c:=c.hide.put h.objs.size (.gl c.N) o);have l2:=bc.vE (c.hide.put h.objs.size (.gl c.N) o) h.objs.size 0;injection (R.w.hide.alloc (.gl c.N) o hf).oE (a:=h.objs.size) (d:=0) (m ((c.hide.put h.objs.size (.gl c.N) o).oE h.objs.size 0) ((m5 c).gf.trans (l1.toji.trans l2.toji)) (e.symm▸aF ..))with c' l R' V;exact R.up ⟨c',l1.trans l,R',V⟩
theorem jP.glob{a:Addr}(q:jP F c {σ with W:=σ.W++ [M]} s (.glob σ.W.length) Q):MQ c F σ M h' a->Q (.ref a) {s with heap:=h',toks:=tk}
 | ⟨c',l,R,V⟩=>q c' _ tk _ l R V
theorem SE.C7:SE F (.Dict [] [] pos) σ (.glob σ.W.length) {σ with W:=σ.W++ [.dict []]}:=λA c s Q E hA hR q=>
 wpAny_Dict_empty (jP.glob q (hR.Ny (o:=b9 [] 0) (M:=.dict []) rfl λc' Z t=>⟨[],0,t,rfl,List.Pairwise.nil,bw _⟩))
theorem lK{id:String}{a b:Addr}{m:Nat}{Q:Bool->Shared->Prop}(ha:s.heap.get? a=some (b9 es n))(hb:s.heap.get? b=some (b9 [] m))(sa:(a==sysModules)=false)(sb:(b==sysModules)=false)(q:Q es.isEmpty s):
  wpAny aO A (Builtin.Dict.samePairs id a b) Q E s:=by
 unfold Builtin.Dict.samePairs Builtin.Dict.showsAll;rw [cb (by rw [sa]; exact cS),cb (by rw [sb]; exact cS)];refine aa (aj (aa (aj (aa (cB ha rfl ?_)))));refine aa (cB hb rfl ?_);induction es using lh with
 | nil=>show wpAny _ _ (if((0:Nat) != 0)=true then _ else _) _ _ _;rw [cb ∅];refine aa (wpAny_dictEpoch ha rfl ?_);refine aa ?_;rw [Std.Legacy.Range.forIn_eq_forIn_range'];exact aj (aj q)
 | cons e r=>rw [dm (show((e::r).toArray.size != ([]:List DictEntry).toArray.size)=true from rfl)];exact aa (wpAny_rule (aj q))
def LX(ng:Bool):CmpOp:=bif ng then .NotEq else .Eq
theorem Eg {a b:Addr} {m:Nat} (hu:A.units<cLine) (ha:s.heap.get? a=some (b9 es n)) (hb:s.heap.get? b=some (b9 [] m)) (sa:(a==sysModules)=false) (sb:(b==sysModules)=false)
  (q:Q (.bool (es.isEmpty != ng)) s):wpAny aO A (compareOp (LX ng) (.ref a) (.ref b)) Q E s:=by
 have Ti:s.TypeIs (.ref a) "dict" :=⟨_,ha,rfl⟩
 have hTb:s.TypeIs (.ref b) "dict" :=⟨_,hb,rfl⟩
 induction ng using eK with
 | false=>show wpAny _ _ (richCompare .Eq _ _) _ _ _;refine wpAny_richCompare_same_room (op:=.Eq) Ti hTb PySem.F.slot_dict_eq (bJ PySem.F.slot_dict_eq Ti PySem.F.entry_dict_eq ?_ (PySem.F.args_dict_eq_2 _ _)) hu;show wpAny _ _ (Builtin.Dict.dictSlotArgs "__eq__" ⟨[.ref a,.ref b],[]⟩>>=_) _ _ s;refine aa (aa (eH Ti ?_));refine aj (aa (wpAny_isInstance hTb isSubtype_dict_dict ?_));rw [cb ∅];show wpAny _ _ (Builtin.Dict.samePairs _ a b>>=_) _ _ s;exact aa (lK ha hb sa sb (aj ⟨_,rfl,(λe=>PySem.Value.noConfusion e),(show(es.isEmpty==true)=(es.isEmpty != false)by induction es.isEmpty <;> rfl)▸q⟩))
 | true=>show wpAny _ _ (richCompare .NotEq _ _) _ _ _;refine wpAny_richCompare_same_room (op:=.NotEq) Ti hTb PySem.F.slot_dict_ne (bJ PySem.F.slot_dict_ne Ti PySem.F.entry_dict_ne ?_ (PySem.F.args_dict_ne_2 _ _)) hu;show wpAny _ _ (Builtin.Dict.dictSlotArgs "__ne__" ⟨[.ref a,.ref b],[]⟩>>=_) _ _ s;refine aa (aa (eH Ti ?_));refine aj (aa (wpAny_isInstance hTb isSubtype_dict_dict ?_));rw [cb ∅];show wpAny _ _ (Builtin.Dict.samePairs _ a b>>=_) _ _ s;exact aa (lK ha hb sa sb (aj ⟨_,rfl,(λe=>PySem.Value.noConfusion e),(show(es.isEmpty==false)=(es.isEmpty != true)by induction es.isEmpty <;> rfl)▸q⟩))
theorem EB:∀ {l:List (V×V)} {es:List DictEntry},iV c l es->es.isEmpty=l.isEmpty
 | [],_,rfl=>rfl
 | (_,_)::_,_,⟨_,_,_,_,_,_⟩=>rfl
theorem Ex:∀ {l:List V} {vs:List Value},dw c l vs->vs.isEmpty=l.isEmpty
 | [],_,rfl=>rfl
 | _::_,_,⟨_,_,_,_⟩=>rfl
theorem D4{a b:Addr}(hu:A.units<cLine)(h1:s.heap.IsList a vs.toArray)(h2:s.heap.IsList b #[]):Rc3 A s (.ref a) (.ref b) vs.isEmpty:=match vs,h1 with
 | [],h1=>⟨RcAt.lists (e:=λZ=>true) h1 h2 rfl hu (λj h Z=>absurd h (fy j)),RcNeAt.lists (e:=λZ=>true) h1 h2 rfl hu (λj h Z=>absurd h (fy j))⟩
 | _::_,h1=>⟨RcAt.lists_lengths h1 h2 rfl hu,RcNeAt.lists_lengths h1 h2 rfl hu⟩
inductive ON(c:bc)(h:Heap)(l:List V):Value->Prop
 | mk (d:Addr) (vs:List Value) (n:Nat) (g:h.get? d=some (dQ vs n)) (S:dw c l vs) (b:l.length<=100000):ON c h l (.ref d)
theorem rQ{l:List V}(h:pP W n=some l):W[n]? =some (.list l):=by
 unfold pP at h;generalize W[n]? =o at h ⊢;induction o using nN with
 | none=>exact nn h
 | some M=>induction M using Mine.aV.casesOn <;> first | exact nn h | (obtain rfl:=ae h; rfl)
theorem Dz(R:bQ c F σ h){x:V}{l:List V}{a:Value}(hx:dr.listOf σ.W x=some l)(V:VR c x a):ON c h l a:=by
 induction x using lH with
 | lst m=>obtain rfl:=ae hx; induction V with | mk d vs n t S b=>exact ⟨d,vs,n,R.w.hold _ _ _ t,S,b⟩
 | glob n=>induction V;induction R.w.jx n _ (rQ hx)with | mk vs e t S b=>exact ⟨_,vs,e,R.w.hold _ _ _ t,S,b⟩
 | _=>exact nn hx
variable{ev eE:gr->Expr->St->Option (V×St)}(H:∀ {e σ p},ev F.k e σ=some p->GX F e σ p){r:V×St}
include H
theorem adN(h:dr bT cf ev eE F.k (.ZU ng a) σ=some r):GX F (.Compare a [LX ng] [.Dict [] [] p] pos) σ r:=by refine aJ h λp hp h2=> ?_;refine aJ h2 λl hl h3=> ?_;obtain rfl:=ae h3;refine .ZL (λA Q E s h=>wpAny_Compare1 h (gZ rfl)) (λA Q E s h=>wpAny_isTrue_Compare1 h (gZ rfl)) λA c s Q E hA hR q=>(H hp).se.go hA hR q λaX cU a l R V q=>wpAny_Dict_empty ?_;rw [Oz hl] at V;injection V with d es n t S nd b;exact Eg hA.u ((R.push (b9 [] 0)).w.hold _ _ _ t) (aR _ rfl) (jT R.w t rfl) (aI.mpr R.w.j8) (q _ _ cU.toks _ (Le.refl _) (R.push _) (by rw [EB S]))
theorem adM(h:dr bT cf ev eE F.k (.ZT ng a) σ=some r):GX F (.Compare a [LX ng] [.List [] p] pos) σ r:=by
 refine aJ h λp hp h2=> ?_;refine aJ h2 λl hl h3=> ?_;obtain rfl:=ae h3;refine .ZL (λA Q E s h=>wpAny_Compare1 h (gZ rfl)) (λA Q E s h=>wpAny_isTrue_Compare1 h (gZ rfl)) λA c s Q E hA hR q=>(H hp).se.go hA hR q λaX cU a l R V q=>PySem.wpAny_List (eO ⟨bw _,?_⟩);injection Dz R hl V with d vs n g S b;have fin:∀ {v},v=Value.bool (vs.isEmpty != ng)->_:=λ{v} e=>q _ _ cU.toks v (Le.refl _) (R.push (dQ [] 0)) (by rw [e,Ex S]);injection D4 (s:=pu cU (dQ [] 0)) hA.u ⟨_,aE _ g,rfl,n,rfl⟩ ⟨_,aR _ rfl,rfl,0,rfl⟩with r1 r2;induction ng using eK with
 | false=>exact r1 _ _ _ _ (fin (by rw [MZ]))
 | true=>exact r2 _ _ _ _ (fin (by rw [MY]))
end
end
variable{ED:PySem.Fin->Shared->Prop}
section
open PySem.SeqAt
section
variable{σ σ' cg fN:St}{a b d:Expr}
def oz(env:Env)(pos:Pos):List (Option Expr)->List Expr->List (Sem Value×Sem Value)
 | some k::ks,v::vs=>(eval k env,do let x<-eval v env; standAt pos; pure x)::oz env pos ks vs
 | _,_=>[]
theorem qn:∀ (ks:List (Option Expr)) (vs:List Expr),sX ks=true->(evalEachOpt ks env).zip ((evalEach vs env).map λv=>do let x<-v; standAt pos; pure x)=(oz env pos ks vs).map λp=>(some p.1,p.2)
 | [],vs,_=>rfl
 | some k::ks,[],_=>rfl
 | some k::ks,v::vs,h=>av (List.cons _) (qn ks vs h)
theorem l8:∀ (ks:List (Option Expr)) (vs:List Expr),sX ks=true->ks.length=vs.length->(oz env pos ks vs).length=ks.length
 | [],_,_,_=>rfl
 | some k::ks,v::vs,h,hl=>av (· +1) (l8 ks vs h (Nat.succ.inj hl))
inductive EO(c:bc):List (V×V)->List (Value×Value)->Prop
 | nil:EO c [] []
 | cons {p:V×V} {l:List (V×V)} {w:Value×Value} {t:List (Value×Value)} (a:VR c p.1 w.1) (b:VR c p.2 w.2) (r:EO c l t):EO c (p::l) (w::t)
theorem AE{o:Obj}{es:Array DictEntry}(hc:o.ExactDict)(hd:o.data=.dict es ep):o=b9 es.toList ep:=by obtain ⟨c,d,dt,sl⟩:=o;refine And.elim (λh1 z1=>And.elim (λh2 h3=> ?_) z1) hc;subst h1; subst h2; subst h3; subst hd; rfl
section
variable{N K:Type} [DecidableEq K]{knd:PySem.KeyKind pw gD K}{f:V->Option N}{enc:N->K}(hk:∀ c v n w,f v=some n->VR c v w->knd.is (enc n) w=true)
def xJ(enc:N->K)(ns:List N)(ws:List (Value×Value)):List (K×Value):=(ns.map enc).zip (ws.map (·.2))
inductive Car(knd:PySem.KeyKind pw gD K)(enc:N->K)(ns:List N)(ws:List (Value×Value)):Prop
 | mk (c:Carries knd ws (xJ enc ns ws)) (m:(xJ enc ns ws).map (·.1)=ns.map enc)
include hk
theorem ML{ws:List (Value×Value)}{ns:List N}(p:EO c l ws)(h:jD f (l.map (·.1))=some ns):Car knd enc ns ws:=by
 induction p generalizing ns with
 | nil=>obtain rfl:=ae h; exact ⟨trivial,rfl⟩
 | cons a b r ih=>refine aJ h λn hn h2=> ?_;injection eo h2 with m hm;induction ih hm with | mk x y=>exact ⟨⟨hk _ _ _ _ hn a,rfl,x⟩,av (List.cons _) y⟩
theorem yw {vs:List Expr} {ns:List N} (hA:iZ F.r A) (hR:bQ c F σ s.heap) (n0:ks≠ []) (n:decide (ks.length<=15)&&ks.length==vs.length&&sX ks)
  (g:Gv F (evalPairs (oz F.env pos ks vs)) σ (λc ws=>EO c l ws) cg) (hm:jD f (l.map (·.1))=some ns) (nd:(ns.map enc).Nodup)
  (k:∀ aX h' tk ws es ep,(∀ t,Fin c aX F cg h' s.heap.objs.size t (b9 es ep))->EO aX l ws->PySem.KeysOf knd es.toArray->PySem.Pairs knd es (xJ enc ns ws)->Q (.ref s.heap.objs.size) {s with heap:=h',toks:=tk}):wpAny aO A (eval (.Dict ks vs pos) F.env) Q E s:=by
 have ha:=(aW n).2;have hlen:=l8 (env:=F.env) (pos:=pos) ks vs ha (aD.mp (aW (aW n).1).2);have l0:=hR.gw .bO (b9 [] 0);refine wpAny_Dict_pairs (knd:=knd) (qn ks vs ha) (λe=>n0 (gB.mp (hlen.symm.trans (av List.length e)))) (hlen▸cE (aW (aW n).1).1) (g A _ (pu s (b9 [] 0)) _ _ hA (hR.alloc .bO (b9 [] 0) rfl) λaX aS dh ws cV cy eS=> ?_);have hd:=cV.bO _ _ (aF c s.heap.objs.size .bO (b9 [] 0));injection ML hk eS hm with c1 c2;refine ⟨_,c1,⟨_,#[],0,cy.w.hold _ _ _ hd,⟨rfl,rfl,rfl⟩,rfl,λZ he=>(nomatch he),PySem.Pairs.nil,dR⟩,λh' hD pV=> ?_⟩;rw [merged_nil_of_nodup _ (c2▸nd)] at hD;refine ag hD λo z1=>ag z1 λes z2=>ag z2 λep z3=>And.elim (λho z4=>And.elim (λhc z5=>And.elim (λac2 z6=>And.elim (λhk z7=>And.elim (λhp hn=> ?_) z7) z6) z5) z4) z3;rw [AE hc ac2] at ho;exact k aX h' _ ws es.toList ep (λt=>bQ.fin hR.w (l0.trans cV) hR.w.fresh hd hR.w.j8 cy pV ho t) eS hk hp
end
set_option tactic.hygienic true in
theorem YY{ws:List (Value×Value)}(v:EO c l ws)(h:dG (l.map (·.1))=some is)(P:PySem.Pairs (intKind pw gD) es (xJ id is ws))(k:∀ e∈es,∃ k,(intKind pw gD).is k e.key=true/\e.hash=(intKind pw gD).hash k):iV c l es:=by
 induction v generalizing is es with
 | nil=>obtain rfl:=ae h; cases P; rfl
 | @cons p l w t a b r ih=>
  refine aJ h λn hn h2=> ?_;injection eo h2 with m hm;have hn:p.1=.int n:=fJ hn;cases P with | @cons e Z es Z h1 h2 h3=>
  refine ag (k e aq) λi z1=>And.elim (λk1 k2=> ?_) z1;refine ag (Value.isInt_shape h1) λt ht=> ?_;have hi:i=n:=(intKind pw gD).inj _ _ _ k1 h1;exact ⟨e,es,hn▸ht▸⟨t⟩,h2▸b,k2.trans (hi▸hn▸rfl),ih hm h3 λe he=>k e (aw _ he)⟩
theorem YX{ws:List (Value×Value)}{ns:List Nat}(v:EO c l ws)(h:jD asS (l.map (·.1))=some ns)(p:PySem.Pairs (strKind pw gD) es (xJ jG ns ws)):lO c (ns.map jG) (l.map (·.2)) es:=by
 induction v generalizing ns es with
 | nil=>obtain rfl:=ae h; cases p; rfl
 | cons a b r ih=>
  refine aJ h λn hn h2=> ?_;injection eo h2 with m hm;cases p with | cons h1 h2 h3=>
  refine ag (Value.isStrOf_shape h1) λt ht=> ?_;exact ⟨_,_,_,_,t,ht,h2▸b,ih hm h3⟩
theorem EO.mono(hl:ji c c'){ws:List (Value×Value)}(h:EO c l ws):EO c' l ws:=by
 induction h with
 | nil=>exact .nil
 | cons a b r ih=>exact .cons (VR.mono hl _ _ a) (VR.mono hl _ _ b) ih
theorem Ht(h:dG (l.map (·.1))=some is)(n:is.Nodup):pS l:=by
 have:(l.map (·.1)).Pairwise λa b=>dK a b=false:=by rw [jv h,br];exact n.imp λh=>aI.mpr h
 exact br.mp this
variable{ev eE:gr->Expr->St->Option (V×St)}(H:∀ {e σ p},ev F.k e σ=some p->GX F e σ p){r:V×St}
theorem Cz:∀ {ks:List (Option Expr)} {vs:List Expr} {σ:St} {p:List (V×V)×St},dr.RB bT (ev F.k) ks vs σ=some p->p.1.length<=ks.length
 | some k::ks,v::vs,σ,p,h=>by
  refine aJ h λp hp h2=> ?_;refine aJ h2 λt ht h3=> ?_;refine aJ h3 λu hu h4=> ?_;obtain rfl:=ae h4;exact cC (Cz hu)
 | [],_,_,_,h=>by obtain rfl:=ae h; exact bw _
 | none::_,_,_,_,h=>by obtain rfl:=ae h; exact bw _
 | some _::_,[],_,_,h=>by obtain rfl:=ae h; exact bw _
include H
theorem Az:∀ {ks:List (Option Expr)} {vs:List Expr} {σ:St} {p:List (V×V)×St},dr.RB bT (ev F.k) ks vs σ=some p->Gv F (evalPairs (oz F.env pos ks vs)) σ (λc ws=>EO c p.1 ws) p.2
 | some k::ks,v::vs,σ,p,h=>by
  refine aJ h λp hp h2=> ?_;refine aJ h2 λt ht h3=> ?_;refine aJ h3 λu hu h4=> ?_;obtain rfl:=ae h4;exact λA c s Q E hA hR q=>evalPairs_cons ((H hp).se.go hA hR q λaX cU a l R V q=>aa ((H ht).se.go hA R q λdg ke b dB du fh q=>aa (de (aj ((Az hu).go hA du q λkJ Pu ws kh gI s8 q=>
   q.qe gI (.cons (VR.mono kh _ _ (VR.mono dB _ _ V)) (VR.mono kh _ _ fh) s8))))))
 | [],_,_,_,h=>by obtain rfl:=ae h; exact λA c s Q E hA hR q=>evalPairs_nil (q.qe hR .nil)
 | none::_,_,_,_,h=>by obtain rfl:=ae h; exact λA c s Q E hA hR q=>evalPairs_nil (q.qe hR .nil)
 | some _::_,[],_,_,h=>by obtain rfl:=ae h; exact λA c s Q E hA hR q=>evalPairs_nil (q.qe hR .nil)
theorem adP{vs:List Expr}(n0:ks≠ [])(n:decide (ks.length<=15)&&ks.length==vs.length&&sX ks)(h:dr bT cf ev eE F.k (.df ks vs) σ=some r):GX F (.Dict ks vs pos) σ r:=by
 refine aJ h λp hp h2=> ?_;refine aJ h2 λis hi h3=> ?_;obtain rfl:=ae h3;refine aJ hi λis' hi h4=> ?_;cases eC h4 with | mk nd=>
 have b:p.1.length<=100000:=af (af (Cz hp) (cE (aW (aW n).1).1)) ∅;refine .of (λA c s Q E hA hR q=>yw (knd:=intKind pw gD) (enc:=id) (λc v n w h V=>by cases fJ h; cases V; exact aG n) hA hR n0 n (Az H hp) hi ((List.map_id _).symm▸cE nd) λaX h' tk ws es ep fin V K p=> ?_) rfl;injection fin .gN with l m R;exact q _ h' tk _ l R ⟨_,es,ep,aF ..,YY (V.mono m) hi p (λe he=>K e (List.mem_toArray.mpr he)),Ht hi (cE nd),b⟩
theorem XS{vs:List Expr}(n0:ks≠ [])(n:decide (ks.length<=15)&&ks.length==vs.length&&sX ks)(h:dr bT cf ev eE F.k (.JR ks vs) σ=some r):GX F (.Dict ks vs pos) σ r:=by
 refine aJ h λp hp h2=> ?_;refine aJ h2 λis hi h3=> ?_;obtain rfl:=ae h3;refine aJ hi λis' hi h4=> ?_;cases eC h4 with | mk nd=>
 refine .of (λA c s Q E hA hR q=>yw (knd:=strKind pw gD) (enc:=jG) (λc v n w h V=> ?_) hA hR n0 n (Az H hp) hi (cE nd) λaX h' tk ws es ep fin V K P=> ?_) rfl
 ·induction v using lH with
  | Jw k=>obtain rfl:=ae h; induction V; exact aG _
  | _=>exact nn h
 ·injection fin (.gl aX.N)with l m R;generalize hc:aX.put s.heap.objs.size (.gl aX.N) (b9 es ep)=dg at R m l;have hN:dg.N=aX.N:=hc▸rfl;have hT:dg.hide.T s.heap.objs.size=some (.gl dg.N,b9 es ep):=jd (hN▸hc▸aF ..) rfl;have l2:=bc.vE dg.hide s.heap.objs.size 0;have e1:(dg.hide.oE s.heap.objs.size 0).ga dg.N=s.heap.objs.size:=bc.qQ (c:=dg.hide);refine jP.glob (λc' h' tk a l' R' V=>q c' h' tk a (l.trans l') R' V) (R.up (R.w.hide.oE (a:=s.heap.objs.size) (d:=0) (M:=.sd is (p.1.map (·.2))) ⟨es,ep,e1.symm▸hT,YX (V.mono ((m.trans (m5 dg).gf).trans l2.toji)) hi P,λe he=> ?_,cE nd⟩));refine ag (K e (List.mem_toArray.mpr he)) λy z1=>And.elim (λh1 h2=> ?_) z1;refine ag (Value.isStrOf_shape h1) λt ht=> ?_;exact ⟨y,t,ht,h2⟩
end
end
theorem fw{l:List (Str×α)}{k:α}(hn:(l.map (·.1)).Nodup)(hm:(x,k)∈l):l.lookup x=some k:=by
 induction l with
 | nil=>exact eX hm
 | cons e l ih=>
  have hn:=bj.mp hn;refine (aH.mp hm).elim (λq=> ?_) λhm=> ?_
  ·subst q; exact List.lookup_cons_self
  ·show List.lookup x ((e.1,e.2)::l)=_;rw [List.lookup_cons,aI.mpr λq:x=e.1=>hn.1 (ba.mpr ⟨_,hm,q⟩)];exact ih hn.2 hm
def acj(b:Bool):NameKind:=bif b then .cell else .local
theorem pC{w:Bool}(h:(j4 sc w).vn[i]? =some (x,b)):(x,acj b)∈sc.names:=by
 obtain ⟨p,hp,e⟩:=ba.mp (cH h);obtain ⟨hm,hk⟩:=bR.mp hp;obtain ⟨y,k⟩:=p;cases e;induction k with
 | «local»=>exact hm
 | cell=>exact hm
 | _=>cases hk
theorem wM{w:Bool}(hn:(sc.names.map (·.1)).Nodup):((j4 sc w).vn.map (·.1)).Nodup:=by show((List.map _ _).map _).Nodup;rw [aU];exact hn.sublist (List.filter_sublist.map _)
theorem qw{kindOf:Str->Option NameKind}:∀ {binds:List (Str×Value)} {m:Str->Option Value} {x:Str},x ∉ binds.map (·.1)->bindL kindOf binds m x=m x
 | [],_,_,_=>rfl
 | (n,v)::r,m,x,h=>by
  have h:=not_or.mp λq=>h (aH.mpr q);unfold bindL;rw [qw h.2];by_cases q:kindOf n=some .local
  ·rw [dm q]; exact cb h.1
  ·rw [cb q]
theorem Ep(hn:(binds.map (·.1)).Nodup)(hm:(x,v)∈binds)(hk:kindOf x=some .local):bindL kindOf binds m x=some v:=by
 induction binds generalizing m with
 | nil=>exact eX hm
 | cons e r ih=>have hn:=bj.mp hn;show bindL kindOf ((e.1,e.2)::r) m x=_;unfold bindL;refine (aH.mp hm).elim (λq=> ?_) λhm=>ih hn.2 hm;subst q;rw [qw hn.1,dm hk]; exact dm rfl
theorem qx{kindOf:Str->Option NameKind}:∀ {binds:List (Str×Value)} {m:Str->Option Value} {x:Str},x ∉ binds.map (·.1)->PySem.bindC kindOf binds m x=m x
 | [],_,_,_=>rfl
 | (n,v)::r,m,x,h=>by
  have h:=not_or.mp λq=>h (aH.mpr q);unfold PySem.bindC;rw [qx h.2];by_cases q:kindOf n=some .local
  ·rw [dm q]
  ·rw [cb q]; exact cb h.1
theorem Er(hn:(binds.map (·.1)).Nodup)(hm:(x,v)∈binds)(hk:kindOf x≠some .local):PySem.bindC kindOf binds m x=some v:=by
 induction binds generalizing m with
 | nil=>exact eX hm
 | cons e r ih=>have hn:=bj.mp hn;show PySem.bindC kindOf ((e.1,e.2)::r) m x=_;unfold PySem.bindC;refine (aH.mp hm).elim (λq=> ?_) λhm=>ih hn.2 hm;subst q;rw [qx hn.1,cb hk]; exact dm rfl
def Cp(sc:Scope)(w:Bool)(env:Env)(L:Addr)(cells:List (Str×Addr))(r:Nat):iR:={k:=j4 sc w,env:=env,L:=L,C:=0,cl:=λi=>((j4 sc w).vn[i]?).elim 0 λp=>(cells.lookup p.1).getD 0,r:=r}
def oP(F:iR)(a:Addr)(i:Nat):Bool:=(F.k.vn[i]?).any (·.2)&&F.cl i==a
def wi(F:iR)(a:Addr):Option Nat:=(List.range F.k.vn.length).find? (oP F a)
inductive SQ(F:iR)(a:Addr)(i:Nat):Prop
 | mk (x:Str) (h:F.k.vn[i]? =some (x,true)) (e:F.cl i=a)
theorem yI(h:wi F a=some i):SQ F a i:=by
 have h0:oP F a i=true:=List.find?_some h;obtain ⟨h1,h2⟩:=aW h0;induction q:F.k.vn[i]? using nN with
 | none=>rw [q] at h1; exact (Bool.noConfusion h1)
 | some p=>rw [q] at h1; exact ⟨p.1,by rw [q,<-show p.2=true from h1],aD.mp h2⟩
theorem Eh(h:F.k.vn[i]? =some (x,true)):∃ j,wi F (F.cl i)=some j:=by
 induction q:wi F (F.cl i)using nN with
 | some j=>exact ⟨j,rfl⟩
 | none=>exact absurd (show oP F (F.cl i) i=true by unfold oP; rw [h,aG]; rfl) (List.find?_eq_none.mp q i (ft.mpr (eV h)))
def ub(F:iR)(a:Addr):Option gG:=bif a==F.L then some .loc else(wi F a).map .cell
def bc.enter(c:bc)(n:Nat)(h':Heap)(F:iR)(ws:List Value):bc:=
 {c with vals:=λi=>ws[i]?,T:=λa=>bif Nat.blt a n then c.T a else(ub F a).bind λt=>(h'.get? a).map λo=>(t,o)}
section
variable{o:Obj}
theorem p7(ha:a<n):(c.enter n h' F ws).T a=c.T a:=by show(bif Nat.blt a n then _ else _)=_;rw [AY ha]; rfl
theorem sP{a:Nat}(h:n<=a):Nat.blt a n=false:=GS λq=>Nat.not_lt.mpr h (sO q)
theorem uM(ha:n<=a)(e:ub F a=some t)(g:h'.get? a=some o):(c.enter n h' F ws).T a=some (t,o):=by show(bif Nat.blt a n then _ else(ub F a).bind _)=_;rw [sP ha,e,cond_false,Option.bind_some,g]; rfl
inductive MV(c:bc)(n:Nat)(h':Heap)(a:Addr)(t:gG)(o:Obj):Prop
 | old (l:a<n) (e:c.T a=some (t,o))
 | new (l:n<=a) (e:h'.get? a=some o)
theorem Il(e:(c.enter n h' F ws).T a=some (t,o)):MV c n h' a t o:=by
 rcases Nat.lt_or_ge a n with l | l
 ·exact .old l ((p7 l).symm.trans e)
 ·have e:(bif Nat.blt a n then _ else(ub F a).bind λt=>(h'.get? a).map λo=>(t,o))=some (t,o):=e;rw [sP l] at e;injection eY e with t' _ e2;induction q:h'.get? a using nN with
  | none=>rw [q] at e2; exact (mK e2)
  | some o'=>rw [q] at e2; cases e2; exact .new l q
inductive Ent(c:bc)(F:iR)(σ:St)(h':Heap):Prop
 | mk (c':bc) (l:Lw c c') (R:bQ c' F σ h')
theorem uL {w:Bool} {r:Nat}
  (R:dp c W h) (hn:(sc.names.map (·.1)).Nodup)
  (hL:L=h.objs.size) (keep:∀ b o,h.get? b=some o->h'.get? b=some o) (hk:env.kindOf=λx=>sc.names.lookup x)
  (ns:h'.Ns L (bindL env.kindOf binds λZ=>none)) (hc:∀ n a,cells.lookup n=some a->h'.IsCell a (PySem.bindC env.kindOf binds (λZ=>none) n)) (ap:cells.Pairwise λx y=>x.2≠y.2) (ab:∀ n a,(n,a)∈cells->L<a)
  (hU:∀ x:Str,sc.names.lookup x=some .cell->(cells.lookup x).isSome=true)
  (V:dw c as ws) (hle:as.length<=(j4 sc w).vn.length) (hb:binds=(((j4 sc w).vn.take as.length).map (·.1)).zip ws):
  Ent c (Cp sc w env L cells r) ⟨as.map (λa=>some (LV.v a))++List.replicate ((j4 sc w).vn.length-as.length) none,[],W⟩ h':=by
 have WN:=wM (w:=w) hn;generalize hF:Cp sc w env L cells r=F;have WO:F.k.vn=(j4 sc w).vn:=hF▸rfl;have hFL:F.L=L:=hF▸rfl;have Oo:∀ i x,(j4 sc w).vn[i]? =some (x,true)->∃ a,cells.lookup x=some a/\F.cl i=a/\L<a:=by intro i x hi;obtain ⟨a,ha⟩:=f6.mp (hU x (fw hn (pC hi)));refine ⟨a,ha,?_,ab x a (mem_of_lookup ha)⟩;rw [<-hF];show((j4 sc w).vn[i]?).elim 0 _=a;rw [hi]; show(cells.lookup x).getD 0=a; rw [ha]; rfl
 have MN:∀ a p,c.T a=some p->(c.enter h.objs.size h' F ws).T a=some p:=λa p e=>(p7 (bt (R.hold a p.1 p.2 e))).trans e;have x:Ch c (c.enter h.objs.size h' F ws) (λZ=>False):=⟨λa t o e Z=>MN a _ e,⟨λa o e=>MN a _ e,aA _,λZ Z=>rfl,λZ Z=>rfl⟩⟩
 have Hi:=aY V;obtain ⟨oL,es,ep,Z2,hdL,hkL,hfL⟩:=ns;have atL:(c.enter h.objs.size h' F ws).T F.L=some (.loc,oL):=uM (by rw [hFL,hL]; exact aA _) (by unfold ub; rw [aG]; rfl) (hFL▸Z2);have bx:(binds.map (·.1)).Nodup:=by rw [hb,List.map_fst_zip (by rw [ao,List.length_take,<-Hi]; exact Nat.min_le_left ..)];exact WN.sublist ((List.take_sublist _ _).map _)
 have YI:∀ (i:Nat) (y:Str) (b:Bool) (v:Value),(j4 sc w).vn[i]? =some (y,b)->ws[i]? =some v->(y,v)∈binds:=by intro i y b v h1 h2;rw [hb];refine cH (i:=i) (List.getElem?_zip_eq_some.mpr ⟨?_,h2⟩);rw [bB,List.getElem?_take_of_lt (Hi▸eV h2),h1]; rfl
 refine ⟨_,x.lw id,⟨⟨⟨R.low.up.casesOn λa o ha e=>⟨a,o,ha,MN a _ e⟩,λt o e pZ=> ?_⟩,λa t o e=>(Il e).casesOn
   (λZ e=>keep a o (R.hold a t o e))
   (λZ e=>e),λa o e=>MN a _ (R.base a o e),R.len,λn M e=>(R.jx n M e).ch x (R.lt e) id id⟩,⟨?_,⟨oL,_,atL,⟨es,ep,hdL,hkL,hfL⟩,?_⟩,?_,?_⟩,⟨hF▸rfl,λgx=>absurd (hF▸rfl) gx⟩⟩⟩
 ·injection R.low.up with b ob DP eb;exact R.low.sys t o ((p7 (di DP (bt (R.hold _ _ _ eb)))).symm.trans e) pZ
 ·rw [WO];show(as.map (λa=>some (LV.v a))++List.replicate _ none).length=_;rw [aQ,ao,fM,gK hle]
 ·intro i y v hi hv;rw [WO] at hi;exact Ep bx (YI i y false v hi hv) (hk▸fw hn (pC hi))
 ·intro i y hi;have Z6:(j4 sc w).vn[i]? =some (y,true):=WO▸hi;obtain ⟨a,h1,h2,h3⟩:=Oo i y Z6;obtain ⟨o,ho,hd⟩:=hc y a h1;obtain ⟨j,hj⟩:=Eh hi;injection yI hj with z hz1 hz2;obtain ⟨a',g1,g2,g3⟩:=Oo j z (WO▸hz1);have haa:a'=a:=by rw [<-g2,hz2,h2]
  have hyz:z=y:=name_of_addr ap (mem_of_lookup g1) (haa▸mem_of_lookup h1);have zb:j=i:=by
   have e1:((j4 sc w).vn.map (·.1))[j]? =some z:=by rw [bB,<-WO,hz1]; rfl
   have e2:((j4 sc w).vn.map (·.1))[i]? =some y:=by rw [bB,Z6]; rfl
   exact (List.getElem?_inj (eV e1) WN).mp (by rw [e1,e2,hyz])
  refine ⟨o,_,uM (by rw [h2,<-hL]; exact bV h3) ?_ (h2.symm▸ho),hd,λv hv=>Er bx (YI i y true v Z6 hv) ?_⟩
  ·unfold ub;rw [hj,zb,h2,hFL,aI.mpr (dM h3)]; rfl
  ·rw [hk]; show sc.names.lookup y≠_; rw [fw hn (pC Z6)]; exact λq=>nomatch q
 ·intro i lv hl;by_cases hi:i<as.length
  ·have hl:(as.map (λa=>some (LV.v a))++List.replicate _ none)[i]? =some (some lv):=hl;rw [List.getElem?_append_left (by rw [ao]; exact hi),bB,aP hi] at hl;cases hl;induction nh V (aP hi)with | mk v v1 v2=>exact ⟨v,v1,VR.mono x.gf _ _ v2⟩
  ·have hl:(as.map (λa=>some (LV.v a))++List.replicate _ none)[i]? =some (some lv):=hl;rw [List.getElem?_append_right (by rw [ao]; exact Nat.not_lt.mp hi)] at hl;exact (SW ((List.mem_replicate.mp (cH hl)).2))
end
section
set_option backward.match.sparseCases true
def bc.i0(c:bc)(n:Nat):bc:={c with N:=n}
theorem Fg{l:List V}(h:lP n l=true):∀ x∈l,tv n x=true:=by
 induction l with
 | nil=>exact λZ m=>eX m
 | cons x r ih=>exact ah.mpr ⟨(aW h).1,ih (aW h).2⟩
theorem Fh(h:tu n l=true):∀ x∈l,(tv n x.1&&tv n x.2)=true:=by
 induction l with
 | nil=>exact λZ m=>eX m
 | cons x r ih=>exact ah.mpr ⟨(aW h).1,ih (aW h).2⟩
theorem VR.i0(x:V)(q:tv n x=true):∀ v,VR c x v->VR (c.i0 n) x v:=VR.gen (c:=c) (c':=c.i0 n) (n:=n) (b:=false) (λZ Z h=>h) (λm q v h=>by induction h with | mk h=>exact ⟨sO (b:=n) q⟩) x q
theorem dw.i0(xs:List V)(vs:List Value)(q:lP n xs=true):dw c xs vs->dw (c.i0 n) xs vs:=qY (λx m=>VR.i0 x (Fg q x m)) vs
theorem iV.i0(xs:List (V×V))(es:List DictEntry)(q:tu n xs=true):iV c xs es->iV (c.i0 n) xs es:=wA (λx m=>⟨VR.i0 _ (aW (Fh q x m)).1,VR.i0 _ (aW (Fh q x m)).2⟩) es
theorem lO.i0(xs:List V)(ns:List Str)(es:List DictEntry)(q:lP n xs=true):lO c ns xs es->lO (c.i0 n) ns xs es:=wz (λx m=>VR.i0 x (Fg q x m)) ns es
theorem MR.i0{k:Nat}(q:nk n M=true)(h:MR c k M):MR (c.i0 n) k M:=by
 induction M using aV.casesOn with
 | inst Z Z=>induction h with | mk es e a b r=>exact ⟨es,e,a,b,lO.i0 _ _ _ q r⟩
 | list Z=>induction h with | mk vs e a r b=>exact ⟨vs,e,a,dw.i0 _ _ q r,b⟩
 | dict Z=>induction h with | mk es e a r k b=>exact ⟨es,e,a,iV.i0 _ _ q r,k,b⟩
 | sd Z Z=>induction h with | mk es e a r k b=>exact ⟨es,e,a,lO.i0 _ _ _ q r,k,b⟩
 | dead=>exact trivial
theorem dp.i0(R:dp c W h)(hn:n<=W.length)(q:(W.take n).all (nk n)=true):dp (c.i0 n) (W.take n) h:=
 ⟨⟨R.low.up.casesOn λb o hb e=>⟨b,o,hb,e⟩,R.low.sys⟩,R.hold,R.base,(List.length_take ..).trans (Nat.min_eq_left hn),λk M e=>by
  have hk:k<n:=ax (eV e) (by rw [List.length_take]; exact Nat.min_le_left ..);exact MR.i0 (aK.mp q M (cH e)) (R.jx k M ((List.getElem?_take_of_lt hk).symm.trans e))⟩
inductive Sr(c:bc)(V:V):Flow->Prop
 | mk (v:Value) (h:VR c V v):Sr c V (.ret v)
def Zr(c:bc):Out->Flow->Prop
 | .ez,fl=>fl=.next
 | .ret V,fl=>Sr c V fl
abbrev SX(F:iR)(st:Stmt)(σ:St)(p:Out×St):Prop:=Gs F (exec st F.env) σ (λc fl=>Zr c p.1 fl) p.2
abbrev OL(F:iR)(st:List Stmt)(σ:St)(p:Out×St):Prop:=Gs F (execs st F.env) σ (λc fl=>Zr c p.1 fl) p.2
structure j2(r:Nat)(A:Around):Prop where
 depth:A.depth+10*(r+1)<recursionLimit+5
 units:A.units+100*(r+1)<cLine+50
 handled:A.handled=none
theorem iZ.two{r:Nat}(h:iZ r A):j2 r A:=⟨Nat.lt_add_right 5 h.depth,Nat.lt_add_right 50 h.units,h.handled⟩
theorem j2.deeper{r:Nat}(h:j2 (r+1) A)(env:Env):iZ r (A.deeper env):=
 ⟨by show A.depth+1+10*(r+1)<recursionLimit; have:=h.depth; lia,by show A.units+3+100*(r+1)<cLine; have:=h.units; lia,h.handled⟩
theorem j2.room{r:Nat}(h:j2 (r+1) A):A.depth<recursionLimit:=by have:=h.depth; lia
inductive MW(f:Fn)(s:Shared)(fd:FuncData)(vs:List Value):Prop
 | mk (tail:List Value) (t:∀ c,dw c (f.tO.drop (f.tO.length-(f.np-vs.length))) tail) (b:BindsTo s fd ⟨vs,[]⟩ (((f.k.vn.take f.np).map (·.1)).zip (vs++tail)))
structure px(f:Fn)(o:Obj)(fd:FuncData):Prop where
 data:o.data=.func fd
 Ck:fd.body=.stmts f.body
 closure:fd.closure=[]
 globals:fd.globals=mainGlobals
 builtins:fd.builtins=builtinsNs
 kind:fd.scope.kind=.function
 co:fd.scope.isCoroutine=false
 gen:fd.scope.isGenerator=false
 code:codeIn cT fd.code fd.qualname=true
 ck:f.k=j4 fd.scope f.k.jx
 nodup:(fd.scope.names.map (·.1)).Nodup
 np:f.np<=f.k.vn.length
 binds:∀ (s:Shared) (vs:List Value),cT.In s.heap->vs.length<=f.np->f.np-vs.length<=f.tO.length->MW f s fd vs
inductive SK(kf:Nat)(f:Fn):Prop
 | mk (o:Obj) (fd:FuncData) (h:cT.lookup (pB kf)=some o) (X:px f o fd)
abbrev C3(c:bc)(s:Shared)(p:V×List aV)(R:Result->Shared->Prop):Prop:=∀ c' h' tk a,Lw c c'->dp c' p.2 h'->VR c' p.1 a->R (.ok (.ret a)) {s with heap:=h',toks:=tk}
def fu(r:Nat)(cf:CF):Prop:=
 ∀ (A:Around) (c:bc) (s:Shared) (W:List aV) (kf:Nat) (as:List V) (vs:List Value) (p:V×List aV) (R:Result->Shared->Prop),kf≠76->j2 r A->dp c W s.heap->cf kf as W=some p->dw c as vs->C3 c s p R->codeAny aO A (.call (.ref (pB kf)) ⟨vs,[]⟩) R s
def wF(r:Nat)(cf:CF):Prop:=∀ (F:iR) (σ:St) (b:List Stmt) (p:Out×St),F.r=r->cM F->F.k.cmp=false->yo cf F.k sN b σ=some p->OL F b σ p
theorem yq {w:Bool} {r:Nat} (hn:(sc.names.map (·.1)).Nodup) (e1:env.scope=sc) (e2:env.locals=L) (e3:env.cells=cells) (e4:env.globals=mainGlobals) (e5:env.builtins=builtinsNs) (hk:sc.kind=.function)
  (hU:∀ x:Str,sc.names.lookup x=some .cell->(cells.lookup x).isSome=true):cM (Cp sc w env L cells r)where
 kind:=(av Scope.kind e1).trans hk
 glob:=e4
 R8:=e5
 var:=λi x h Z=>⟨by show env.scope.names.lookup x=_; rw [e1]; exact fw hn (pC h),e2⟩
 cell:=λi x h Z=>by
  have hm:=fw hn (pC h);refine ⟨by show env.scope.names.lookup x=_; rw [e1]; exact hm,?_⟩;obtain ⟨a,ha⟩:=f6.mp (hU x hm);have h:(j4 sc w).vn[i]? =some (x,true):=h;show env.cells.lookup x=some (((j4 sc w).vn[i]?).elim 0 _);rw [e3,ha,h]; show _=some ((cells.lookup x).getD 0); rw [ha]; rfl
 own:=λj x h=>(mK h)
 gl:=λx h=>by show env.scope.names.lookup x=_; rw [e1]; exact h
 nd:=wM hn
 ndc:=dR
 YL:=λZ=>rfl
 scc:=λZ x h=>List.mem_iff_getElem?.mp (ba.mpr ⟨(x,.cell),bR.mpr ⟨mem_of_lookup h,rfl⟩,rfl⟩)
theorem H6{t:Bool}(h:bT.gd b=some t):b=true:=match b,h with
 | true,_=>rfl
theorem dp.ie(r:dp c W h)(x:cT.In eI):cT.In h:=λa o e=>r.hold a .bO o (r.base a o (x a o e))
structure aeS(f:Fn)(sc:Scope)(m:Nat)(L:Addr)(F:iR):Prop where
 r:F.r=m
 ek:cM F
 k:F.k=f.k
 cmp:F.k.cmp=false
 sc:F.env.scope=sc
 fr:F.env.frame=some L
 L:F.L=L
theorem CB (ko:lT) {m:Nat} {f:Fn} {o:Obj} {all:List V}
  (ho:cT.lookup a=some o) (X:px f o fd) (hA:j2 (m+1) A) (hR:dp c W s.heap) (hlen:all.length=f.np) (lM:BindsTo s fd args (((f.k.vn.take f.np).map (·.1)).zip wall)) (HR:dw c all wall)
  (k:∀ F c1 h' lX,aeS f fd.scope m s.heap.objs.size F->Lw c c1->bQ c1 F ⟨all.map (λa=>some (LV.v a))++List.replicate (f.k.vn.length-f.np) none,[],W⟩ h'->
   wpAny aO (A.deeper F.env) (execs f.body F.env) (λfl s'=>R (.ok (.ret (match fl with | .ret v=>v | _=>.none))) s')
    (λe s'=>wpAny aO (A.deeper F.env) (leaving F.env e) (λZ Gb=>R (.error e) Gb) (λe' Gb=>R (.error e') Gb) s') {s with heap:=h',toks:=lX}):codeAny aO A (.call (.ref a) args) R s:=by
 have ie:=hR.ie ko.ie;have ck:=X.ck;have np:=X.np;generalize f.k.jx=w at ck;rw [ck] at k lM np;refine codeAny_call_function hA.room (ie _ _ ho) X.data X.co X.gen X.Ck (codeRec_of ie X.code) (lM _ _ _ _ ?_);rw [X.closure];have hU:∀ (n:Nat) (x:Str),fd.scope.names.lookup x=some .cell->((cellsFrom n fd.scope.names []).lookup x).isSome=true:=λn x hx=>cellsFrom_some _ _ _ (.inl hx);refine wpAny_newFunctionEnv_cells X.kind (λx hx=> ?_) λenv he s' xx=> ?_
 ·obtain ⟨⟨y,b⟩,hy,e⟩:=ba.mp (List.of_mem_zip (a:=x.1) (b:=x.2) hx).1;obtain ⟨i,hi⟩:=List.mem_iff_getElem?.mp (List.mem_of_mem_take hy);have hm:=fw X.nodup (pC hi);have e:y=x.1:=e;rw [e] at hm;induction b using eK with
  | false=>exact .inl hm
  | true=>exact .inr ⟨hm,hU _ _ hm⟩
 ·obtain ⟨h',lX,rfl,keep⟩:=xx.done;refine ⟨(ko.Nv.keeps hR.old).keeps keep,codeAny_func ?_⟩;have ek:env.kindOf=λx=>fd.scope.names.lookup x:=by rw [he]; rfl
  have el:env.locals=s.heap.objs.size:=by rw [he]; rfl
  have ec:∀ x:Str,fd.scope.names.lookup x=some .cell->(env.cells.lookup x).isSome=true:=by rw [he]; exact hU _
  rw [<-hlen] at k;injection uL (w:=w) (r:=m) (env:=env) (L:=env.locals) (cells:=env.cells) hR X.nodup el keep ek xx.toInCall.ns xx.cell xx.apart xx.above ec HR (hlen▸np) (by rw [hlen])with c1 l1 R1;exact k _ c1 h' lX ⟨rfl,yq (w:=w) (r:=m) (env:=env) (cells:=env.cells) (L:=env.locals) X.nodup (by rw [he]; rfl) rfl rfl (by rw [he]; exact X.globals) (by rw [he]; exact X.builtins) X.kind ec,ck.symm,rfl,by rw [he]; rfl,by rw [he]; rfl,el⟩ l1 R1
theorem sI (ko:lT) {m:Nat} (hB:wF m cf) {f:Fn} {o:Obj} {all:List V} {u:Out×St} {p:V×List aV}
  (ho:cT.lookup (pB kf)=some o) (X:px f o fd) (hA:j2 (m+1) A) (hR:dp c W s.heap) (hlen:all.length=f.np) (lM:BindsTo s fd args (((f.k.vn.take f.np).map (·.1)).zip wall)) (HR:dw c all wall)
  (hx:yo cf f.k sN f.body ⟨all.map (λa=>some (LV.v a))++List.replicate (f.k.vn.length-f.np) none,[],W⟩=some u) (hl:vM bT kf W.length (KP u.1) u.2.W=some p) (q:C3 c s p R):codeAny aO A (.call (.ref (pB kf)) args) R s:=by
 refine CB ko ho X hA hR hlen lM HR λF c1 h' lX Y l1 R1=> ?_;refine hB F _ f.body u Y.r Y.ek Y.cmp (Y.k▸hx) (A.deeper F.env) c1 {s with heap:=h',toks:=lX} _ _ (Y.r▸hA.deeper F.env) R1 λc2 h2 Pn fl l2 R2 F2=> ?_;have l:=l1.trans l2;have main:∀ w,VR c2 (KP u.1) w->R (.ok (.ret w)) {s with heap:=h2,toks:=Pn}:=by
  intro w hw2;unfold vM at hl;induction hs:xP kf using eK with
  | true=>rw [hs] at hl;injection eY hl with t ht hl;have hq:=aW (H6 ht);obtain rfl:=ae hl;exact q (c2.i0 W.length) _ _ w ⟨⟨l.gN,bW hR.len.symm,l.ga,l.om⟩,l.bO⟩ (R2.w.i0 (by rw [R2.w.len,hR.len]; exact l.N) hq.2) (VR.i0 _ hq.1 _ hw2)
  | false=>rw [hs] at hl; obtain rfl:=ae hl; exact q c2 _ _ w l R2.w hw2
 obtain ⟨out,ES⟩:=u;induction out using Mine.Out.casesOn with
 | ez=>subst F2; exact main _ rfl
 | ret x=>induction F2 with | mk w hw=>exact main w hw
theorem AU(ko:lT){m:Nat}(hB:wF m (ai m))(hF:∀ k f,fn k=some f->k≠76->SK k f):fu (m+1) (ai (m+1)):=λA c s W kf as vs p R hk hA hR h V q=>by
 injection eY h with f hf h2;injection eY h2 with σ vP h3;injection eY h3 with u hu h4;injection hF kf f hf hk with o fd ho X;have vP:(bif(as++f.tO.drop (f.tO.length-(f.np-as.length))).length==f.np then some _ else none)=some σ:=vP;induction e:(as++f.tO.drop (f.tO.length-(f.np-as.length))).length==f.np using eK with
 | false=>rw [e] at vP; exact nn vP
 | true=>
  rw [e] at vP;obtain rfl:=ae vP;have hl:=aD.mp e;have hv:=aY V;have e2:=hl;rw [aQ,List.length_drop] at e2;have e3:=aB as.length (f.tO.length-(f.tO.length-(f.np-as.length)));have e4:f.np-as.length<=f.tO.length:=by
   have:=Nat.sub_le f.tO.length (f.tO.length-(f.np-as.length))
   rwa [<-Nat.add_sub_cancel_left (n:=as.length) (m:=f.tO.length-_),e2] at this
  rw [e2,hv] at e3;rw [hv] at e4;injection X.binds s vs (hR.ie ko.ie) e3 e4 with tail ht hb;exact sI ko hB ho X hA hR hl hb (eZ V (by rw [hv]; exact ht _)) hu h4 q
theorem fu.fr {r:Nat} (hc:fu r cf) {σ:St} {p:V×List aV} (JD:kf≠76) (hA:j2 r A) (hR:bQ c F σ s.heap) (hv:cf kf as σ.W=some p) (V:dw c as vs)
  (q:∀ c' h' tk a,Le c c'->bQ c' F {σ with W:=p.2} h'->VR c' p.1 a->R (.ok (.ret a)) {s with heap:=h',toks:=tk}):codeAny aO A (.call (.ref (pB kf)) ⟨vs,[]⟩) R s:=
 hc A c.hide s σ.W kf as vs p R JD hA hR.w.hide hv (dw.mono (m5 c).gf _ _ V) λc' h' tk a l R0 V'=>q _ h' tk a (lG l) (hR.back l R0) (VR.mono (pe l) _ _ V')
end
section
variable{σ σ' cg fN:St}{a b d:Expr}
inductive Su(env:Env)(es:List Expr):Prop
 | mk (h:(starEach es env).any (·.1)=false) (l:(starEach es env).length=es.length)
theorem kS:∀ {es:List Expr},es.all notStar=true->Su env es
 | [],_=>⟨rfl,rfl⟩
 | e::es,h=>(kS (aW h).2).casesOn
  λa b=>⟨by rw [oq (aW h).1]; exact a,by rw [oq (aW h).1]; exact av (· +1) b⟩
theorem sT{ts:List (Bool×Sem Value)}(h:ts.any (·.1)=false):(backTo pos ts).any (·.1)=false:=by unfold backTo;rw [List.any_map];exact h
abbrev Zf(h:Heap)(f:Value):Prop:=∃ k,(k=Keeper.frame\/k=Keeper.machine\/k=Keeper.boundFrame)/\Looks aO h (keeperOf f) k
theorem eB {Pp:Heap->Prop} {f:Value} {first:List Value} {es:List Expr} (hs:es.all notStar=true) (hk:∀ h,Pp h->Zf h f)
  (h:wpAny aO A (spliced (backTo pos (starEach es env))) (λws cU=>Pp cU.heap/\wpAny aO A (call f (first++ws)) Q E cU) E s):
  wpAny aO A (callWith p f first (backTo pos (starEach es env)) []) Q E s:=by
 have ha:(backTo pos (starEach es env)).any (·.1)=false:=sT ((kS (env:=env) hs).casesOn λa Z=>a);refine callWith_of (P:=Pp) (by rw [ha]; rfl) hk ?_;induction es using lh with
 | nil=>unfold evalArgs;show wpAny aO A (spliced []>>=_) _ E s;exact aa (wpAny_mono h (λvs s' h'=>aa (aj (bq (aa (aj (aa (aj (aj h')))))))) λZ Z x=>x)
 | cons e rest=>rw [oq (aW hs).1] at h ⊢;exact evalArgs_plain h
def Hy:Value->Bool
 | .ref _=>true
 | _=>false
theorem gm{f:Value}(hf:Hy f=false)(h:Heap):Zf h f:=by
 refine ⟨.machine,.inr (.inl rfl),?_⟩;induction f using PySem.Value.casesOn with
 | ref=>exact (Bool.noConfusion hf)
 | _=>exact Looks.now
theorem ea{id:Str}{es:List Expr}:eval (.Call (.Name id p) es [] pos) env=(do callWith pos (<-eval (.Name id p) env) [] (backTo pos (starEach es env)) []):=rfl
theorem mM(ek:cM F)(hR:bQ c F σ s.heap){mg:Str->Option Value}(hg:fR F.k x=true)(hd:fQ x=true)(h1:eI.Ns mainGlobals mg)(h2:mg x=some v)(q:Q v s):
  wpAny aO A (eval (.Name x p) F.env) Q E s:=
 Name_function_global ek.kind (ek.gl _ (rT hg)) (loadGlobal_global (ek.glob▸vz hR h1) h2 q) (jm hd)
theorem nE(ek:cM F)(hR:bQ c F σ s.heap){mg mb:Str->Option Value}(hg:fR F.k x=true)(hd:fQ x=true)(h1:eI.Ns mainGlobals mg)(h0:eI.Ns builtinsNs mb)(h2:yY mg mb x v)(q:Q v s):
  wpAny aO A (eval (.Name x p) F.env) Q E s:=
 Name_function_global ek.kind (ek.gl _ (rT hg)) (loadGlobal_builtin (ek.glob▸vz hR h1) h2.g (ek.R8▸vz hR h0) h2.b q) (jm hd)
theorem uv{α:Type}{x:Str}{f:Str->Bool}:∀ {l:List (Str×α)} {a:α},l.all (λp=>f p.1)=true->gH x l=some a->f x=true
 | p::r,a,h,e=>by
  rw [BS] at e;induction q:Fast.sEq p.1 x using eK with
  | true=>exact gb.mp q▸(aW h).1
  | false=>rw [q] at e; exact uv (aW h).2 e
theorem lB(h:gH x qI=some n):fQ x=true:=uv (f:=fQ) (by decide+kernel) h
variable{ev eE:gr->Expr->St->Option (V×St)}(H:∀ {e σ p},ev F.k e σ=some p->GX F e σ p){r:V×St}
include H
theorem Rk (ko:lT) (hc:fu F.r cf) (ek:cM F) {es:List Expr} {as:List V×St} (hg:fR F.k x=true) (hn:gH x qI=some n) (h1:47<=n) (h2:n<=75) (hs:es.all notStar=true)
  (ha:su bT (ev F.k) es σ=some as) (hv:uU bT cf n as.1 as.2=some r):GX F (.Call (.Name x p) es [] pos) σ r:=by
 refine aJ hv λu hu h3=> ?_;obtain rfl:=ae h3;refine .of (λA c s Q E hA hR q=> ?_) rfl;injection ko.glob with mg mb g1 g2 _ g4 _ _ _;have hm:mg x=some (.ref (pB n)):=by
  induction g4 x n hn with
  | blt _ h=>exact absurd (ax h ∅) (Nat.not_lt.mpr h1)
  | fn _ _ _ e=>exact e
  | cls k=>exact absurd (af (aB 90 k) h2) ∅
 rw [ea];refine aa (mM ek hR hg (lB hn) g1 hm (eB (Pp:=cT.In) hs (keeps_K (ko.uy n (af ∅ h1) h2)) ((qF H hs ha).go hA hR q λaX cU ws cV cy eS q=>⟨cy.ie ko.ie,wpAny_call ?_⟩)));exact hc.fr (aL (fk h2)) hA.two cy hu eS λc' h' tk a l' R' V'=>q c' h' tk a l' R' V'
end
def B4:gG->Nat
 | .gN=>0
 | .bO=>1
 | .own _=>2
 | .loc=>3
 | .cell _=>4
 | .nq=>5
 | .gl _=>6
 | .gd _=>6
section
variable{σ σ' cg fN:St}
inductive Sq(c:bc)(F:iR)(σ:St)(h':Heap)(n:Nat)(M':aV):Prop
 | mk (c':bc) (l:Le c c') (R:bQ c' F {σ with W:=σ.W.set n M'} h')
def tA(g:Bool)(n:Nat):gG:=bif g then .gd n else .gl n
theorem Pq(g:Bool)(n:Nat):B4 (tA g n)=6:=by induction g <;> rfl
theorem J8(g:Bool)(n:Nat):BK (tA g n)=false:=by induction g <;> rfl
theorem bQ.setG (R:bQ c F σ h) {M':aV} {g:Bool} {o:Obj} (hM:σ.W[n]? =some M) (ha:c.T a=some (tA g n,o)) (hc:o'.cls=o.cls) (hs:Heap.SameBut a h h') (ho:h'.get? a=some o')
  (m:ji c (c.put a (tA g n) o')->MR (c.put a (tA g n) o') n M'):Sq c F σ h' n M':=by
 have ne:∀ {u},Nat.beq (B4 u) 6=false->u≠tA g n:=λh e=>Nat.ne_of_beq_eq_false h (e▸Pq g n);have nj:∀ {j},j≠n->gG.gl j≠tA g n/\gG.gd j≠tA g n:=λhj=>by induction g <;> exact ⟨λq=>by cases q <;> exact hj rfl,λq=>by cases q <;> exact hj rfl⟩
 have x:Ch c (c.put a (tA g n) o') (λu=>u=tA g n):=Ch.put ha (ne rfl).symm;refine ⟨_,x.le (ne rfl) rfl,⟨⟨R.w.low.vy ha (ne rfl).symm (.inr ⟨J8 g n,hc⟩),my R.w.hold hs ho,λb q e=>(x.le (ne rfl) rfl).bO _ _ (R.w.base b q e),(iI ..).trans R.w.len,λj N e=> ?_⟩,
  R.loc.ch x rfl (ne rfl) (λi=>ne rfl) (λi=>ne rfl),R.cv.ch x (ne rfl)⟩⟩
 rcases Dg e with⟨rfl,rfl,_⟩ | ⟨hj,e⟩
 ·exact m x.gf
 ·exact (R.w.jx j N e).ch x (R.w.lt e) (nj hj).1 (nj hj).2
theorem Jj{l:List V}{ns:List Str}(h:lO c ns l es)(hn:ns.Nodup)(hy:ns[l.length]? =some y):(es.findIdx? λe=>e.key.isStr y)=none:=by
 induction l generalizing ns es with
 | nil=>subst h; rfl
 | cons z l ih=>
  injection h with d t y' m tk hk V rest;have hy:m[l.length]? =some y:=hy;have hb:d.key.isStr y=false:=by rw [hk]; exact aI.mpr λq=>(bj.mp hn).1 (q▸cH hy)
  rw [dq,ih rest (bj.mp hn).2 hy,hb]; rfl
theorem Ji{l:List V}{ns:List Str}{v:V}{d:DictEntry}{tk:Tok}(h:lO c ns l es)(hy:ns[l.length]? =some y)(hk:d.key=.str y tk)(V:VR c v d.val):lO c ns (l++ [v]) (es++ [d]):=by
 induction l generalizing ns es with
 | nil=>
  subst h;induction ns using lh with
  | nil=>exact nn hy
  | cons y' m=>obtain rfl:=ae hy; exact ⟨d,[],_,m,tk,hk,V,rfl⟩
 | cons z l ih=>induction h with | mk d' t y' m lX QS V' rest=>exact ⟨d',t++ [d],y',m,lX,QS,V',ih rest hy⟩
theorem CV{l:List V}{ns:List Str}{v:V}{x:Value}(h:lO c ns l es)(a:VR c v x):lO c ns (l.set j v) (es.modify j λe=>{e with val:=x}):=by
 induction l generalizing ns es j with
 | nil=>subst h; induction j using oF <;> rfl
 | cons z l ih=>
  injection h with d t y m tk hk V rest;induction j using oF with
  | zero=>exact ⟨_,_,y,m,tk,hk,a,rest⟩
  | succ j=>exact ⟨d,_,y,m,tk,hk,V,ih rest⟩
structure aeT(ns:List Str)(l:List V)(es:List DictEntry):Prop where
 e:l.length=es.length
 n:l.length<=ns.length
 r:∀ e∈es,e.refKey=false
theorem qZ:∀ {l:List V} {ns:List Str} {es:List DictEntry},lO c ns l es->aeT ns l es
 | [],_,_,rfl=>⟨rfl,bw _,λZ h=>(eX h)⟩
 | z::l,_,_,⟨d,t,y,m,tk,hk,V,rest⟩=>(qZ rest).casesOn
  λa b r=>⟨av (· +1) a,cC b,ah.mpr ⟨by unfold DictEntry.refKey; rw [hk],r⟩⟩
theorem l6{key:Value}:Obj.putName name hh key v (b9 es n)=match es.findIdx? (·.key.isStr name)with
  | some i=>b9 (es.modify i λe=>{e with val:=v}) n
  | none=>b9 (es++ [⟨hh,key,v⟩]) (n+1):=by
 rw [Obj.putName_eq];unfold Obj.putNameByArray;simp only;rw [List.findIdx?_toArray];induction es.findIdx? (·.key.isStr name)using nN with
 | none=>simp
 | some i=>simp
theorem IP{k:Nat}(h:k<7):(n8 k).length<=1000:=by
 have:∀ k,k<7->(n8 k).length<=1000:=by decide+kernel
 exact this k h
inductive aeA(c':bc)(k:Nat)(l':List V)(o:Obj):Prop
 | mk (es:List DictEntry) (n:Nat) (e:o=b9 es n) (b:es.length<=1001) (S:lO c' (n8 k) l' es)
theorem P5{k:Nat}{l l':List V}{v:V}{tk:Tok}(h:Gy k l f v=some l')(hf:lO c (n8 k) l es)(V:VR c v w):aeA c k l' (Obj.putName (et f) hh (.str (et f) tk) w (b9 es n)):=by
 refine aJ h λj hj h2=> ?_;injection vS hj with g1 g2 g3;have L:=qZ hf;have b:es.length<=1000:=L.e▸af L.n (IP g3);rw [l6];induction q:decide (j<l.length)using eK with
 | true=>rw [q] at h2;obtain rfl:=ae h2;injection s9 hf (n7 k) g1 (aP (cE q))with d _ i _ _;rw [i];exact ⟨_,_,rfl,(List.length_modify ..).symm▸bz b,CV hf V⟩
 | false=>rw [q] at h2;injection eC h2 with hj;obtain rfl:=aD.mp hj;rw [Jj hf (n7 k) g1];exact ⟨_,_,rfl,(aQ ..).symm▸cC b,Ji hf g1 rfl V⟩
theorem rv (ko:lT) (hR:bQ c F σ s.heap) {o v:V} {a:Value} {Q:Unit->Shared->Prop} (h:Kk σ.W o f v=some W') (Vo:VR c o a) (Vv:VR c v w)
  (q:∀ c' h' tk,Le c c'->bQ c' F {σ with W:=W'} h'->Q () {s with heap:=h',toks:=tk}):wpAny aO A (setAttr a (et f) w) Q E s:=by
 refine aJ h λn hn h2=> ?_;refine aJ h2 λp hp h3=> ?_;injection eo h3 with l' hl;obtain rfl:=CT hn;induction Vo;injection hR.w.jx n _ (mu hp)with es ep t1 t2 hf;refine aJ hl λj hj Z=> ?_;injection vS hj with g1 g2 g3;have C:=ko.cls p.1 g3;have ie:=hR.ie ko.ie;have hd:=hR.w.hold _ _ _ t2;have I:PySem.W.InstAt s.heap (c.ga n) (instObj (fK p.1) (c.om n)) (fK p.1) (some (b9 es ep)):=⟨hR.w.hold _ _ _ t1,rfl,rfl,hd⟩
 have rW:=C.hasDict;unfold hasDictIn at rW;induction zc:clsIn cT (fK p.1)using nN with
 | none=>rw [zc] at rW; exact (Bool.noConfusion rW)
 | some cd=>
 rw [zc] at rW;refine set_plain ie I C.setattr (osa_open (s:={s with toks:=s.toks+1}) ie I C.plain (by unfold takerIn; rw [C.fld f g2]; rfl) λb=> ?_);refine aa (aj (aa (aa (wpAny_loadPart (hR.w.hold _ _ _ t1) (aa ((looks_clsIn ie zc) _ _ _ {s with toks:=s.toks+1} (λZ Z e=>e) ?_))))));rw [show cd.hasDict=true from rW];refine aj (a:=some (c.om n)) (aa (aj (aa ?_)));unfold nsSet;refine aa (aa (wpAny_askSetting (aj (aa (wpAny_mkText (aa (wpAny_loadPart hd ?_)))))));show wpAny _ _ (if aRefKeyMayBeTheName (et f) es.toArray=true then _ else _) _ _ _;rw [aRefKeyMayBeTheName_at,show es.toArray.any (·.refKey)=false by rw [<-Array.any_toList]; exact List.any_eq_false.mpr λe he=>by rw [(qZ hf).r e he]; exact cS,Bool.and_false];refine wpAny_updatePart hd ?_;injection P5 (n:=ep) (hh:=PyData.keyHash gD.params (et f)) (tk:=s.toks+1) hl hf Vv with JF n' W0 hb hS;have Xf:(s.heap.update (c.om n) (Obj.putName (et f) (PyData.keyHash gD.params (et f)) (.str (et f) (s.toks+1)) w)).get? (c.om n)=some (b9 JF n'):=by rw [cZ _ hd (by rw [W0]; rfl),W0]
 injection hR.setG (g:=true) (M':=.inst p.1 l') (mu hp) t2 (o':=b9 JF n') rfl (dz ..) Xf (λle=>⟨JF,n',(bY _ _ _ (λe=>by have e:c.ga n=c.om n:=e; rw [e,t2] at t1; cases t1)).trans t1,aF ..,lO.mono le _ _ _ hS⟩)with c' q1 q2;exact aa (wpAny_lookBehind Xf (pastItsLine_dict (af (aM .. ▸hb) ∅)) (aj (q _ _ _ q1 q2)))
end
theorem tW(C:Addr)(rest:List Value)(kw:List (Str×Value)):(Code.builtin "type.__call__" ⟨.ref C::rest,kw⟩).weight=1:= ⋯
theorem Fj(C:Addr)(rest:List Value)(kw:List (Str×Value)):(Code.builtin "type.__call__" ⟨.ref C::rest,kw⟩).cUnits=1:= ⋯
theorem iZ.tc{r:Nat}(h:iZ r A)(C:Addr)(ws:List Value)(kw:List (Str×Value)):j2 r (A.under (.builtin "type.__call__" ⟨.ref C::ws,kw⟩)):=
 ⟨by show A.depth+Code.weight _+10*(r+1)<recursionLimit+5; rw [tW]; have:=h.depth; lia,by show A.units+Code.cUnits _+100*(r+1)<cLine+50; rw [Fj]; have:=h.units; lia,h.handled⟩
section
variable{σ σ' cg fN:St}{a b d:Expr}
theorem dp.qP(R:dp c W h)(n:Nat):Jn c W (.inst n []) ((h.push emptyDict).push (instObj (fK n) h.objs.size)) (h.objs.size+1):=by have R1:=R.alloc (.gd c.N) (b9 [] 0) rfl;have l1:Lw c (c.put h.objs.size (.gd c.N) (b9 [] 0)):=(Ch.fresh R.fresh).lw id;have R2:=R1.alloc (.gl c.N) (instObj (fK n) h.objs.size) rfl;have l2:Lw (c.put h.objs.size (.gd c.N) (b9 [] 0)) _:=(Ch.fresh (t:=.gl c.N) (o:=instObj (fK n) h.objs.size) R1.fresh).lw id;have za:(h.push (b9 [] 0)).objs.size=h.objs.size+1:=Heap.size_push ..;rw [za] at R2 l2;generalize hc:(c.put h.objs.size (.gd c.N) (b9 [] 0)).put (h.objs.size+1) (.gl c.N) (instObj (fK n) h.objs.size)=c2 at R2 l2;have hN:c2.N=c.N:=hc▸rfl;have t1:c2.T (h.objs.size+1)=some (.gl c2.N,instObj (fK n) h.objs.size):=hN▸hc▸aF ..;have t2:c2.T h.objs.size=some (.gd c2.N,b9 [] 0):=hN▸hc▸(bY _ _ _ (aL (Nat.lt_succ_self _))).trans (aF ..);injection R2.oE (a:=h.objs.size+1) (d:=h.objs.size) (M:=.inst n []) ⟨[],0,by rw [bc.qQ,bc.xA]; exact t1,by rw [bc.xA]; exact t2,rfl⟩with c' l R' V;exact ⟨c',(l1.trans l2).trans l,R',V⟩
theorem bQ.qP(R:bQ c F σ h)(n:Nat):MQ c F σ (.inst n []) ((h.push emptyDict).push (instObj (fK n) h.objs.size)) (h.objs.size+1):=R.up (R.w.hide.qP n)
theorem uz{v:V}(h:m4 v=true):v=.none:=by
 induction v using lH with
 | none=>rfl
 | _=>cases h
theorem ir{o:Expr}{es:List Expr}(hs:gP o=true):eval (.Call (.Attribute o name apos) es [] pos) env=(do
  let ov<-eval o env
  standAt apos.atName
  methodCall o name apos pos env ov (es.length+0) (backTo pos (starEach es env)) []):=by
 show(do
  let ov<-attributeBase o name env (eval o env)
  standAt apos.atName
  methodCall o name apos pos env ov (es.length+0) (backTo pos (starEach es env)) [])=_
 rw [qy hs]
theorem G5{es:List Expr}(hs:es.all notStar=true)(hl:es.length<30):methodCallForm (es.length+0) (backTo pos (starEach es env)) []=true:=by unfold methodCallForm;have ha:(backTo pos (starEach es env)).any (·.1)=false:=sT ((kS (env:=env) hs).casesOn λa Z=>a);rw [show(backTo pos (starEach es env)).all (λx=> !x.1)=true from aK.mpr λx hx=>by rw [eF.mpr (List.any_eq_false.mp ha x hx)]; rfl];simp [hl]
theorem ip {o:Expr} {es:List Expr} {ov:Value} (hs:es.all notStar=true) (hl:es.length<30) (j7:(apos.endLine==pos.line)=true)
  (h:∀ pl:Sem Bool,wpAny aO A (getMethod ov name pl) (λfx ke=>wpAny aO A (callWith pos fx.1 fx.2 (backTo pos (starEach es env)) []) Q E ke) E s):
  wpAny aO A (methodCall o name apos pos env ov (es.length+0) (backTo pos (starEach es env)) []) Q E s:=by
 have acH:methodCallPos true o env apos pos=pure pos:=by unfold methodCallPos; simp [j7]
 unfold methodCall;rw [G5 hs hl];exact aa (bq (wpAny_mono (h _) (λfx ke eG=>aa (c9 acH eG)) λZ Z x=>x))
inductive OW(c:bc)(h:Heap)(n:Nat):Value->Prop
 | mk (b d:Addr) (es:List DictEntry) (ep:Nat) (l:List V) (g:h.get? b=some (instObj (fK n) d)) (g':h.get? d=some (b9 es ep)) (S:lO c (n8 n) l es):OW c h n (.ref b)
theorem IM(hR:bQ c F σ h){x:V}{a:Value}(hx:CN σ.W x=some n)(V:VR c x a):OW c h n a:=by
 induction x using lH with
 | inst k l=>obtain rfl:=ae hx; induction V with | mk a d es ep t1 t2 hf=>exact ⟨a,d,es,ep,_,hR.w.hold _ _ _ t1,hR.w.hold _ _ _ t2,hf⟩
 | glob m=>injection eo hx with p hp;induction V;induction hR.w.jx m _ (mu hp)with | mk es ep t1 t2 hf=>exact ⟨_,_,es,ep,_,hR.w.hold _ _ _ t1,hR.w.hold _ _ _ t2,hf⟩
 | _=>exact nn hx
theorem Jk{l:List V}{ns:List Str}(h:lO c ns l es)(hy:y ∉ ns):es.find? (λe=>e.key.isStr y)=none:=by
 induction l generalizing ns es with
 | nil=>subst h; rfl
 | cons z l ih=>injection h with d t y' m tk hk V rest;have hy:=not_or.mp λq=>hy (aH.mpr q);rw [List.find?_cons,show d.key.isStr y=false by rw [hk]; exact aI.mpr λe=>hy.1 e.symm];exact ih rest hy.2
theorem xf{ns:List Str}{l:List V}(h:lO c ns l es)(hy:y ∉ ns):shadowIn (some (b9 es n)) y=some false:=by
 show(lookIn y (b9 es n)).map _=_;have hr:es.any (·.refKey)=false:=List.any_eq_false.mpr λe he=>by rw [(qZ h).r e he]; exact cS
 have:lookIn y (b9 es n)=some none:=by unfold lookIn;show(match es.find? (λe=>e.key.isStr y)with | some e=>some (some e.val) | none=>if es.any (·.refKey)then none else some none)=_;rw [Jk h hy,hr]; rfl
 rw [this]; rfl
structure Y9(n f m:Nat):Prop where
 nm:et f ∉ n8 n
 k:n<7
 lo:30<=m
 hi:m<=46
theorem Ab{m:Nat}(h:KZ n f=some m):Y9 n f m:=by
 injection eo h with p hp;have h0:=List.find?_some (p:=λp:Nat×Nat×Nat=>p.1==n&&p.2.1==f) hp;refine fb h0 λh1 h2=> ?_;have all:K2.all (λp=>decide (et p.2.1 ∉ n8 p.1)&&decide (p.1<7)&&decide (30<=p.2.2)&&decide (p.2.2<=46))=true:=by decide+kernel
 have q:=aK.mp all p (List.mem_of_find?_eq_some hp);obtain rfl:=aD.mp h1;obtain rfl:=aD.mp h2;have q1:=aW q;have q2:=aW q1.1;have q3:=aW q2.1;exact ⟨cE q3.1,cE q3.2,cE q2.2,cE q1.2⟩
variable{ev eE:gr->Expr->St->Option (V×St)}(H:∀ {e σ p},ev F.k e σ=some p->GX F e σ p){r:V×St}
include H
theorem Rj (ko:lT) (hc:fu F.r cf) (ek:cM F) {es:List Expr} {as:List V×St} (hg:fR F.k x=true) (hn:gH x qI=some (90+n)) (h2:n<7) (hs:es.all notStar=true)
  (ha:su bT (ev F.k) es σ=some as) (hv:V6 bT cf n as.1 as.2=some r):GX F (.Call (.Name x p) es [] pos) σ r:=by
 refine aJ hv λu hu h3=> ?_;refine aJ h3 λZ h4 h5=> ?_;injection eC h4 with hN;obtain rfl:=ae h5;refine .of (λA c s Q E hA hR q=> ?_) rfl;injection ko.glob with mg mb g1 g2 _ g4 _ _ _;have hm:mg x=some (.ref (fK n)):=by
  have:=g4 x _ hn;generalize hz:90+n=z at this;induction this with
  | blt _ h=>exact absurd (az (aB 90 n) (hz▸h)) ∅
  | fn _ _ h'=>exact absurd (af (aB 90 n) (hz▸h')) ∅
  | cls k _ e=>obtain rfl:=Nat.add_left_cancel hz; exact e
 rw [ea];refine aa (mM ek hR hg (lB hn) g1 hm (eB (Pp:=cT.In) hs (keeps_K (ko.B5 n h2)) ((qF H hs ha).go hA hR q λaX cU ws cV cy eS q=>⟨cy.ie ko.ie,wpAny_call ?_⟩)));have ie:=cy.ie ko.ie;have i:=ko.init n h2;refine make_core (makes_of ie (ko.cls n h2).makes) (looks_findIn ie i.find) (λself=>bind_fn ie self i.type) (.inl rfl) ?_;injection cy.qP n with dg dB du fh;refine hc.fr (s:={cU with heap:=(cU.heap.push emptyDict).push (instObj (fK n) cU.heap.objs.size)}) (dM (af ∅ (aB 80 n))) (hA.tc _ _ _) du hu ⟨_,ws,fh,dw.mono dB.toji _ _ eS⟩ λc' h' tk a l' R' V'=> ?_;rw [uz hN] at V';subst V';exact ⟨rfl,q c' h' tk _ (dB.trans l') R' (VR.mono l'.toji _ _ fh)⟩
theorem XZ (ko:lT) (hc:fu F.r cf) {m:Nat} {o:Expr} {es:List Expr} {t:V×St} {as:List V×St} (hs:es.all notStar=true) (hl:es.length<30) (j7:(apos.endLine==pos.line)=true) (DO:gP o=true)
  (ht:ev F.k o σ=some t) (ha:su bT (ev F.k) es t.2=some as) (Q1:CN t.2.W t.1=some n) (hm:KZ n f=some m) (hv:uU bT cf m (t.1::as.1) as.2=some r):GX F (.Call (.Attribute o (et f) apos) es [] pos) σ r:=by
 refine aJ hv λu hu h3=> ?_;obtain rfl:=ae h3;refine .of (λA c s Q E hA hR q=> ?_) rfl;have N:=Ab hm;rw [ir DO];refine aa ((H ht).se.go hA hR q λaX cU a cV cy eS q=>aa (de (ip hs hl j7 λpl=> ?_)));injection IM cy Q1 eS with b d JF ep l o1 o2 hf;have k:=ko.V9 n f m hm;have C:=ko.cls n N.k;refine method_fn (cy.ie ko.ie) ⟨o1,rfl,rfl,o2⟩ C.oR C.getattr k.find k.type (xf hf N.nm) ?_;refine eB (Pp:=cT.In) hs (keeps_K (ko.uy m N.lo (af N.hi (by decide:46<=75)))) ((qF H hs ha).go hA cy q λdg ke ws dB du fh q=>⟨du.ie ko.ie,wpAny_call ?_⟩);exact hc.fr (aL (az N.hi ∅)) hA.two du hu ⟨_,ws,VR.mono dB _ _ eS,fh⟩ λc' h' tk a' l' R' V'=>q c' h' tk a' l' R' V'
end
section
variable{σ σ' cg fN:St}
def bc.sv(c:bc)(i:Nat)(v:Value):bc:={c with vals:=λj=>if j=i then some v else c.vals j}
theorem Ch.sv(c:bc)(i:Nat)(v:Value)(X:gG->Prop):Ch c (c.sv i v) X:=⟨λZ Z Z h Z=>h,⟨λZ Z h=>h,aA _,λZ Z=>rfl,λZ Z=>rfl⟩⟩
theorem Ch.trans{a b d:bc}(x:Ch a b X)(y:Ch b d X):Ch a d X:=⟨λp t o e h=>y.keep p t o (x.keep p t o e h) h,x.gf.trans y.gf⟩
theorem Ch.imp{a b:bc}{Y:gG->Prop}(x:Ch a b X)(h:∀ t,X t->Y t):Ch a b Y:=⟨λp t o e q=>x.keep p t o e λz=>q (h t z),x.gf⟩
theorem dp.turn(R:dp c W h)(x:Ch c c' X)(h1:∀ n,¬ X (.gl n))(h2:∀ n,¬ X (.gd n))(h3:¬ X .bO)(hN:c'.N=c.N)(low:CY c')(hold:∀ a t o,c'.T a=some (t,o)->h'.get? a=some o):dp c' W h':=
 ⟨low,hold,λa o e=>x.keep _ _ _ (R.base a o e) h3,hN▸R.len,λn M e=>(R.jx n M e).ch x (R.lt e) (h1 n) (h2 n)⟩
theorem Pc{d:Bool}(ek:cM F)(hi:F.k.vn[i]? =some (x,b))(hj:F.k.vn[j]? =some (x,d)):i=j:=by
 have e1:(F.k.vn.map (·.1))[i]? =some x:=by rw [bB,hi]; rfl
 have e2:(F.k.vn.map (·.1))[j]? =some x:=by rw [bB,hj]; rfl
 exact (List.getElem?_inj (eV e1) ek.nd).mp (e1.trans e2.symm)
inductive Y1(k:gr)(x:Str)(i:Nat):Prop
 | mk (h:k.cmp=false) (b:Bool) (e:k.vn[i]? =some (x,b))
theorem Bw{k:gr}(h:eP k x=some i):Y1 k x i:=by
 unfold eP at h;induction q:k.cmp using eK with
 | true=>rw [q] at h; exact nn h
 | false=>rw [q] at h; obtain ⟨b,e⟩:=UJ h; exact ⟨q,b,e⟩
def PA(i:Nat):gG->Prop:=λt=>t=.loc\/t=.cell i
theorem Nu(h:Nat.beq (B4 t) 3=false)(h':Nat.beq (B4 t) 4=false):¬ PA i t:=λq=>q.elim (λe=>Nat.ne_of_beq_eq_false h (e▸rfl)) (λe=>Nat.ne_of_beq_eq_false h' (e▸rfl))
theorem VO(h:j≠i):¬ PA i (.cell j):=λq=>q.elim eT (λe=>h (gG.cell.inj e))
theorem vi (ek:cM F) {n:Str} {lv:LV} {Q:Unit->Shared->Prop} (hx:eP F.k n=some i) (hs:zA σ i lv=some σ') (hR:bQ c F σ s.heap) (lr:CZ c i lv w)
  (q:∀ c' h' tk,Ch c c' (PA i)->bQ c' F σ' h'->Q () {s with heap:=h',toks:=tk}):wpAny aO A (storeName F.env n w) Q E s:=by
 injection Bw hx with Xw b hk;injection eC hs with jt;have go:∀ (a:Addr) (t:gG) (o o':Obj) (h':Heap) (tk:Nat),c.T a=some (t,o)->PA i t->t≠ .gN->t≠ .bO->BK t=true->Heap.SameBut a s.heap h'->h'.get? a=some o'->
   (Ch c ((c.put a t o').sv i w) (PA i)->yW ((c.put a t o').sv i w) F/\∀ (j:Nat) (y:Str),F.k.vn[j]? =some (y,true)->Js ((c.put a t o').sv i w) (F.cl j) j)->Q () {s with heap:=h',toks:=tk}:=by
  intro a t o o' h' tk e ht h1 h2 h3 hs ho k;have x:Ch c ((c.put a t o').sv i w) (PA i):=((Ch.put e h1).imp λu q=>by subst q; exact ht).trans (Ch.sv _ i w _);have lo:CY (c.put a t o'):=hR.w.low.vy e h2 (.inl h3);refine q _ h' tk x ⟨hR.w.turn x (λZ=>Nu rfl rfl) (λZ=>Nu rfl rfl) (Nu rfl rfl) rfl ⟨lo.up.casesOn λb o hb e=>⟨b,o,hb,e⟩,lo.sys⟩ (my hR.w.hold hs ho),⟨(iI ..).trans hR.loc.len,(k x).1,(k x).2,λj Ha hl=> ?_⟩,hR.cv.ch x (Nu rfl rfl)⟩;rcases Dg hl with⟨rfl,e,_⟩ | ⟨hj,e⟩
  ·obtain rfl:=ae e; exact ⟨w,dm rfl,lr.ch x (Nu rfl rfl)⟩
  ·induction hR.loc.vals j Ha e with | mk v e r=>exact ⟨v,(cb hj).trans e,r.ch x (Nu rfl rfl)⟩
 induction b using eK with
 | false=>
  obtain ⟨HP,hL⟩:=ek.var i n hk Xw;injection hR.loc.ns with o m t VP z;refine wpAny_storeName_local HP (by rw [hL]; exact VP.ns (hR.w.hold _ _ _ t)) (λh' HK pV=> ?_) (by rw [ek.kind]; rfl);rw [hL] at HK pV;obtain ⟨o',es,ep,pW,JC,QS,QZ⟩:=HK;refine go F.L .loc o o' h' (s.toks+1) t (.inl rfl) eT eT rfl pV pW λx=>⟨⟨o',_,aF ..,⟨es,ep,JC,QS,QZ⟩,λj y v hj hv=> ?_⟩,λj y hj=> ?_⟩
  ·have hv:(if j=i then some w else c.vals j)=some v:=hv;by_cases zb:j=i
   ·subst zb;rw [dm rfl] at hv;cases hk.symm.trans hj;exact (dm rfl).trans hv
   ·rw [cb zb] at hv;exact (cb λe=>zb (Pc ek (e▸hj) hk)).trans (z j y v hj hv)
  ·have zb:j≠i:=λe=>by rw [e,hk] at hj; cases hj
   injection hR.loc.cells j y hj with oc ov a b d;exact ⟨oc,ov,x.keep _ _ _ a (VO zb),b,λv hv=>d v ((cb zb).symm.trans hv)⟩
 | true=>
  obtain ⟨HP,pZ⟩:=ek.cell i n hk (.inl Xw);injection hR.loc.cells i n hk with oc ov t d z;refine wpAny_storeName_cell ek.kind HP pZ (uA (hR.w.hold _ _ _ t) d) (λh' HK pV=> ?_);obtain ⟨o',pW,JC⟩:=HK;refine go (F.cl i) (.cell i) oc o' h' s.toks t (.inr rfl) eT eT rfl pV pW λx=>⟨?_,λj y hj=> ?_⟩
  ·injection hR.loc.ns with o m tl VP zl;refine ⟨o,m,(bY _ _ _ λe=>by rw [e,t] at tl; cases tl).trans tl,VP,λj y v hj hv=> ?_⟩;have zb:j≠i:=λe=>by rw [e,hk] at hj; cases hj
   exact zl j y v hj ((cb zb).symm.trans hv)
  ·by_cases zb:j=i
   ·subst zb;exact ⟨o',some w,aF ..,JC,λv hv=>(dm rfl).symm.trans hv⟩
   ·injection hR.loc.cells j y hj with oc ov a b d;exact ⟨oc,ov,x.keep _ _ _ a (VO zb),b,λv hv=>d v ((cb zb).symm.trans hv)⟩
end
section
variable{σ σ' cg fN:St}{a b d:Expr}
inductive aeQ(c:bc)(W:List aV)(h:Heap)(n:Nat)(v:V):Prop
 | mk (c':bc) (l:∀ aX,Lw aX c->aX.N=n->Lw aX c') (R:dp c' (W.take n) h) (V:VR c' v (.ref (c.ga n)))
theorem dp.AA{kk:Nat}{l:List V}(R:dp c W h)(hn:W.length=n+1)(hl:W[n]? =some (.inst kk l))(q1:lP n l=true)(q2:(W.take n).all (nk n)=true):aeQ c W h n (.inst kk l):=by
 injection R.jx n _ hl with es ep t1 t2 hf;have gx:c.om n≠c.ga n:=λe=>by rw [e,t1] at t2; cases t2
 generalize HQ:c.put (c.ga n) .gN (instObj (fK kk) (c.om n))=c1;have t2':c1.T (c.om n)=some (.gd n,b9 es ep):=HQ▸(bY _ _ _ gx).trans t2;have x1:Ch c c1 (λt=>t=.gl n\/t=.gd n):=HQ▸(Ch.put t1 eT).imp λt q=>.inl q;have x:Ch c (c1.put (c.om n) .gN (b9 es ep)) (λt=>t=.gl n\/t=.gd n):=x1.trans ((Ch.put t2' eT).imp λt q=>.inr q);have lw:=x.lw (λq=>q.elim eT eT);refine ⟨(c1.put (c.om n) .gN (b9 es ep)).i0 n,λaX l1 h1=> ?_,⟨?_,λa t o e=> ?_,λa o e=>lw.bO _ _ (R.base a o e),by rw [List.length_take,hn]; exact Nat.min_eq_left (da n),λj M e=> ?_⟩,⟨_,c.om n,es,ep,?_,aF ..,lO.i0 _ _ _ q1 (lO.mono x.gf _ _ _ hf)⟩⟩
 ·have l2:=l1.trans lw;exact ⟨⟨l2.gN,bW h1,l2.ga,l2.om⟩,l2.bO⟩
 ·have lo:CY (c1.put (c.om n) .gN (b9 es ep)):=(HQ▸R.low.vy t1 eT (.inr ⟨rfl,rfl⟩):CY c1).vy t2' eT (.inr ⟨rfl,rfl⟩);exact ⟨lo.up.casesOn λb o hb e=>⟨b,o,hb,e⟩,lo.sys⟩
 ·rcases cm e with⟨rfl,rfl,rfl⟩ | ⟨_,e⟩
  ·exact R.hold _ _ _ t2
  ·subst HQ;rcases cm e with⟨rfl,rfl,rfl⟩ | ⟨_,e⟩
   ·exact R.hold _ _ _ t1
   ·exact R.hold _ _ _ e
 ·have hj:j<n:=ax (eV e) (by rw [List.length_take]; exact Nat.min_le_left ..);have e':W[j]? =some M:=(List.getElem?_take_of_lt hj).symm.trans e;exact MR.i0 (aK.mp q2 M (cH e)) ((R.jx j M e').ch x (R.lt e') (λq=>q.elim (λq=>aL hj (gG.gl.inj q)) eT) (λq=>q.elim eT (λq=>aL hj (gG.gd.inj q))))
 ·exact (bY _ _ _ gx.symm).trans (HQ▸aF ..)
inductive MkF(cf:CF)(n:Nat)(as:List V)(σ:St):V×St->Prop
 | mk (l:List V) (W':List aV) (h:cf (80+n) (.glob σ.W.length::as) (σ.W++ [.inst n []])=some (.none,W')) (g1:W'.length=σ.W.length+1) (g2:W'[σ.W.length]? =some (.inst n l)) (g3:lP σ.W.length l=true) (g4:(W'.take σ.W.length).all (nk σ.W.length)=true):
   MkF cf n as σ (.inst n l,{σ with W:=W'.take σ.W.length})
theorem V8{R:V×St}(h:NH bT cf n as σ=some R):MkF cf n as σ R:=by refine aJ h λu hu h0=> ?_;obtain rfl:=ae h0;have hu:G3 bT cf n as σ.W=some u:=hu;refine aJ hu λr h1 h2=> ?_;refine aJ h2 λl h3 h4=> ?_;refine aJ h4 λZ h5 h6=> ?_;refine aJ h6 λZ h7 h8=> ?_;obtain rfl:=ae h8;refine aJ h3 λp hp h9=> ?_;injection eC h9 with hq;injection eC h5 with hz;have g:=aW (H6 h7);obtain ⟨v,W'⟩:=r;obtain ⟨k,l⟩:=p;obtain rfl:=aD.mp hq;obtain rfl:=uz (aW hz).1;exact ⟨l,W',h1,aD.mp (aW hz).2,mu hp,g.1,g.2⟩
def lS(r:Nat)(cf:CF):Prop:=
 ∀ (A:Around) (c:bc) (s:Shared) (W:List aV) (S x:V) (self a:Value) (p:V×List aV) (R:Result->Shared->Prop),j2 r A->dp c W s.heap->cf 86 (S::kU x) W=some p->VR c S self->VR c x a->C3 c s p R->codeAny aO A (.call (.ref (pB 86)) ⟨[self],[(et 32,a)]⟩) R s
def SG(r:Nat)(cf:CF)(n:Nat)(all:List V)(pos:List Value)(kw:List (Str×Value))(c:bc)(σ:St):Prop:=
 ∀ (A:Around) (c':bc) (s:Shared) (p:V×List aV) (self:Addr) (R:Result->Shared->Prop),j2 r A->ji c c'->dp c' (σ.W++ [.inst n []]) s.heap->VR c' (.glob σ.W.length) (.ref self)->cf (80+n) (.glob σ.W.length::all) (σ.W++ [.inst n []])=some p->C3 c' s p R->
  codeAny aO A (.call (.ref (pB (80+n))) ⟨.ref self::pos,kw⟩) R s
theorem BE (ko:lT) {all:List V} {pos:List Value} {kw:List (Str×Value)} {rec:V×St} (hA:iZ F.r A) (hR:bQ c F σ s.heap) (hn:n<7) (hv:NH bT cf n all σ=some rec) (Xy:SG F.r cf n all pos kw c σ)
  (q:∀ c' h' tk a,Le c c'->bQ c' F rec.2 h'->VR c' rec.1 a->RR (.ok (.ret a)) {s with heap:=h',toks:=tk}):codeAny aO A (.call (.ref (fK n)) ⟨pos,kw⟩) RR s:=by
 injection V8 hv with l W' e3 e4 e5 e6 e7;have ie:=hR.ie ko.ie;have i:=ko.init n hn;obtain ⟨hp,g,d,tk,os⟩:=s;refine make_core (makes_of ie (ko.cls n hn).makes) (looks_findIn ie i.find) (λself=>bind_fn ie self i.type) (.inl rfl) ?_;injection hR.w.hide.qP n with dg dB du fh;refine Xy _ dg ⟨(hp.push emptyDict).push (instObj (fK n) hp.objs.size),g,d,tk,os⟩ (.none,W') _ _ (hA.tc _ _ _) ((m5 c).gf.trans dB.toji) du fh e3 λkJ gR lJ a kh gI s8=> ?_;subst s8;refine ⟨rfl,?_⟩;injection gI.AA e4 e5 e6 e7 with IB k1 k2 k3;have Qn:=k1 c.hide (dB.trans kh) hR.w.len.symm;have WV:Value.ref (kJ.ga σ.W.length)=.ref (hp.objs.size+1):=by have:=VR.mono kh.toji _ _ fh;generalize Value.ref (hp.objs.size+1)=z at this ⊢;induction this; rfl
 rw [WV] at k3;exact q _ gR lJ _ (lG Qn) (hR.back Qn k2) (VR.mono (pe Qn) _ _ k3)
variable{ev eE:gr->Expr->St->Option (V×St)}(H:∀ {e σ p},ev F.k e σ=some p->GX F e σ p){r:V×St}
include H
theorem Ri (ko:lT) (hc:fu F.r cf) (ek:cM F) {es:List Expr} {as:List V×St} (hg:fR F.k x=true) (hn:gH x qI=some (90+n)) (h2:n<7) (hs:es.all notStar=true)
  (ha:su bT (ev F.k) es σ=some as) (hv:NH bT cf n as.1 as.2=some r):GX F (.Call (.Name x p) es [] pos) σ r:=by
 refine .of (λA c s Q E hA hR q=> ?_) rfl;injection ko.glob with mg mb g1 g2 _ g4 _ _ _;have hm:mg x=some (.ref (fK n)):=by
  have:=g4 x _ hn;generalize hz:90+n=z at this;induction this with
  | blt _ h=>exact absurd (az (aB 90 n) (hz▸h)) ∅
  | fn _ _ h'=>exact absurd (af (aB 90 n) (hz▸h')) ∅
  | cls k _ e=>obtain rfl:=Nat.add_left_cancel hz; exact e
 rw [ea];refine aa (mM ek hR hg (lB hn) g1 hm (eB (Pp:=cT.In) hs (keeps_K (ko.B5 n h2)) ((qF H hs ha).go hA hR q λaX cU ws cV cy eS q=>⟨cy.ie ko.ie,wpAny_call ?_⟩)));exact BE ko hA cy h2 hv (λA' c' s' p self R' N6 l' du fh NW q'=>hc A' c' s' _ (80+n) _ (.ref self::ws) p R' (dM (af ∅ (aB 80 n))) N6 du NW ⟨_,ws,fh,dw.mono l' _ _ eS⟩ q') λc' h' tk a l' R' V'=>q c' h' tk a l' R' V'
omit H in
theorem yp{id f:Str}{p':Pos}:eval (.Call (.Name id p) [] [⟨some f,e,p'⟩] pos) env=(do callWith pos (<-eval (.Name id p) env) [] (backTo pos (starEach [] env)) (backToKw pos (keywordEach [⟨some f,e,p'⟩] env))):=rfl
theorem adJ(ko:lT)(hc:lS F.r cf)(ek:cM F){p':Pos}(hg:fR F.k "Shape" =true)(h:dr bT cf ev eE F.k (.ZR e) σ=some r):GX F (.Call (.Name "Shape" p) [] [⟨some (et 32),e,p'⟩] pos) σ r:=by refine aJ h λt ht hv=> ?_;refine .of (λA c s Q E hA hR q=> ?_) rfl;injection ko.glob with mg mb g1 g2 _ g4 _ _ sh;rw [yp];refine aa (mM ek hR hg (by decide+kernel) g1 sh ?_);refine callWith_of (P:=cT.In) rfl (keeps_K (ko.B5 6 ∅)) (evalArgs_kw_nil rfl ?_);show wpAny _ _ ((do let v<-eval e F.env; standAt pos; pure v)>>=λv=>holding [v] (evalAll [])>>=λr=>pure (v::r)) _ _ _;refine aa (aa ((H ht).se.go hA hR q λaX cU w cV cy eS q=>aa (de (aj (aa (bq (aj (aj ⟨cy.ie ko.ie,wpAny_call ?_⟩))))))));exact BE ko hA cy ∅ hv (λA' c' s' p self R' N6 l' du fh NW q'=>hc A' c' s' _ _ t.1 (.ref self) w p R' N6 du NW fh (VR.mono l' _ _ eS) q') λc' h' tk a l' R' V'=>q c' h' tk a l' R' V'
end
theorem NP{M:Model}{c:Prop}{_:Decidable c}{a b:Sem α}{Q:α->Shared->Prop}(h:¬ c)(w:wpAny M A b Q E s):wpAny M A (if c then a else b) Q E s:=by rw [cb h]; exact w
theorem ifP{M:Model}{c:Prop}{_:Decidable c}{a b:Sem α}{Q:α->Shared->Prop}(h:c)(w:wpAny M A a Q E s):wpAny M A (if c then a else b) Q E s:=by rw [dm h]; exact w
theorem Al (hd:(d==sysModules)=false) (ho:s.heap.get? d=some (b9 es n))
  (hQ:Q (.ref s.heap.objs.size) {s with heap:=s.heap.push {cls:=.type "dict_keyiterator",data:=.fields #[.ref d,.int 0 0,.int es.length 0,.int n 0]}}):
  wpAny aO A (pyIter (.ref d)) Q E s:=by
 have hT:s.TypeIs (.ref d) "dict" :=⟨_,ho,rfl⟩
 refine wpAny_pyIter_slot hT PySem.F.slot_dict_iter (bJ PySem.F.slot_dict_iter hT PySem.F.entry_dict_iter ?_ (PySem.F.args_dict_iter_1 _));unfold Builtin.«dict.__iter__» Builtin.Dict.dictSlotNone;refine aa (aa (eH hT ?_));show wpAny _ _ (pure (Value.ref d)) _ _ s;refine aj ?_;show wpAny _ _ (Builtin.Dict.showsAll d>>=_) _ _ s;unfold Builtin.Dict.showsAll;rw [cb (by rw [hd]; exact cS)];refine aa (aj (aa (cB ho rfl (aa (wpAny_dictEpoch ho rfl ?_)))));refine aa (cX (aj ⟨_,rfl,"dict_keyiterator",_,⟨_,aR _ rfl,rfl⟩,hV.lookup,?_⟩));simpa [rawInt] using hQ
theorem GZ {e:DictEntry} {Q:Option Value->Shared->Prop} (hit:s.heap.IsKeyIter it d i es.length n) (HJ:s.heap.get? d=some (b9 es n)) (hx:es[i]? =some e)
  (hQ:∀ h',h'.IsKeyIter it d (i+1) es.length n->Heap.SameBut it s.heap h'->Q (some e.key) {s with heap:=h'}):wpAny aO A (pyNext (.ref it)) Q E s:=by
 refine ag (id hit) λo z1=>And.elim (λho z2=>And.elim (λhc hd=> ?_) z2) z1;have jt:i<es.length:=(eD.mp hx).1;have he:es[i]=e:=(eD.mp hx).2;unfold pyNext;refine aa (wpAny_attempt (dA (name:=Str.ofString "__next__") hit.typeIs hV
  (bJ hV hit.typeIs PySem.F.entry_dict_keyiterator_next ?_ (PySem.F.args_dict_keyiterator_next_1 _))))
 refine aa (aj (aa (aa ?_)))
 first | refine aa (wpAny_typeNameOfWhole_keyiter hit.typeIs (aj ?_)) | refine aa (wpAny_typeNameOf_keyiter hit.typeIs (aj ?_))
 refine aa (wpAny_fieldsOf ho hd ?_);show wpAny _ _ (if(Value.ref d==Value.none)=true then _ else _) _ _ s;refine NP (show ¬ ((Value.ref d==Value.none)=true)from cS) ?_;refine aa (aj (aa (cB HJ rfl ?_)));refine NP ?a ?b
 case a=>simp
 refine aa (aj (aa (wpAny_dictEpoch HJ rfl ?_)));rw [cb (by simp)];refine aj ?_;have HM:i<es.toArray.size:=by simpa using jt
 simp only [show ¬ ((i:Int)<0)from by lia,if_false,Int.toNat_natCast,iC HM];refine aa ?_
 first | refine aa (wpAny_typeNameOfWhole_keyiter hit.typeIs (aj ?_)) | refine aa (wpAny_typeNameOf_keyiter hit.typeIs (aj ?_))
 refine aa (wpAny_isOneOf_keyiter hit.typeIs ?_);show wpAny _ _ (setField (.ref it) 1 (rawInt ((i:Int)+1))>>=_) _ _ s;refine aa (wpAny_setField ho hd (by simp) ?_);have qE:(s.heap.update it (Obj.mapFields (·.setIfInBounds 1 (rawInt ((i:Int)+1))))).IsKeyIter it d (i+1) es.length n:=
  ⟨_,cZ _ ho (Obj.isFreed_of_fields (Obj.data_mapFields hd _)),(Obj.cls_mapFields ..).trans hc,by rw [Obj.data_mapFields hd]; simp [rawInt]⟩
 refine aa (bq ?_);refine aa (wpAny_isOneOf_keyiter (s:={s with heap:=s.heap.update it (Obj.mapFields (·.setIfInBounds 1 (rawInt ((i:Int)+1))))}) qE.typeIs ?_);show wpAny _ _ (pure es.toArray[i].key) _ _ _;have:es.toArray[i].key=e.key:=by simp [he]
 rw [this];exact aj (aj ⟨_,rfl,aj (hQ _ qE (dz ..))⟩)
theorem L4 {Q:Option Value->Shared->Prop} (hh:A.handled=none) (hit:s.heap.IsKeyIter it d es.length es.length n) (HJ:s.heap.get? d=some (b9 es n))
  (hQ:∀ h',Heap.ExtBut it s.heap h'->Q none {s with heap:=h'}):wpAny aO A (pyNext (.ref it)) Q E s:=by
 refine ag (id hit) λo z1=>And.elim (λho z2=>And.elim (λhc hd=> ?_) z2) z1;unfold pyNext;refine aa (wpAny_attempt (dA (name:=Str.ofString "__next__") hit.typeIs hV
  (bJ hV hit.typeIs PySem.F.entry_dict_keyiterator_next ?_ (PySem.F.args_dict_keyiterator_next_1 _))))
 refine aa (aj (aa (aa ?_)))
 first | refine aa (wpAny_typeNameOfWhole_keyiter hit.typeIs (aj ?_)) | refine aa (wpAny_typeNameOf_keyiter hit.typeIs (aj ?_))
 refine aa (wpAny_fieldsOf ho hd ?_);show wpAny _ _ (if(Value.ref d==Value.none)=true then _ else _) _ _ s;refine NP (show ¬ ((Value.ref d==Value.none)=true)from cS) ?_;refine aa (aj (aa (cB HJ rfl ?_)));refine NP ?a ?b
 case a=>simp
 refine aa (aj (aa (wpAny_dictEpoch HJ rfl ?_)));rw [cb (by simp)];refine aj ?_;have QY:es.toArray.size<=es.length:=by simp
 simp only [show ¬ ((es.length:Int)<0)from by lia,if_false,Int.toNat_natCast,Array.getElem?_eq_none QY];refine aa ?_
 first | refine aa (wpAny_typeNameOfWhole_keyiter hit.typeIs (aj ?_)) | refine aa (wpAny_typeNameOf_keyiter hit.typeIs (aj ?_))
 show wpAny _ _ (setField (.ref it) 0 .none>>=_) _ _ s;refine aa (wpAny_setField ho hd (by simp) ?_);show wpAny _ _ (newExc (.type "StopIteration") []>>=_) _ _ _;refine aa ?_;simp only [newExc,newTuple];refine aa (cX ?_ (by size_fits));refine aa (m:=firstArgMember _ _) (c9 (a:=Value.none) (by first | rfl | (simp only [firstArgMember]; rfl)) ?_);refine cX ?_ (by size_fits);simp only [raiseNew];refine aa (wpAny_handled ?_);rw [show A.in1.handled=none from hh];refine aa (aj (wpAny_throw ?_));refine aa (wpAny_isInstance (T:="StopIteration") (b:=true) ⟨_,aR _ rfl,rfl⟩ isSubtype_stop ?_);exact aj (hQ _ (((dz ..).extBut.push _).push _))
theorem q9(hh:A.handled=none)(I d:Addr)(gx:d≠I)(es:List DictEntry)(n:Nat):
  Walks pw gD A I [I,d] [I] es.length (λi v=>∃ e,es[i]? =some e/\v=e.key) (λi h=>h.IsKeyIter I d i es.length n/\h.get? d=some (b9 es n))where
 sub:=λb hb=>by simp at hb; simp [hb]
 frame:=λZ Z Z st hk=>⟨st.1.at λo e=>hk I (by simp) o e,hk d (by simp) _ st.2⟩
 item:=λi s Q E hi st hQ=>GZ st.1 st.2 (aP hi) λh' qE pV=>
  hQ _ h' s.toks ⟨_,aP hi,rfl⟩ ⟨qE,pV.extBut d _ gx st.2⟩ λb o hb e=>pV.extBut b o (λh=>hb (by simp [h])) e
 done:=λs Q E st hQ=>L4 hh st.1 st.2 λh' Tf=>hQ h' s.toks λb o hb e=>Tf b o (λh=>hb (by simp [h])) e
 self:=λZ Z Z Z st hQ=>wpAny_pyIter_keyiter st.1 hQ
theorem Hw {v:Addr} (hv:s.heap.IsValuesView v d) (ho:s.heap.get? d=some (b9 es n))
  (hQ:Q (.ref s.heap.objs.size) {s with heap:=s.heap.push {cls:=.type "dict_valueiterator",data:=.fields #[.ref d,.int 0 0,.int es.length 0,.int n 0]}}):
  wpAny aO A (pyIter (.ref v)) Q E s:=by
 refine ag (id hv) λov z1=>And.elim (λhov z2=>And.elim (λTh hdv=> ?_) z2) z1;refine wpAny_pyIter_slot hv.typeIs PySem.F.slot_dict_values_iter (bJ PySem.F.slot_dict_values_iter hv.typeIs PySem.F.entry_dict_values_iter ?_ (PySem.F.args_dict_values_iter_1 _));unfold Builtin.«dict_values.__iter__»;refine aa (aj (aa ?_));unfold Builtin.Dict_items.dictOf;refine aa (wpAny_field hov hdv (x:=.ref d) rfl (aj (aa ?_)));unfold Builtin.Dict_items.newIterator;refine aa (cB ho rfl (aa (wpAny_dictEpoch ho rfl ?_)));simp only [show Builtin.Dict_items.ownsTuple "dict_valueiterator" =false by decide,Bool.false_eq_true,if_false];refine cX (aj ⟨_,rfl,"dict_valueiterator",_,⟨_,aR _ rfl,rfl⟩,gJ.lookup,?_⟩);simpa [rawInt] using hQ
theorem GY {e:DictEntry} {Q:Option Value->Shared->Prop} (hit:s.heap.IsValIter it d i es.length n) (HJ:s.heap.get? d=some (b9 es n)) (hx:es[i]? =some e)
  (hQ:∀ h',h'.IsValIter it d (i+1) es.length n->Heap.SameBut it s.heap h'->Q (some e.val) {s with heap:=h'}):wpAny aO A (pyNext (.ref it)) Q E s:=by
 refine ag (id hit) λo z1=>And.elim (λho z2=>And.elim (λhc hd=> ?_) z2) z1;have jt:i<es.length:=(eD.mp hx).1;have he:es[i]=e:=(eD.mp hx).2;unfold pyNext;refine aa (wpAny_attempt (dA (name:=Str.ofString "__next__") hit.typeIs gJ
  (bJ gJ hit.typeIs PySem.F.entry_dict_valueiterator_next ?_ (PySem.F.args_dict_valueiterator_next_1 _))))
 refine aa (aj (aa (aa ?_)))
 first | refine aa (wpAny_typeNameOfWhole_valiter hit.typeIs (aj ?_)) | refine aa (wpAny_typeNameOf_valiter hit.typeIs (aj ?_))
 refine aa (wpAny_fieldsOf ho hd ?_);show wpAny _ _ (if(Value.ref d==Value.none)=true then _ else _) _ _ s;refine NP (show ¬ ((Value.ref d==Value.none)=true)from cS) ?_;refine aa (aj (aa (cB HJ rfl ?_)));refine NP ?a ?b
 case a=>simp
 refine aa (aj (aa (wpAny_dictEpoch HJ rfl ?_)));rw [cb (by simp)];refine aj ?_;have HM:i<es.toArray.size:=by simpa using jt
 simp only [show ¬ ((i:Int)<0)from by lia,if_false,Int.toNat_natCast,iC HM];refine aa ?_
 first | refine aa (wpAny_typeNameOfWhole_valiter hit.typeIs (aj ?_)) | refine aa (wpAny_typeNameOf_valiter hit.typeIs (aj ?_))
 refine aa (wpAny_isOneOf_valiter hit.typeIs ?_);show wpAny _ _ (setField (.ref it) 1 (rawInt ((i:Int)+1))>>=_) _ _ s;refine aa (wpAny_setField ho hd (by simp) ?_);have qE:(s.heap.update it (Obj.mapFields (·.setIfInBounds 1 (rawInt ((i:Int)+1))))).IsValIter it d (i+1) es.length n:=
  ⟨_,cZ _ ho (Obj.isFreed_of_fields (Obj.data_mapFields hd _)),(Obj.cls_mapFields ..).trans hc,by rw [Obj.data_mapFields hd]; simp [rawInt]⟩
 refine aa (bq ?_);refine aa (wpAny_isOneOf_valiter (s:={s with heap:=s.heap.update it (Obj.mapFields (·.setIfInBounds 1 (rawInt ((i:Int)+1))))}) qE.typeIs ?_);refine aa (wpAny_isOneOf_valiter (s:={s with heap:=s.heap.update it (Obj.mapFields (·.setIfInBounds 1 (rawInt ((i:Int)+1))))}) qE.typeIs ?_);show wpAny _ _ (pure es.toArray[i].val) _ _ _;have:es.toArray[i].val=e.val:=by simp [he]
 rw [this];exact aj (aj ⟨_,rfl,aj (hQ _ qE (dz ..))⟩)
theorem LZ {Q:Option Value->Shared->Prop} (hh:A.handled=none) (hit:s.heap.IsValIter it d es.length es.length n) (HJ:s.heap.get? d=some (b9 es n))
  (hQ:∀ h',Heap.ExtBut it s.heap h'->Q none {s with heap:=h'}):wpAny aO A (pyNext (.ref it)) Q E s:=by
 refine ag (id hit) λo z1=>And.elim (λho z2=>And.elim (λhc hd=> ?_) z2) z1;unfold pyNext;refine aa (wpAny_attempt (dA (name:=Str.ofString "__next__") hit.typeIs gJ
  (bJ gJ hit.typeIs PySem.F.entry_dict_valueiterator_next ?_ (PySem.F.args_dict_valueiterator_next_1 _))))
 refine aa (aj (aa (aa ?_)))
 first | refine aa (wpAny_typeNameOfWhole_valiter hit.typeIs (aj ?_)) | refine aa (wpAny_typeNameOf_valiter hit.typeIs (aj ?_))
 refine aa (wpAny_fieldsOf ho hd ?_);show wpAny _ _ (if(Value.ref d==Value.none)=true then _ else _) _ _ s;refine NP (show ¬ ((Value.ref d==Value.none)=true)from cS) ?_;refine aa (aj (aa (cB HJ rfl ?_)));refine NP ?a ?b
 case a=>simp
 refine aa (aj (aa (wpAny_dictEpoch HJ rfl ?_)));rw [cb (by simp)];refine aj ?_;have QY:es.toArray.size<=es.length:=by simp
 simp only [show ¬ ((es.length:Int)<0)from by lia,if_false,Int.toNat_natCast,Array.getElem?_eq_none QY];refine aa ?_
 first | refine aa (wpAny_typeNameOfWhole_valiter hit.typeIs (aj ?_)) | refine aa (wpAny_typeNameOf_valiter hit.typeIs (aj ?_))
 show wpAny _ _ (setField (.ref it) 0 .none>>=_) _ _ s;refine aa (wpAny_setField ho hd (by simp) ?_);show wpAny _ _ (newExc (.type "StopIteration") []>>=_) _ _ _;refine aa ?_;simp only [newExc,newTuple];refine aa (cX ?_ (by size_fits));refine aa (m:=firstArgMember _ _) (c9 (a:=Value.none) (by first | rfl | (simp only [firstArgMember]; rfl)) ?_);refine cX ?_ (by size_fits);simp only [raiseNew];refine aa (wpAny_handled ?_);rw [show A.in1.handled=none from hh];refine aa (aj (wpAny_throw ?_));refine aa (wpAny_isInstance (T:="StopIteration") (b:=true) ⟨_,aR _ rfl,rfl⟩ isSubtype_stop ?_);exact aj (hQ _ (((dz ..).extBut.push _).push _))
theorem zf(hh:A.handled=none)(I d:Addr)(gx:d≠I)(es:List DictEntry)(n:Nat):
  Walks pw gD A I [I,d] [I] es.length (λi v=>∃ e,es[i]? =some e/\v=e.val) (λi h=>h.IsValIter I d i es.length n/\h.get? d=some (b9 es n))where
 sub:=λb hb=>by simp at hb; simp [hb]
 frame:=λZ Z Z st hk=>⟨st.1.at λo e=>hk I (by simp) o e,hk d (by simp) _ st.2⟩
 item:=λi s Q E hi st hQ=>GY st.1 st.2 (aP hi) λh' qE pV=>
  hQ _ h' s.toks ⟨_,aP hi,rfl⟩ ⟨qE,pV.extBut d _ gx st.2⟩ λb o hb e=>pV.extBut b o (λh=>hb (by simp [h])) e
 done:=λs Q E st hQ=>LZ hh st.1 st.2 λh' Tf=>hQ h' s.toks λb o hb e=>Tf b o (λh=>hb (by simp [h])) e
 self:=λZ Z Z Z st hQ=>wpAny_pyIter_valiter st.1 hQ
theorem Wo(lo:(d==sysModules)=false):KdlSrc pw gD "dict" d d es.length (λi v=>∃ e,es[i]? =some e/\v=e.key) (λh=>h.get? d=some (b9 es n))where
 type:=λZ hm=>⟨_,hm,rfl⟩
 there:=λZ hm=>⟨bt hm,bt hm⟩
 keep:=λZ Z hm hk=>hk d (.inl rfl) _ hm
 notList:=by decide
 notTuple:=by decide
 hint:=λZ Z Z Z hm hq=>kdl_hint_dict ⟨_,hm,rfl⟩ hq
 iter:=λZ Z hh hm=>⟨_,_,(λZ Z hq=>Al lo hm hq),q9 hh _ d (aL (bt hm)) es n,⟨⟨_,aR _ rfl,rfl,rfl⟩,aE _ hm⟩⟩
section
variable{σ σ':St}{v x:V}{a:Value}
inductive One(c:bc)(x:V):List Value->Prop
 | mk (w:Value) (h:VR c x w):One c x [w]
inductive Two(c:bc)(x y:V):List Value->Prop
 | mk (w u:Value) (h:VR c x w) (h':VR c y u):Two c x y [w,u]
theorem lL(h:one? as=some x)(V:dw c as ws):One c x ws:=by
 induction as using lh with
 | nil=>exact nn h
 | cons y r=>induction r using lh with
  | nil=>obtain rfl:=ae h; induction V with | mk w t a b=>subst b; exact ⟨w,a⟩
  | cons=>exact nn h
theorem Bo{p:V×V}(h:oA as=some p)(V:dw c as ws):Two c p.1 p.2 ws:=by
 induction as using lh with
 | nil=>exact nn h
 | cons y r=>induction r using lh with
  | nil=>exact nn h
  | cons z r=>induction r using lh with
   | nil=>obtain rfl:=ae h; induction V with | mk w t a b=>induction b with | mk u t' a' b'=>subst b'; exact ⟨w,u,a,a'⟩
   | cons=>exact nn h
theorem rM{β:Type}{f:V->Option β}{g:β->V}(k:∀ {v b},f v=some b->v=g b):∀ {l:List V} {bs:List β},jD f l=some bs->l=bs.map g
 | [],_,h=>by obtain rfl:=ae h; rfl
 | y::r,_,h=>by
  refine aJ h λb hb h2=> ?_;induction eo h2 with | mk bs hbs=>exact congr (av List.cons (k hb)) (rM k hbs)
theorem j9(h:dw c (is.map V.int) vs):IntsAre vs is:=by
 induction is generalizing vs with
 | nil=>subst h; exact .nil
 | cons i l ih=>induction h with | mk v t a b=>induction a with | mk u=>exact .cons i u (ih b)
theorem Ez{bs:List Bool}(h:dw c (bs.map V.bool) vs):vs=bs.map Value.bool:=by
 induction bs generalizing vs with
 | nil=>exact h
 | cons b l ih=>induction h with | mk v t a d=>subst a; exact av _ (ih d)
inductive aeu(c:bc)(F:iR)(σ:St)(h':Heap)(a:Addr)(o:Obj):Prop
 | mk (c':bc) (l:Le c c') (R:bQ c' F σ h') (t:c'.T a=some (.gN,o))
theorem bQ.Fw(R:bQ c F σ h)(kp:∀ b o,h.get? b=some o->h'.get? b=some o){o:Obj}(ho:h'.get? h.objs.size=some o):aeu c F σ h' h.objs.size o:=((R.keeps kp).tag .gN (a:=h.objs.size) (o:=o) R.w.fresh (.inl R.w.j8) ho).casesOn
 λl R'=>⟨_,l,R',aF ..⟩
theorem Hq(hR:bQ c F σ h){o:Obj}(hk:∀ a o',a ∉ [h.objs.size] ->(h.push o).get? a=some o'->h'.get? a=some o'):bQ c F σ h':=hR.keeps λa o e=>hk a o (λhm=>by
 rw [ay.mp hm] at e;exact eM _ (bt e)) (aE _ e)
theorem Ja(hh:A.handled=none)(hR:bQ c F σ s.heap){b:List UInt8}{t:Tok}(q:jP F c σ s (.bool (b.any (· != 0))) Q):wpAny aO A (call (.builtin "any") [.bytes b.toArray t]) Q E s:=by
 refine call_any_walk (KBw.pyIter_bytes ?_);refine ⟨_,_,_,_,_,_,λi=>(b[i]?).any (· != 0),rfl,KBw.walks (A:=A.in1) hh s.heap.objs.size b.toArray t,⟨_,aR _ rfl,rfl,rfl⟩,?_,λh' tk hk=> ?_⟩
 ·rintro i v s Q E ⟨d,u,hd,rfl⟩ hq;refine PyProof.Rows.truthy_int ?_
  replace hq:Q ((b[i]?).any (· != 0)) s:=hq
  rw [show b[i]? =some d from(cq ..).symm.trans hd] at hq;have:(((d.toNat:Nat):Int) != 0)=(d != 0):=by
   by_cases hz:d=0
   ·subst hz; rfl
   ·rw [bne_iff_ne.mpr hz];exact bne_iff_ne.mpr λe=>hz (UInt8.toNat_inj.mp (cx e))
  rw [this];exact hq
 ·have:(List.range b.toArray.size).any (λi=>(b[i]?).any (· != 0))=b.any (· != 0):=by
   rw [iJ,List.any_eq_true,List.any_eq_true];constructor
   ·rintro ⟨i,hi,hq⟩;induction hb:b[i]? using nN with
    | none=>rw [hb] at hq; exact (Bool.noConfusion hq)
    | some d=>rw [hb] at hq; exact ⟨d,cH hb,hq⟩
   ·rintro ⟨d,hd,hq⟩;refine ag (List.mem_iff_getElem?.mp hd) λi hi=> ?_;exact ⟨i,ft.mpr (eV hi),by rw [hi]; exact hq⟩
  exact q c h' tk _ (Le.refl c) (Hq hR hk) (av _ this)
theorem Jc(hh:A.handled=none)(hR:bQ c F σ s.heap){bs:List Bool}{l:Addr}(hl:s.heap.IsList l (bs.map Value.bool).toArray)(q:jP F c σ s (.bool (bs.all id)) Q):
  wpAny aO A (call (.builtin "all") [.ref l]) Q E s:=by
 refine call_all_walk (wpAny_pyIter_list hl ?_);have jt:l≠s.heap.objs.size:=by refine ag hl λo z1=>And.elim (λho Z=> ?_) z1; exact aL (bt ho)
 refine ⟨_,_,_,_,_,_,λi=>bs.getD i true,rfl,Walks.list (A:=A.in1) hh s.heap.objs.size l jt _,⟨⟨_,aR _ rfl,rfl,rfl⟩,hl.push _⟩,?_,λh' tk hk=> ?_⟩
 ·intro i v s Q E hv hq;have hv:(bs.map Value.bool).toArray[i]? =some v:=hv;rw [cq,bB] at hv;injection eo hv with b hb;refine cA ?_
  replace hq:Q (bs.getD i true) s:=hq
  rw [cJ,hb] at hq;exact hq
 ·have:(List.range (bs.map Value.bool).toArray.size).all (λi=>bs.getD i true)=bs.all id:=by
   rw [aM,ao];clear q hl;induction bs with
   | nil=>rfl
   | cons b r ih=>rw [bZ,List.range_succ_eq_map,List.all_cons,f9,List.all_cons,<-ih]; rfl
  exact q c h' tk _ (Le.refl c) (Hq hR hk) (av _ this)
theorem Of(h:n<=sizeLine):(n:Int)<2 ^ 63:=Int.lt_of_le_of_lt (cG.mpr h) ∅
theorem Ah(hR:bQ c F σ s.heap)(h:Hi x=some v)(V:VR c x a)(q:jP F c σ s v Q):wpAny aO A (call (.builtin "len") [a]) Q E s:=by
 induction x using lH with
 | lst l=>obtain rfl:=ae h;injection V with d vs n t S b;refine PyProof.Rows.len_list (dJ hR t) (Of (g7 S b)) (q.at hR ?_);rw [aM,<-aY S]; exact ⟨_⟩
 | tup l=>obtain rfl:=ae h;injection V with d vs n t S b;refine PyProof.Rows.len_tuple (oN hR t) (Of (g7 S b)) (q.at hR ?_);rw [aM,<-aY S]; exact ⟨_⟩
 | bytes l=>obtain rfl:=ae h;induction V with | mk t b=>exact len_bytes (af b ∅) (q.at hR ⟨_⟩)
 | _=>exact nn h
end
section
variable{σ σ':St}{v x:V}{a:Value}
theorem zu(hh:A.handled=none)(hR:bQ c F σ s.heap)(h:UX x=some v)(V:VR c x a)(q:jP F c σ s v Q):wpAny aO A (call (.builtin "sum") [a]) Q E s:=by
 refine aJ h λl hl h2=> ?_;refine aJ h2 λis hi h3=> ?_;injection eC h3 with _;obtain rfl:=kP hl;injection V with d vs n t S b;rw [jv hi] at S;have I:=j9 S;refine ag I.allInts.items λxs e=> ?_;have xZ:is=xs.toList.map (·.1):=by rw [<-I.numsOf,<-nums_intItems,<-e]
 refine sum_intListG hh (e▸dJ hR t) λh' tk t' kp=>q c h' tk _ (Le.refl c) (hR.keeps kp) ?_;have:preSum (numAt xs) xs.size=is.sum:=by rw [preSum_eq,xZ,List.take_of_length_le (by rw [ao,Array.length_toList]; exact aA _)]
 rw [this]; exact ⟨t'⟩
def KY(m j:Int):Int:=bif decide (m<j)then j else m
theorem VX(m j:Int):m<=KY m j/\j<=KY m j/\(KY m j=m\/KY m j=j):=by
 unfold KY;induction h:decide (m<j)using eK with
 | true=>exact ⟨Int.le_of_lt (cE h),Int.le_refl _,.inr rfl⟩
 | false=>exact ⟨Int.le_refl _,Int.not_lt.mp (eU h),.inl rfl⟩
theorem Cv:∀ (r:List Int) (i:Int),r.foldl KY i∈i::r/\∀ a∈i::r,a<=r.foldl KY i
 | [],i=>⟨aq,λa h=>ay.mp h▸Int.le_refl _⟩
 | j::r,i=>by
  refine And.elim (λh1 h2=> ?_) (Cv r (KY i j));refine And.elim (λm1 z1=>And.elim (λm2 m3=> ?_) z1) (VX i j);rw [List.foldl_cons];have h3:=h2 _ aq;refine ⟨?_,ah.mpr ⟨cn m1 h3,ah.mpr ⟨cn m2 h3,λa ha=>h2 a (aw _ ha)⟩⟩⟩;rcases aH.mp h1 with h1 | h1
  ·rw [h1];rcases m3 with e | e
   ·rw [e]; exact aq
   ·rw [e]; exact aw _ aq
  ·exact aw _ (aw _ h1)
theorem Ae(hh:A.handled=none)(hR:bQ c F σ s.heap){l:List V}(hi:dG l=some is)(h:G7 is=some v)(V:VR c (.lst l) a)(q:jP F c σ s v Q):wpAny aO A (call (.builtin "max") [a]) Q E s:=by
 induction is using lh with
 | nil=>exact nn h
 | cons i r=>obtain rfl:=ae h;injection V with d vs n t S b;rw [jv hi] at S;injection hR.Fi with g m news Fm N up k0 kk;refine max_list_N hh Fm N (dJ hR t) (j9 S) (cN _) λh' M t' tk F' N' m1 m2=> ?_;refine And.elim (λf1 f2=> ?_) (Cv r i);have hM:M=r.foldl KY i:=Int.le_antisymm (f2 _ m1) (m2 _ f1);refine ag (k0 h' F' N') λc' z1=>And.elim (λl R'=> ?_) z1;exact q c' h' tk _ l R' (hM▸⟨t'⟩)
theorem G4(hh:A.handled=none)(hR:bQ c F σ s.heap){i j:Int}{t u:Tok}(b:Bool)(q:jP F c σ s (.int (bif b then(bif decide (j<i)then j else i)else(bif decide (i<j)then j else i))) Q):wpAny aO A (call (.builtin (bif b then "min" else "max")) [.int i t,.int j u]) Q E s:=by
 induction b using eK with
 | true=>
  refine min_two_ints hh λh' tk kp=>q c h' tk _ (Le.refl c) (hR.keeps kp) ?_;show MU _ _;by_cases hc:j<i
  ·rw [dm hc,ak hc]; exact ⟨u⟩
  ·rw [cb hc,aT hc]; exact ⟨t⟩
 | false=>
  refine max_two_ints hh λh' tk kp=>q c h' tk _ (Le.refl c) (hR.keeps kp) ?_;show MU _ _;by_cases hc:i<j
  ·rw [dm hc,ak hc]; exact ⟨u⟩
  ·rw [cb hc,aT hc]; exact ⟨t⟩
theorem pj:∀ {l:List (V×V)} {es:List DictEntry},iV c l es->dw c (l.map (·.1)) (es.map (·.key))
 | [],_,rfl=>rfl
 | (k,x)::l,_,⟨d,t,a,_,_,r⟩=>show dw c (k::l.map (·.1)) (d.key::t.map (·.key))from⟨d.key,_,a,pj r⟩
theorem yQ:∀ {l:List (V×V)} {es:List DictEntry},iV c l es->dw c (l.map (·.2)) (es.map (·.val))
 | [],_,rfl=>rfl
 | (k,x)::l,_,⟨d,t,_,b,_,r⟩=>show dw c (x::l.map (·.2)) (d.val::t.map (·.val))from⟨d.val,_,b,yQ r⟩
theorem rP(hA:iZ F.r A)(hR:bQ c F σ s.heap)(D:qA c s.heap d l)(hb:l.length<=100000)(q:jP F c σ s (.lst (l.map (·.1))) Q):wpAny aO A (call (.type "list") [.ref d]) Q E s:=by
 injection D with es n lo ho D nd;refine kdl_call (Wo (n:=n) (es:=es) lo) hA.handled ho (fE D▸af hb ∅) λh' tk acc aX kp hS nT=> ?_;injection hR.Fw kp (o:=dQ acc.toList aX) hS with c' le R' t';have XB:acc.toList=es.map (·.key):=by
  apply List.ext_getElem?;intro i;rw [bB];induction hi:es[i]? using nN with
  | none=>exact ij (by rw [Array.length_toList,nT.1]; exact List.getElem?_eq_none_iff.mp hi)
  | some e=>
   have h2:i<acc.size:=by rw [nT.1]; exact eV hi
   refine ag (nT.2 i acc[i] (iC h2)) λe' z1=>And.elim (λh3 h4=> ?_) z1;rw [hi] at h3; obtain rfl:=ae h3;rw [Array.getElem?_toList,iC h2,h4]; rfl
 exact q c' h' tk _ le R' ⟨_,_,aX,t',XB▸dw.mono le.toji _ _ (pj D),(ao ..).symm▸hb⟩
theorem xH(hA:iZ F.r A)(hR:bQ c F σ s.heap){l:List V}(h:Ai σ.W x=some l)(V:VR c x a)(q:jP F c σ s (.lst l) Q):wpAny aO A (call (.type "list") [a]) Q E s:=by
 induction x using lH with
 | lst m=>obtain rfl:=ae h;injection V with d vs n t S b;refine call_list_seq d (.inl rfl) (hR.w.hold _ _ _ t) rfl rfl (λh' aX kp ho=> ?_) (g7 S b);induction hR.Fw kp (o:=dQ vs aX) ho with | mk c' l R' t'=>exact q c' h' _ _ l R' ⟨_,vs,aX,t',dw.mono l.toji _ _ S,b⟩
 | df m=>obtain rfl:=ae h;induction V with | mk d es n t D nd b=>exact rP hA hR ⟨es,n,jT hR.w t rfl,hR.w.hold _ _ _ t,D,nd⟩ b q
 | glob n=>injection eo h with m hm;induction V;induction hR.w.jx n _ (iu hm)with | mk es e t D nd b=>exact rP hA hR ⟨es,e,jT hR.w t rfl,hR.w.hold _ _ _ t,D,nd⟩ b q
 | _=>exact nn h
theorem zk(hR:bQ c F σ s.heap){l:List V}(V:VR c (.lst l) a)(q:jP F c σ s (.tup l) Q):wpAny aO A (call (.type "tuple") [a]) Q E s:=by induction V with | mk d vs n t S b=>exact call_tuple_list (dJ hR t) (λh' kp=>jP.tup q (hR.keeps kp) S b) (g7 S b)
end
section
variable{σ σ':St}{v x:V}{a:Value}
structure ToB(is:List Int)(bs:List UInt8):Prop where
 r:∀ n∈is,0<=n/\n<256
 e:(byteArr is).toList=bs
theorem ua:∀ {is:List Int} {bs:List UInt8},toBytes is=some bs->ToB is bs
 | [],bs,h=>by obtain rfl:=ae h; exact ⟨(λZ h=>nomatch h),rfl⟩
 | i::is,bs,h=>by
  refine aJ h λb hb h2=> ?_;injection eo h2 with cs hcs;unfold iy at hb;induction q:decide (0<=i)&&decide (i<256)using eK with
  | false=>rw [q] at hb; exact nn hb
  | true=>rw [q] at hb;obtain rfl:=ae hb;have T:=ua hcs;exact ⟨ah.mpr ⟨⟨cE (aW q).1,cE (aW q).2⟩,T.r⟩,by rw [<-T.e]; simp [byteArr]⟩
theorem IW{v:Value}(h:wpAny aO A.in1 (Builtin.«bytes.__new__» ⟨[.type "bytes",v],[]⟩) (λfin s'=>match fin with | .done (.ret o)=>Q o s' | _=>False) E s):
  codeAny aO A (.call (.builtin "bytes.__new__") ⟨[.type "bytes",v],[]⟩) (wants Q E) s:=by
 refine codeAny_of_tree ?_;show wpAny _ A.in1 (do checkBuiltinCall "bytes.__new__" ⟨[.type "bytes",v],[]⟩; again (.builtin "bytes.__new__" ⟨[.type "bytes",v],[]⟩)) _ _ s;refine aa (c9 (PySem.F.bm_newCall _) (aj ⟨plainId_quiet PySem.F.bm_plain _,codeAny_builtin PySem.F.bm_entry ?_⟩));rw [Around.under_plainId PySem.F.bm_plain _];refine wpAny_mono h (λfin s' hf=> ?_) λZ Z e=>e;induction fin using PySem.Fin.casesOn with
 | done r=>induction r using PySem.Flow.casesOn <;> first | exact hf.elim | exact hf
 | _=>exact hf.elim
theorem uV{v:Value}(h:wpAny aO A.in1.in1 (Builtin.«bytes.__new__» ⟨[.type "bytes",v],[]⟩) (λfin s'=>match fin with | .done (.ret o)=>s'.TypeIs o "bytes" /\Q o s' | _=>False) E s):
  wpAny aO A (call (.type "bytes") [v]) Q E s:=by
 refine callType_codes (Q₁:=λobj cU=>cU.TypeIs obj "bytes" /\Q obj cU) PySem.F.bm_called (PySem.F.bm_typeCall _) PySem.F.entry_object_init (IW h) λobj cU aS=> ?_;exact ⟨aS.1,PySem.F.args_object_init_2 obj _,object_init_meets PySem.F.bm_called.init.lookup PySem.F.bm_called.made ∅ _ _ A.in1 _ cU ⟨aS.1,rfl,aS.2⟩⟩
theorem AV{n:Int}{t:Tok}(h0:0<=n)(h1:n<=1000)(q:∀ t' tk,Q (.bytes (Array.replicate n.toNat 0) t') {s with toks:=tk}):wpAny aO A (call (.type "bytes") [.int n t]) Q E s:=by
 have KX:typeLookup (.type "int") "__bytes__" =pure none:=by rw [typeLookup_type,builtinLookup_eq_fast]; kernel_rfl
 have ET:typeLookup (.type "int") "__index__" =pure (some (.builtin "int.__index__")):=by rw [typeLookup_type,builtinLookup_eq_fast]; kernel_rfl
 refine uV ?_;have hT:s.TypeIs (.int n t) "int" :=typeIs_int _ _ _;unfold Builtin.«bytes.__new__»;refine aa (c9 (a:=true) rfl ?_);refine cW rfl ?_;refine aa (c9 PySem.F.bm_sub ?_);refine cW rfl ?_;refine aa (c9 (PySem.F.bm_bind _) ?_);refine aa (c9 (a:=()) rfl ?_);refine aa (c9 (a:=()) rfl ?_);refine cW rfl ?_;refine aa (wpAny_specialOf hT KX ?_);refine aa (c9 (a:=false) rfl ?_);refine cW rfl ?_;refine aa (wpAny_specialOf hT ET ?_);refine cW rfl ?_;refine aa (wpAny_attempt (c9 (a:=n) rfl ?_));have hf:(!Builtin.Bytes.fitsIndex n)=false:=by unfold Builtin.Bytes.fitsIndex;rw [Bool.not_eq_false',fZ,decide_eq_true_eq,decide_eq_true_eq];omega
 refine cW hf ?_;rw [cb (by omega)];rw [cb (by omega)];refine cW (by unfold Builtin.Bytes.tooLong sizeLine; rw [decide_eq_false_iff_not]; omega) ?_;refine aa (wpAny_rule ?_);refine aa (wpAny_mkBytes ?_ (by simp; unfold sizeLine; omega));show wpAny _ _ (if(Value.type "bytes" ==Value.type "bytes")=true then _ else _) _ _ _;refine fS ∅ ?_
 first
  | exact aj ⟨iL _ _ _,q _ _⟩
  | exact aa (aj (aj ⟨iL _ _ _,q _ _⟩))
theorem wj{b:Array UInt8}{t:Tok}(q:Q (.bytes b t) s):wpAny aO A (call (.type "bytes") [.bytes b t]) Q E s:=by
 have EU:typeLookup (.type "bytes") "__bytes__" =pure (some (.builtin "bytes.__bytes__")):=by rw [typeLookup_type,builtinLookup_eq_fast]; kernel_rfl
 refine uV ?_;have hT:s.TypeIs (.bytes b t) "bytes" :=iL _ _ _;unfold Builtin.«bytes.__new__»;refine aa (c9 (a:=true) rfl ?_);refine cW rfl ?_;refine aa (c9 PySem.F.bm_sub ?_);refine cW rfl ?_;refine aa (c9 (PySem.F.bm_bind _) ?_);refine aa (c9 (a:=()) rfl ?_);refine aa (c9 (a:=()) rfl ?_);refine cW rfl ?_;refine aa (wpAny_specialOf hT EU ?_);refine aa (wpAny_rule (aa (wpAny_typeOf hT ?_)));refine fS ∅ ?_;show wpAny _ _ (if(Value.type "bytes" ==Value.type "bytes")=true then _ else _) _ _ _;refine fS ∅ ?_
 first
  | exact aj ⟨iL _ _ _,q⟩
  | exact aa (aj (aj ⟨iL _ _ _,q⟩))
theorem AW(hh:A.handled=none)(hR:bQ c F σ s.heap)(h:YG x=some v)(V:VR c x a)(q:jP F c σ s v Q):wpAny aO A (call (.type "bytes") [a]) Q E s:=by
 induction x using lH with
 | int n=>injection eC h with g;injection V with t;have h1:=cE (aW g).2;exact AV (cE (aW g).1) h1 λt' tk=>q c s.heap tk _ (Le.refl c) hR (by rw [<-List.toArray_replicate]; exact ⟨t',by rw [fM]; omega⟩)
 | lst l=>
  injection eo h with bs h2;refine aJ h2 λis h1 h3=> ?_;injection V with d vs n t S b;have e:=jv h1;rw [e] at S;have T:=ua h3;refine call_bytes_ints (dJ hR t) (j9 S) T.r (g7 S (e▸b)) hh λh' t' tk kp=>q c h' tk _ (Le.refl c) (hR.keeps kp) ?_;have k:bs.length<=100000:=by rw [<-T.e,Array.length_toList,byteArr_size,<-ao (f:=V.int),<-e]; exact b
  show SR bs _;rw [show byteArr is=bs.toArray by rw [<-T.e]]; exact ⟨t',k⟩
 | bytes l=>obtain rfl:=ae h;have V':=V;induction V with | mk t b=>exact wj (q.qe hR V')
 | _=>exact nn h
theorem jP.ql{i j k:Int}{t u w:Tok}(q:jP F c σ s (.ql i j k) Q)(R:bQ c F σ h):Q (.ref h.objs.size) {s with heap:=h.push (PS i j k t u w),toks:=tk}:=q _ _ tk _ (R.gw .gN (PS i j k t u w)) (R.alloc .gN _ rfl) ⟨_,t,u,w,aF ..⟩
theorem zJ(hR:bQ c F σ s.heap)(h:Vj as=some v)(V:dw c as ws)(q:jP F c σ s v Q):wpAny aO A (call (.type "range") ws) Q E s:=by
 induction as using lh with
 | nil=>exact nn h
 | cons a as=>
 injection V with w t V1 V;induction as using lh with
 | nil=>injection eo h with i hi;obtain rfl:=fJ hi;subst V;induction V1;exact call_range_1 (jP.ql q hR)
 | cons b as=>
 injection V with w2 t V2 V;induction as using lh with
 | nil=>refine aJ h λi hi h2=> ?_;refine aJ h2 λj hj h3=> ?_;obtain rfl:=fJ hi; obtain rfl:=fJ hj; obtain rfl:=ae h3;subst V; induction V1; induction V2;exact call_range_2 (jP.ql q hR)
 | cons d as=>
 injection V with w3 t V3 V;induction as using lh with
 | nil=>
  refine aJ h λi hi h2=> ?_;refine aJ h2 λj hj h3=> ?_;refine aJ h3 λk hk h4=> ?_;obtain rfl:=fJ hi; obtain rfl:=fJ hj; obtain rfl:=fJ hk;injection eC h4 with g;subst V; induction V1; induction V2; induction V3;have hd:(0<k/\k<1000)\/k= -1:=by
   rcases Bool.or_eq_true_iff.mp g with g | g
   ·exact .inl ⟨cE (aW g).1,cE (aW g).2⟩
   ·exact .inr (cE g)
  exact call_range_3 (by omega) (jP.ql q hR) (.inl (PyProof.noPylong_small (by omega)))
 | cons=>exact nn h
theorem uY(hA:iZ F.r A)(hR:bQ c F σ s.heap){kb:Nat}(h6:kb≠6)(h8:kb≠8)(h:jN σ.W kb as=some v)(V:dw c as ws)(q:jP F c σ s v Q):wpAny aO A (call (sQ kb) ws) Q E s:=by
 have hh:=hA.handled;revert h6 h8 h
 match kb with
 | 0=>intro Z Z h; induction eY h with | mk x h1 h2=>induction lL h1 V with | mk w Y=>exact Ah hR h2 Y q
 | 1=>intro Z Z h; induction eY h with | mk x h1 h2=>induction lL h1 V with | mk w Y=>exact zu hh hR h2 Y q
 | 2=>intro Z Z h; induction eY h with | mk x h1 h2=>induction lL h1 V with | mk w Y=>induction eo h2 with | mk b hb=>obtain rfl:=yN hb; induction Y with | mk t _=>exact Ja hh hR q
 | 3=>intro Z Z h;injection eY h with x h1 h2;injection lL h1 V with w Y;injection eY h2 with l hl h3;injection eo h3 with bs hb;obtain rfl:=kP hl;injection Y with d vs n t S b;rw [rM (g:=Mine.V.bool) lN hb] at S;rw [Ez S] at t;exact Jc hh hR (dJ hR t) q
 | 4=>intro Z Z h;injection eY h with p h1 h2;injection eY h2 with i hi h3;injection eY h3 with j hj h4;have V:=Bo h1 V;rw [fJ hi,fJ hj] at V;obtain rfl:=ae h4;induction V with | mk w u V1 V2=>induction V1; induction V2; exact G4 hh hR true q
 | 5=>
  intro Z Z h;induction as using lh with
  | nil=>exact nn h
  | cons a r=>induction r using lh with
   | nil=>injection eY h with l hl h2;injection eY h2 with is hi h3;obtain rfl:=kP hl;induction V with | mk w t V1 V2=>subst V2; exact Ae hh hR hi h3 V1 q
   | cons b r=>injection eY (x:=oA (a::b::r)) h with p h1 h2;injection eY h2 with i hi h3;injection eY h3 with j hj h4;have V:=Bo h1 V;rw [fJ hi,fJ hj] at V;obtain rfl:=ae h4;induction V with | mk w u V1 V2=>induction V1; induction V2; exact G4 hh hR false q
 | 6=>exact λh=>absurd rfl h
 | 7=>intro Z Z h; induction eY h with | mk x h1 h2=>induction lL h1 V with | mk w Y=>induction eo h2 with | mk l hl=>exact xH hA hR hl Y q
 | 8=>exact λZ h=>absurd rfl h
 | 9=>intro Z Z h; induction eY h with | mk x h1 h2=>induction lL h1 V with | mk w Y=>induction eo h2 with | mk l hl=>obtain rfl:=kP hl; exact zk hR Y q
 | 10=>intro Z Z h; induction eY h with | mk x h1 h2=>induction lL h1 V with | mk w Y=>exact AW hh hR h2 Y q
 | 11=>intro Z Z h; exact zJ hR h V q
 | _+12=>intro Z Z h; exact nn h
end
theorem vK {xs:Array Value} {k:Nat} {Q:Option Value->Shared->Prop}
  (hx:s.heap.get? a=some {cls:=.type "list",data:=.seq xs k}) (hA:A.handled=none)
  (h:∀ h' tk,(∀ b o,s.heap.get? b=some o->h'.get? b=some o)->Q none {s with heap:=h',toks:=tk}):
  wpAny aO A (getAttr? (.ref a) (Str.ofString "keys")) Q E s:=by
 have Xj:typeLookup (.type "list") (Str.ofString "keys")=pure none:=by rw [typeLookup_type,builtinLookup_eq_fast]; kernel_rfl
 have Xg:(["__module__","__name__","__qualname__","__doc__","__annotations__"]:List Str).contains (Str.ofString "keys")=false:=by decide+kernel
 have za:(Str.ofString "keys").length+100<=sizeLine:=by decide+kernel
 obtain ⟨hp,g,d,tk,os⟩:=s;have hT:∀ lX,(⟨hp,g,d,lX,os⟩:Shared).TypeIs (.ref a) "list" :=λZ=>⟨_,hx,rfl⟩
 have f1:=sub_AttributeError;have f3:=PySem.F.slot_list_getattribute.lookup;have f4:=PySem.F.slot_list_getattribute.bind (.ref a);have f5:=am_list_getattr_none;unfold getAttr? getAttrBy? getAttrBy
 repeat(any_goals (first | assumption | exact hT _ | ((with_reducible show wpAny _ _ (call (Value.builtin "list.__getattribute__") _ _) _ _ _); refine call_meets PySem.F.slot_list_getattribute (hT _) am_entry_list_getattribute (PySem.F.args_list_getattribute_2 _ _) (meets_getattribute_miss_list a xs k _ _ _ Xj Xg za) ⟨hx,hA,λh' lX e ZY=> ?_⟩) | wp_step))
 refine ag ZY.there λt' z1=>ag z1 λu' he=> ?_;show wpAny _ _ (getattributeRaised _ _ _ _ _ _ _) _ _ _;unfold getattributeRaised
 repeat(any_goals (first | assumption | wp_step))
 exact h _ _ ZY.keeps
theorem mS:plainId "dict.update.loop" =true:=by decide+kernel
theorem uK:entryFor table "dict.update.loop" =some Builtin.«dict.update.loop»:=by first | exact entryFor_of_fast ⋯ | exact entryFor_of_tree ⋯
theorem zW{v:V}{p:V×V}(h:(MC v).bind oA=some p):v=.tup [p.1,p.2]:=by
 refine aJ h λl hl h2=> ?_;obtain rfl:=sV hl;induction l using lh with
 | nil=>exact nn h2
 | cons a r=>induction r using lh with
  | nil=>exact nn h2
  | cons b r=>induction r using lh with
   | nil=>obtain rfl:=ae h2; rfl
   | cons=>exact nn h2
section
variable{σ σ':St}
theorem zR{P9 o:Obj}(hd:c.T d=some (.bO,P9)):ji c (c.put d .bO o)/\ji (c.put d .bO o) c:=by
 refine ⟨(Ch.put hd eT).gf,⟨λa o' e=> ?_,aA _,λZ Z=>rfl,λZ Z=>rfl⟩⟩;rcases cm e with⟨_,q,_⟩ | ⟨_,e⟩
 ·exact (gG.noConfusion q)
 ·exact e
theorem mD(k v:V):∀ l:List (V×V),(gq k v l).length<=l.length+1
 | []=>aA _
 | e::r=>by
  rw [sD];induction dK e.1 k using eK with
  | true=>exact da _
  | false=>exact cC (mD k v r)
theorem CG{k v:V}{m:Nat}(hk:kk k=m):∀ {l:List (V×V)},(∀ q∈l,kk q.1=m)->∀ q∈gq k v l,kk q.1=m
 | [],_,q,hq=>ay.mp hq▸hk
 | e::r,h,q,hq=>by
  rw [sD] at hq;have h:=ah.mp h;induction he:dK e.1 k using eK with
  | true=>
   rw [he] at hq;rcases aH.mp hq with e | hq
   ·subst e; exact h.1
   ·exact h.2 q hq
  | false=>
   rw [he] at hq;rcases aH.mp hq with e | hq
   ·subst e; exact h.1
   ·exact CG hk h.2 q hq
inductive Tab(c:bc)(d:Addr)(h:Heap)(acc:List (V×V)):Prop
 | mk (es:List DictEntry) (n:Nat) (g:h.get? d=some (b9 es n)) (D:iV c acc es) (nd:pS acc)
abbrev aer(c:bc)(s:Shared)(d:Addr)(l:List (V×V))(R:Result->Shared->Prop):Prop:=∀ h' lX,Tab c d h' l->l.length<=99999->(∀ a t o,a≠d->c.T a=some (t,o)->h'.get? a=some o)->R (.ok (.ret .none)) {s with heap:=h',toks:=lX}
theorem J2{l:Addr}{P9:Obj}(hd:c.T d=some (.bO,P9)){m:Nat}(hm:m≠0){xu:Nat}(hl:c.T l=some (.gN,dQ vs xu))(XD:I≠d)(hI:c.T I=none)(hh:A.handled=none)(hu:A.units+2<cLine):
  ∀ (ps:List (V×V)) (i:Nat) (acc:List (V×V)) (aS:Heap) (tk:Nat),
   dw c (ps.map λe=>V.tup [e.1,e.2]) (vs.drop i)->i+ps.length=vs.length->(∀ a t o,a≠d->c.T a=some (t,o)->aS.get? a=some o)->aS.IsListIter I l i->Tab c d aS acc->
   (∀ p∈ps,kk p.1=m)->(∀ p∈acc,kk p.1=m)->acc.length+ps.length<=99999->aer c s d (jM acc ps) R->
   codeAny aO A (.builtin "dict.update.loop" ⟨[.ref d,.ref I,rawInt i,.none],[]⟩) R {s with heap:=aS,toks:=tk}:=λps=>by
 induction ps with
 | nil=>
  intro i acc aS tk hv hlen hold hit hT S9 nT hle q;injection hT with es n ho hD hn;refine codeAny_builtin uK ?_;rw [Around.under_plainId mS _];have hL:aS.IsList l vs.toArray:=⟨_,hold l _ _ (λe=>by rw [e,hd] at hl; cases hl) hl,rfl,xu,rfl⟩
  show wpAny _ A.in1 (pyNext (.ref I)>>=_) _ _ _;refine aa (wpAny_pyNext_list_end hh hit hL (by rw [cq]; exact ij (bW hlen.symm)) λh' he=> ?_);show wpAny _ _ (Builtin.Dict.addKeywords d []>>=_) _ _ _;exact aa (aj (aj (q h' tk ⟨es,n,he d _ XD.symm ho,hD,hn⟩ hle λa t o ha e=>he a o (λq=>by rw [q,hI] at e; exact (mK e)) (hold a t o ha e))))
 | cons p ps ih=>
  intro i acc aS tk hv hlen hold hit hT S9 nT hle q;injection hT with es n ho hD hn;refine codeAny_builtin uK ?_;rw [Around.under_plainId mS _];have hL:aS.IsList l vs.toArray:=⟨_,hold l _ _ (λe=>by rw [e,hd] at hl; cases hl) hl,rfl,xu,rfl⟩
  generalize hdr:vs.drop i=dv at hv;injection hv with w t V1 rest;rw [bZ] at hlen hle;have hx:vs[i]? =some w:=by
   have:(vs.drop i)[0]? =some w:=by rw [hdr]; rfl
   rw [List.getElem?_drop] at this; exact this
  have ac1:vs.drop (i+1)=t:=by rw [<-List.drop_drop,hdr]; rfl
  injection V1 with T us m' hT S b;injection S with ka EE Vk S;injection S with xb agT Vx S;subst S;show wpAny _ A.in1 (pyNext (.ref I)>>=_) _ _ _;refine aa (wpAny_pyNext_list_item (x:=.ref T) hit hL (by rw [cq]; exact hx) λeG QV NX=> ?_);refine aa (bq ?_);have vQ:∀ a t o,a≠d->c.T a=some (t,o)->eG.get? a=some o:=λa t o ha e=>NX.extBut a o (λq=>by rw [q,hI] at e; exact (mK e)) (hold a t o ha e);have NY:eG.get? d=some (b9 es n):=NX.extBut d _ XD.symm ho;have XC:=vQ T _ _ (λe=>by rw [e,hd] at hT; cases hT) hT;have hTy:({s with heap:=eG,toks:=tk}:Shared).TypeIs (.ref T) "tuple" :=⟨_,XC,rfl⟩
  refine aa (wpAny_tryCatch ?_);unfold Builtin.Dict.pairItems;refine aa (wpAny_typeOf hTy ?_);refine fS ∅ ?_;refine aa ?_;unfold seqItems?;refine aa (wpAny_load XC (aj (aj ?_)));show wpAny _ _ (holding [ka,xb] (dictSet d ka xb)) _ _ _;have hk:kk p.1=m:=S9 p aq;refine And.elim (λle1 le2=> ?_) (zR (o:=b9 es n) hd);have hdk:ju p.1 acc=true:=by unfold ju;rw [hk,fZ,bne_iff_ne,aK];exact ⟨hm,λx hx=>aD.mpr (nT x hx)⟩
  have Xb:∀ a t o,(c.put d .bO (b9 es n)).T a=some (t,o)->eG.get? a=some o:=λa t o e=>by
   rcases cm e with⟨rfl,rfl,rfl⟩ | ⟨ha,e⟩
   ·exact NY
   ·exact vQ a t o ha e
  refine bq (yu (s:={s with heap:=eG,toks:=tk}) (c:=c.put d .bO (b9 es n)) Xb (by show A.units+1<cLine; lia) NY (iV.mono le1 _ _ hD) hn hdk (ak (by lia)) (VR.mono le1 _ _ Vk) (VR.mono le1 _ _ Vx) λgR lJ D=>aj ⟨plainId_quiet mS _,?_⟩);refine ag D λYl z1=>ag z1 λabV z2=>And.elim (λW9 z3=>And.elim (λrY z4=>And.elim (λXc uC=> ?_) z4) z3) z2;have uC:Heap.SameBut d eG gR:=uC;exact ih (i+1) (gq p.1 p.2 acc) gR lJ (by rw [ac1]; exact rest) (by lia) (λa t o ha e=>(uC.2 a ha).trans (vQ a t o ha e)) (QV.extBut uC.extBut XD) ⟨Yl,abV,W9,iV.mono le2 _ _ rY,Xc⟩
   (λx hx=>S9 x (aw _ hx)) (CG hk nT) (by have:=mD p.1 p.2 acc; lia) q
end
section
variable{σ σ':St}
theorem Mf(h:ju k l=true):∀ p∈l,kk p.1=kk k:=λp hp=>aD.mp (aK.mp (aW h).2 p hp)
theorem yv(hA:iZ F.r A)(hR:bQ c F σ s.heap){x v:V}{l ps:List (V×V)}{xs:List V}(hx:ze x=some xs)(hp:nc xs=some ps)(h:Me ps=some v)(V:VR c x w)(q:jP F c σ s v Q):wpAny aO A (call (.type "dict") [w]) Q E s:=by
 obtain rfl:=kP hx;injection eC h with g;have HF:ps.length<=1000:=cE (aW g).1;have hok:=(aW g).2;have hm0:=rM (g:=λe:Mine.V×Mine.V=>Mine.V.tup [e.1,e.2]) zW hp;injection V with a vs n ta S b;have hlen:=aY S;have hh:=hA.handled;refine callType_codes (Q₁:=λobj cU=>obj=.ref s.heap.objs.size/\cU=pu s {cls:=.type "dict",data:=.dict #[]}) PySem.F.kt_called_dict (PySem.F.kt_typeCall_dict_1 _) PySem.F.entry_dict_init (kt_code_dict_new _ ⟨rfl,rfl⟩) ?_;rintro obj cU ⟨rfl,rfl⟩;have cy:=hR.alloc .bO (b9 [] 0) rfl;have cV:=hR.gw .bO (b9 [] 0);have hD0:=aF c s.heap.objs.size .bO (b9 [] 0);have Fu:=cV.gN _ _ ta;have XC:(pu s {cls:=.type "dict",data:=.dict #[]}).TypeIs (.ref s.heap.objs.size) "dict" :=⟨_,aR _ rfl,rfl⟩
 have Z4:=cy.w.hold _ _ _ Fu;have hTl:(pu s {cls:=.type "dict",data:=.dict #[]}).TypeIs (.ref a) "list" :=⟨_,Z4,rfl⟩
 refine ⟨XC,PySem.F.args_dict_init_2 _ _,?_⟩;unfold Builtin.«dict.__init__»;refine aa ?_;unfold Builtin.Dict.selfAndRest;refine aa (eH XC ?_);show wpAny _ _ (pure (s.heap.objs.size,[Value.ref a])) _ _ _;refine aj ?_;show wpAny _ _ (Builtin.Dict.updateFrom "dict.__init__" s.heap.objs.size (.ref a) [] .none) _ _ _;unfold Builtin.Dict.updateFrom;refine aa (wpAny_typeOf hTl ?_);rw [dm ∅];refine aa (vK Z4 hh λeG fG Wj=> ?_);refine fS rfl ?_;have du:=cy.keeps Wj;refine aa (wpAny_rule (aa (wpAny_pyIter_list (items:=vs.toArray) ⟨_,du.w.hold _ _ _ Fu,rfl,n,rfl⟩ ?_)));have gI:=du.push {cls:=.type "list_iterator",data:=.fields #[.ref a,.int 0 0]};have hI:(c.put s.heap.objs.size .bO (b9 [] 0)).T eG.objs.size=none:=du.w.fresh;have XD:eG.objs.size≠s.heap.objs.size:=λe=>by rw [e,aF] at hI; exact (SW hI)
 obtain ⟨m,hm,HP⟩:∃ m,m≠0/\∀ p∈ps,kk p.1=m:=by
  induction S9:ps using lh with
  | nil=>exact ⟨1,λq=>((absurd (q) ∅)),λp hp=>(eX hp)⟩
  | cons p0 pr=>have h0:=aK.mp hok p0 (by rw [S9]; exact aq);exact ⟨_,wg h0,S9▸Mf h0⟩
 refine aj ⟨plainId_quiet mS _,J2 (A:=A.in1) (s:=s) hD0 hm Fu XD hI hh (hA.un (n:=3) ∅) ps 0 [] _ fG (hm0▸dw.mono cV.toji _ _ S) (by rw [<-hlen,hm0,ao,bF]) (λb t o Z e=>gI.w.hold b t o e) ⟨_,aR _ rfl,rfl,rfl⟩
  ⟨[],0,aE _ (du.w.hold _ _ _ hD0),rfl,List.Pairwise.nil⟩ HP (λp hp=>(eX hp)) (by rw [List.length_nil,bF]; exact af HF ∅) λh' lX T N0 hold=>⟨rfl,?_⟩⟩
 injection T with es n' ho hD hn;have A9:bQ (c.put s.heap.objs.size .bO (b9 es n')) F σ h':=(hR.alloc .bO (b9 es n') rfl).heap λb t o e=>by
  rcases cm e with⟨rfl,rfl,rfl⟩ | ⟨hb,e⟩
  ·exact ho
  ·exact hold b t o hb ((bY _ _ _ hb).trans e)
 injection bQ.fin hR.w (hR.gw .bO (b9 es n')) hR.w.fresh (aF ..) hR.w.j8 A9 (Heap.SameBut.refl _ _) ho .gN with f1 f2 f3;have z:ji (c.put s.heap.objs.size .bO (b9 [] 0)) c:=⟨λb o e=>by
  rcases cm e with⟨_,q,_⟩ | ⟨_,e⟩
  ·exact (gG.noConfusion q)
  ·exact e,aA _,λZ Z=>rfl,λZ Z=>rfl⟩
 exact q _ h' lX _ f1 f3 ⟨_,es,n',aF ..,iV.mono (z.trans f1.toji) _ _ hD,hn,af N0 ∅⟩
end
theorem ug:Slot "bytes" "join" "bytes.join" :=
 .of (owner:="bytes") (n:="join") (by rw [typeLookup_type,builtinLookup_eq_fast]; kernel_rfl) (by decide+kernel) (by decide+kernel) (by decide+kernel)
  (by first | exact .inl (by decide+kernel) | exact .inr (by decide+kernel)) (by rw [isSubtype_type]; kernel_rfl)
theorem Dc:typeOf (.builtin "bytes.join")=pure (.type "method_descriptor"):=by show builtinType _=_; rw [builtinType_eq_fast]; kernel_rfl
theorem AH:entryFor table "bytes.join" =some Builtin.«bytes.join»:=by first | exact entryFor_of_tree ⋯ | exact entryFor_of_fast ⋯
theorem Et(a b:Value):argsOk "bytes.join" ⟨[a,b],[]⟩:=by unfold argsOk; rw [signature?_of (id:="bytes.join") (n:=['n','i','o','j']) (o:=['s','e','t','y','b']) ⋯ FB.owner_bytes]; kernel_rfl
theorem J6{id:String}{b:Array UInt8}{t:Tok}:Builtin.Bytes.takeBufferQuiet? id (.bytes b t) 0=pure (some (b,none)):=by unfold Builtin.Bytes.takeBufferQuiet? Builtin.Bytes.takeBuffer?;rw [KBy.special_eq KBy.look_buffer,KBy.own_buffer,show((0:Int)==Builtin.Bytes.fullReadOnly)=false from by decide,KBy.buffer_eq];kernel_rfl
theorem rS:∀ (l:List (Array UInt8)) (i:Nat) (out:Array UInt8),(l.zipIdx i).foldl (λout (p:Array UInt8×Nat)=>(if p.2>0 then out++ #[] else out)++p.1) out=out++(l.map (·.toList)).flatten.toArray
 | [],i,out=>by simp
 | p::r,i,out=>by
  rw [List.zipIdx_cons,List.foldl_cons,rS r];have:(if i>0 then out++ #[] else out)=out:=by split <;> simp
  show(if i>0 then out++ #[] else out)++p++_=_;rw [this,bu,List.flatten_cons,Array.append_assoc]
  congr 1
  apply Array.toList_inj.mp;simp
theorem DJ(l:List (Array UInt8)):Builtin.Bytes.joined #[] l=(l.map (·.toList)).flatten.toArray:=by have:=rS l 0 #[];simpa [Builtin.Bytes.joined] using this
theorem uh:∀ (l:List (Array UInt8)) (n:Nat),l.foldl (λx p=>x+p.size) n=n+(l.map (·.toList)).flatten.length
 | [],n=>by simp
 | p::r,n=>by rw [List.foldl_cons,uh r]; simp; lia
theorem xN {bs:List (Array UInt8×Tok)} {R:Array (Array UInt8)×List (Value×Option Value)->Shared->Prop} {body:Nat->Array (Array UInt8)×List (Value×Option Value)->Sem (ForInStep (Array (Array UInt8)×List (Value×Option Value)))}
  (hb:∀ (i:Nat) (p:Array UInt8×Tok) (parts:Array (Array UInt8)) (s':Shared) (R':ForInStep (Array (Array UInt8)×List (Value×Option Value))->Shared->Prop),bs[i]? =some p->s'.heap=s.heap->
   R' (.yield (parts.push p.1,(bs.take i).map (λp=>(Value.bytes p.1 p.2,none))++ [(Value.bytes p.1 p.2,none)])) s'->wpAny aO A (body i (parts,(bs.take i).map λp=>(Value.bytes p.1 p.2,none))) R' E s')
  (hR:∀ s',s'.heap=s.heap->s'=s->R ((bs.map (·.1)).toArray,bs.map λp=>(Value.bytes p.1 p.2,none)) s'):
  ∀ (k i:Nat),i+k=bs.length->wpAny aO A (forIn (List.range' i k) (((bs.take i).map (·.1)).toArray,(bs.take i).map λp=>(Value.bytes p.1 p.2,none)) body) R E s
 | 0,i,h=>by
  have:bs.take i=bs:=List.take_of_length_le (by lia);rw [this];exact aj (hR s rfl rfl)
 | k+1,i,h=>by
  rw [List.range'_succ,List.forIn_cons];have hi:i<bs.length:=by lia
  refine aa (hb i bs[i] _ s _ (aP hi) rfl ?_);have e:bs.take (i+1)=bs.take i++ [bs[i]]:=by rw [List.take_add_one,aP hi]; rfl
  have:=xN hb hR k (i+1) (by lia);rw [e,iH,iH] at this;have e2:(List.map (λx=>x.fst) (List.take i bs)++List.map (λx=>x.fst) [bs[i]]).toArray=((bs.take i).map (·.1)).toArray.push bs[i].1:=by simp only [bu,List.map_nil,List.push_toArray]
  rw [e2] at this;exact this
theorem oM:∀ (l:List (Value×Option Value)) (keep:List Value) (Q:Unit->Shared->Prop),(∀ p∈l,p.2=none)->Q () s->wpAny aO A (Builtin.Bytes.joinLetGo l keep) Q E s
 | [],keep,Q,h,q=>by unfold Builtin.Bytes.joinLetGo; exact aj q
 | (x,w)::r,keep,Q,h,q=>by
  have:w=none:=h (x,w) aq;subst this;unfold Builtin.Bytes.joinLetGo;exact aa (wpAny_letGo (oM r keep Q (λp hp=>h p (aw _ hp)) q))
theorem Ej {l:Addr} {t:Tok} (hl:s.heap.get? l=some (dQ vs n)) (hv:vs=bs.map λp=>Value.bytes p.1 p.2) (h0:bs≠ []) (hn:bs.length<=1000)
  (hz:(bs.map (·.1.toList)).flatten.length<=100000) (q:∀ t' tk,Q (.bytes (bs.map (·.1.toList)).flatten.toArray t') {s with toks:=tk}):wpAny aO A (call (.builtin "bytes.join") [.bytes #[] t,.ref l]) Q E s:=by
 have hT:s.TypeIs (.ref l) "list" :=⟨_,hl,rfl⟩
 refine bJ ug (iL _ _ _) AH ?_ (Et _ _);show wpAny _ _ (Builtin.Bytes.joinM .bytes ⟨[.bytes #[] t,.ref l],[]⟩) _ _ _;unfold Builtin.Bytes.joinM;refine aa (c9 (a:=(Value.bytes #[] t,Value.ref l)) rfl ?_);dsimp only;refine fS ∅ ?_;refine aa ?_;unfold Builtin.Bytes.joinItems;refine aa (wpAny_typeOf hT ?_);refine fS ∅ ?_;refine aj ?_;have QN:∀ (Q':Option (Array Value)->Shared->Prop) (s':Shared),s'.heap=s.heap->Q' (some vs.toArray) s'->wpAny aO A.in1 (seqItems? (.ref l)) Q' E s':=by intro Q' s' e hq;unfold seqItems?;exact aa (wpAny_load (by rw [e]; exact hl) (aj hq))
 refine aa (QN _ _ rfl ?_);dsimp only;refine fS ∅ ?_;subst hv;rcases bs with _ | ⟨p1,_ | ⟨p2,bs⟩⟩
 ·exact absurd rfl h0
 ·refine aa (wpAny_typeOf (iL _ _ _) ?_);refine fS ∅ ?_;have:=q p1.2 s.toks;simp only [bu,List.map_nil,List.flatten_cons,List.flatten_nil,bS,Array.toArray_toList] at this;exact aa (wpAny_rule (aj ⟨_,rfl,this⟩))
 ·refine aa ?_;rw [Std.Legacy.Range.forIn_eq_forIn_range'];generalize hbs:(_::_:List (Array UInt8×Tok))=JH at*;have za:([:(List.map (λp:Array UInt8×Tok=>Value.bytes p.1 p.2) JH).toArray.size]:Std.Legacy.Range).size=JH.length:=by simp [Std.Legacy.Range.size]
  rw [za];refine xN (bs:=JH) (λi p parts s' R' hp hs hR=> ?_) (λs' Z hs=> ?_) JH.length 0 (by lia)
  ·refine aa (QN _ _ hs ?_);dsimp only;have hx:(List.map (λp:Array UInt8×Tok=>Value.bytes p.1 p.2) JH).toArray.getD i Value.none=Value.bytes p.1 p.2:=by
    have h1:(JH.map λp:Array UInt8×Tok=>Value.bytes p.1 p.2)[i]? =some (Value.bytes p.1 p.2):=by rw [bB,hp]; rfl
    rw [gV,cq,h1]; rfl
   rw [hx];refine cW ?_ ?_
   ·rw [Bool.or_eq_false_iff];refine ⟨∅,?_⟩;rw [List.any_eq_false];intro x hx;obtain ⟨y, -,rfl⟩:=ba.mp hx;exact cS
   refine aa (bq (c9 J6 ?_));dsimp only;refine aa (QN _ _ hs ?_);dsimp only;refine cW (by simp) ?_;exact aj hR
  ·subst hs;dsimp only;refine aa (c9 (a:= #[]) rfl ?_);have hm:((JH.map λx=>x.1).map (·.toList))=JH.map (·.1.toList):=by rw [aU]; rfl
   refine cW ?_ ?_
   ·unfold Builtin.Bytes.tooLong;have e0:(#[]:Array UInt8).size*((JH.map λx=>x.1).toArray.size-1)=0:=by simp
    rw [e0,List.foldl_toArray,uh,hm,decide_eq_false_iff_not];unfold sizeLine; lia
   refine aa ?_;show wpAny _ _ (mkBytes (Builtin.Bytes.joined #[] (JH.map λx=>x.1))) _ _ _;rw [DJ,hm];refine wpAny_mkBytes ?_ (by rw [aM]; unfold sizeLine; lia);refine aa (bq (wpAny_point ?_));refine aa (oM _ _ _ (λp hp=>by obtain ⟨y, -,rfl⟩:=ba.mp hp; rfl) ?_);exact aj ⟨_,rfl,q _ _⟩
def YJ(b f:Nat):String:=bif b==1 then "bytes.join" else bif b==2 then "list.pop" else bif f==56 then "dict.pop" else bif f==57 then "dict.get" else bif f==58 then "dict.clear" else bif f==59 then "dict.update" else "dict.values"
def Mn(b f:Nat):Bool:=(b==1&&f==55)||(b==2&&f==56)||(b==3&&(Nat.ble 56 f&&Nat.ble f 60))
theorem JU:∀ a b a' b':_root_.Fin 8,mB (.tup [.int a.1,.int b.1])=mB (.tup [.int a'.1,.int b'.1])->a=a'/\b=b':=by decide+kernel
section
variable{σ σ':St}{v:V}
inductive yX(h:Heap):Nat->Value->Prop
 | RZ (b:Array UInt8) (t:Tok):yX h 1 (.bytes b t)
 | lst (d:Addr) (vs:List Value) (n:Nat) (g:h.get? d=some (dQ vs n)):yX h 2 (.ref d)
 | df (d:Addr) (es:List DictEntry) (n:Nat) (g:h.get? d=some (b9 es n)):yX h 3 (.ref d)
theorem uW(hR:bQ c F σ h){o:V}{b:Nat}{a:Value}(hb:wm σ.W o=some b)(V:VR c o a):yX h b a:=by
 induction o using lH with
 | bytes l=>induction V with | mk t=>exact ae hb▸ .RZ _ t
 | glob n=>
  induction V;have hw:=hR.w.jx n;revert hb hw;show(match σ.W[n]? with | some (.list _)=>some 2 | some (.dict _)=>some 3 | _=>none)=some b->_;rcases σ.W[n]? with _ | M
  ·exact λh=>nn h
  ·induction M using Mine.aV.casesOn with
   | list l=>exact λhb hw=>(hw _ rfl).casesOn λvs e t Z Z=>ae hb▸ .lst _ vs e (hR.w.hold _ _ _ t)
   | dict l=>exact λhb hw=>(hw _ rfl).casesOn λes e t Z Z Z=>ae hb▸ .df _ es e (hR.w.hold _ _ _ t)
   | _=>exact λh=>nn h
 | _=>exact nn hb
theorem o9{id:String}{Q:Value×List Value->Shared->Prop}(ho:s.heap.get? d=some (b9 es n))(sl:Slot "dict" y id)(ty:typeOf (.builtin id)=pure (.type "method_descriptor"))(q:Q (.builtin id,[.ref d]) s):wpAny aO A (getMethod (.ref d) y pl) Q E s:=
 getMethod_builtin ⟨_,ho,rfl⟩ PySem.F.plainAttrs_dict sl ty (λa e=>Value.ref.inj e▸⟨_,ho,rfl⟩) q
theorem o8{b:Nat}{a:Value}{Q:Value×List Value->Shared->Prop}(hk:yX s.heap b a)(hf:Mn b f=true)(q:Q (.builtin (YJ b f),[a]) s):wpAny aO A (getMethod a (et f) pl) Q E s:=by
 induction hk with
 | RZ b t=>
  obtain rfl:f=55:=by rw [show Mn 1 f=((f==55||false)||false)from rfl,Bool.or_false,Bool.or_false] at hf;exact aD.mp hf
  exact getMethod_builtin (iL _ _ _) FB.plainAttrs_bytes ug Dc (λa e=>(PySem.Value.noConfusion e)) q
 | lst d vs n ho=>
  obtain rfl:f=56:=by rw [show Mn 2 f=((f==56)||false)from rfl,Bool.or_false] at hf;exact aD.mp hf
  exact getMethod_builtin ⟨_,ho,rfl⟩ PySem.F.plainAttrs_list PySem.F.slot_list_pop PySem.F.type_list_pop (λa e=>Value.ref.inj e▸⟨_,ho,rfl⟩) q
 | df d es n ho=>
  refine fb (show(Nat.ble 56 f&&Nat.ble f 60)=true from hf) λh1 h2=> ?_;refine ag (Nat.exists_eq_add_of_le (bH h1)) λk z1=> ?_;obtain rfl:=z1;have h2:=Nat.le_of_add_le_add_left (a:=56) (c:=4) (bH h2);induction k using oF with
  | zero=>exact o9 ho PySem.F.slot_dict_pop PySem.F.type_dict_pop q
  | succ k=>
   induction k using oF with
   | zero=>exact o9 ho PySem.F.slot_dict_get PySem.F.type_dict_get q
   | succ k=>
    induction k using oF with
    | zero=>exact o9 ho PySem.F.slot_dict_clear PySem.F.type_dict_clear q
    | succ k=>
     induction k using oF with
     | zero=>exact o9 ho PySem.F.slot_dict_update PySem.F.type_dict_update q
     | succ k=>
      induction k using oF with
      | zero=>exact o9 ho PySem.F.slot_dict_values PySem.F.type_dict_values q
      | succ k=>exact absurd h2 (Nat.not_le_of_gt (cR 5 k))
end
section
variable{σ σ':St}{v:V}
inductive aeW(bs:List (List UInt8))(vs:List Value):Prop
 | mk (ps:List (Array UInt8×Tok)) (e:vs=ps.map λp=>Value.bytes p.1 p.2) (f:ps.map (·.1.toList)=bs)
theorem Ey{bs:List (List UInt8)}:∀ {vs:List Value},dw c (bs.map V.bytes) vs->aeW bs vs:=by
 induction bs with
 | nil=>exact λ{vs} h=>⟨[],h,rfl⟩
 | cons b r ih=>intro vs h;injection h with w t a b';injection a with u;injection ih b' with ps e f;exact ⟨(_,u)::ps,av _ e,av _ f⟩
theorem bQ.PF (hR:bQ c F σ h) {JF:List DictEntry} {ep':Nat} (hw:σ.W[n]? =some (.dict l)) (t:c.T (c.ga n)=some (.gl n,b9 es ep)) (hs:Heap.SameBut (c.ga n) h h') (ho:h'.get? (c.ga n)=some (b9 JF ep'))
  (D:iV c l' JF) (kn:pS l') (hb:l'.length<=100000):Sq c F σ h' n (.dict l'):=
 hR.setG (g:=false) hw t (o':=b9 JF ep') rfl hs ho λle=>⟨JF,ep',aF ..,iV.mono le _ _ D,kn,hb⟩
theorem bQ.U5(hR:bQ c F σ h)(hw:σ.W[n]? =some (.dict l))(t:c.T (c.ga n)=some (.gl n,b9 es ep))(hb:l'.length<=100000):qg c (c.ga n) l' h h'->Sq c F σ h' n (.dict l')
 | ⟨_,_,ho,D,kn,hs⟩=>hR.PF hw t hs ho D kn hb
theorem yC(k:V)(l:List (V×V)):(kI k l).length<=l.length:=by
 induction l with
 | nil=>exact aA _
 | cons e r ih=>
  show(bif dK e.1 k then r else e::kI k r).length<=_;induction dK e.1 k
  ·exact cC ih
  ·exact da _
theorem La (hR:bQ c F σ s.heap) {l:List V} (hw:σ.W[n]? =some (.list l)) (hl:l.getLast? =some v)
  (q:jP F c {σ with W:=σ.W.set n (.list l.dropLast)} s v Q):wpAny aO A (call (.builtin "list.pop") [.ref (c.ga n)]) Q E s:=by
 injection hR.w.jx _ _ hw with vs ep t S hb;have hlen:=aY S;rw [List.getLast?_eq_getElem?,hlen] at hl;injection nh S hl with w w1 w2;refine Copied.pop_at (hR.w.hold _ _ _ t) (y:=w) (by rw [aM,cq]; exact w1) (λh' hs pW=> ?_) (g7 S hb);rw [List.pop_toArray] at pW;have S':dw c l.dropLast vs.dropLast:=by rw [List.dropLast_eq_take,List.dropLast_eq_take,hlen]; exact mI _ S
 injection hR.setG (g:=false) (M':=.list l.dropLast) hw t (o':=dQ vs.dropLast (ep+1)) rfl hs pW λle=>⟨vs.dropLast,ep+1,aF ..,dw.mono le _ _ S',af (List.length_dropLast▸Nat.sub_le _ _) hb⟩with dg l1 R1;exact q _ h' s.toks w l1 R1 (VR.mono l1.toji _ _ w2)
theorem Ma (hA:iZ F.r A) (hR:bQ c F σ s.heap) {key:Value} (hw:σ.W[n]? =some (.dict l)) (hk:ju k l=true) (hs:gS l=true) (hl:ey k l=some v) (K:VR c k key)
  (q:jP F c {σ with W:=σ.W.set n (.dict (kI k l))} s v Q):wpAny aO A (call (.builtin "dict.pop") [.ref (c.ga n),key]) Q E s:=by
 injection hR.w.jx _ _ hw with es ep t D kn hb;have ho:=hR.w.hold _ _ _ t;have hT:s.TypeIs (.ref (c.ga n)) "dict" :=⟨_,ho,rfl⟩
 have nonempty:es.toArray.isEmpty=false:=by
  induction es using lh with
  | nil=>rw [gB.mp (fE D)] at hl; exact nn hl
  | cons _ _=>rfl
 have go:wpAny aO A.in1 (do
   let old<-Builtin.Dict.takeOut (c.ga n) key
   if old.isNone then Builtin.Dict.missedRemoval (c.ga n) key
   match old,(none:Option Value)with
   | some e,_=>letGo [e.key] [e.val]; ret e.val
   | none,some x=>rule "dict.pop.default"; ret x
   | none,none=>rule "dict.pop.keyerror"; raiseNew (<-newExc (.type "KeyError") [key])) (λfin s'=>∃ v,fin=.done (.ret v)/\Q v s') E s:=
  aa (Fv hR.w.hold hA.u1 ho D kn hk hs K hl λh' tk e Ve D'=>cW rfl (aa (wpAny_letGo (aj ⟨_,rfl,(hR.U5 hw t (af (yC _ _) hb) D').casesOn λdg l1 R1=>q _ h' tk _ l1 R1 (VR.mono l1.toji _ _ Ve)⟩))))
 refine bJ PySem.F.slot_dict_pop hT PySem.F.entry_dict_pop (aa (aa (eH hT (aj ?_)))) (PySem.F.args_dict_pop_2 _ _);induction hp:(keyPart key).isSome using eK with
 | true=>exact fS hp (aa (aj (cW rfl go)))
 | false=>exact cW hp (aa (cB ho rfl (aa (aj (cW nonempty go)))))
theorem Ir (hA:iZ F.r A) (hR:bQ c F σ s.heap) {d:V} {key dv:Value} (hw:σ.W[n]? =some (.dict l)) (hk:ju k l=true) (K:VR c k key) (D':VR c d dv)
  (q:jP F c σ s ((ey k l).getD d) Q):wpAny aO A (call (.builtin "dict.get") [.ref (c.ga n),key,dv]) Q E s:=by
 injection hR.w.jx _ _ hw with es ep t D kn hb;have ho:=hR.w.hold _ _ _ t;have hT:s.TypeIs (.ref (c.ga n)) "dict" :=⟨_,ho,rfl⟩
 refine bJ PySem.F.slot_dict_get hT PySem.F.entry_dict_get ?_ (PySem.F.args_dict_get_3 _ _ _);show wpAny _ _ (dictGet (c.ga n) key>>=_) _ _ s;refine aa (sA hR.w.hold hA.u1 ho D kn hk K (λtk e=> ?_) (λtk v x e X=>aj ⟨x,rfl,q.at hR (e▸X)⟩));show wpAny _ _ (Builtin.Dict.missed (c.ga n) key>>=_) _ _ _;exact aa (wpAny_missed_other (jT hR.w t rfl) (aj ⟨dv,rfl,q.at hR (e▸D')⟩))
theorem D5 (hR:bQ c F σ s.heap) (hw:σ.W[n]? =some (.dict l))
  (q:jP F c {σ with W:=σ.W.set n (.dict [])} s .none Q):wpAny aO A (call (.builtin "dict.clear") [.ref (c.ga n)]) Q E s:=by
 injection hR.w.jx _ _ hw with es ep t D kn hb;have ho:=hR.w.hold _ _ _ t;have hT:s.TypeIs (.ref (c.ga n)) "dict" :=⟨_,ho,rfl⟩
 have e:=jK es ep (λZ=> #[]);have pW:(s.heap.update (c.ga n) (Obj.mapDictKeys λZ=> #[])).get? (c.ga n)=some (b9 [] (ep+1)):=(cZ _ ho (by rw [e]; rfl)).trans (av some e);refine bJ PySem.F.slot_dict_clear hT PySem.F.entry_dict_clear (aa (aa (eH hT (aj (aa (cB ho rfl (aa (aa (wpAny_load ho (aj (aa (wpAny_updateDictKeys (hz:= ?_) ho rfl ?_))))))))))))  (PySem.F.args_dict_clear_1 _)
 ·injection hR.PF (l':=[]) hw t (dz ..) pW rfl List.Pairwise.nil (bw _)with dg l1 R1;exact fS rfl (aa (wpAny_letGo (aj ⟨.none,rfl,q _ _ s.toks .none l1 R1 rfl⟩)))
 ·rw [aM,<-fE D]; exact af hb ∅
end
section
variable{σ σ':St}{v:V}{m:List (V×V)}
inductive Sn:V->Prop
 | mk (x y:_root_.Fin 8):Sn (.tup [.int x.1,.int y.1])
inductive aeY{α:Type}(f:α->Bool)(o:Option α):Prop
 | mk (a:α) (e:o=some a) (h:f a=true)
theorem Sk{f:α->Bool}{o:Option α}(h:o.any f=true):aeY f o:=by
 rcases o with _ | a
 ·exact (Bool.noConfusion h)
 ·exact ⟨a,rfl,h⟩
theorem YR{v:V}(h:(tp v).any ZV=true):∃ x:_root_.Fin 8,v=.int x.1:=(Sk h).casesOn λi e h=>
 ⟨⟨i.toNat,(Int.toNat_lt (cE (aW h).1)).mpr (cE (aW h).2)⟩,(fJ e).trans (av V.int (Int.toNat_of_nonneg (cE (aW h).1)).symm)⟩
theorem JT{m:List (V×V)}(hw:je m=true){e:V×V}(he:e∈m):Sn e.1:=(Sk (aK.mp hw e he)).casesOn λl e1 h=>(Sk h).casesOn λp e2 h=>by
 obtain ⟨x,h1⟩:=YR (aW h).1;obtain ⟨y,h2⟩:=YR (aW h).2;rw [sV e1,zW (v:=.tup l) (p:=p) e2,h1,h2];exact ⟨x,y⟩
theorem vd(hw:je m=true)(kn:pS m):(m.map λe=>mB e.1).Nodup:=by
 refine br.mpr (kn.imp_of_mem λ{a b} ha hb uE q=> ?_);have h1:=JT hw ha;have h2:=JT hw hb;generalize a.1=x at*;generalize b.1=y at*;induction h1 with | mk x y=>induction h2 with | mk x' y'=>
 obtain ⟨rfl,rfl⟩:=JU x y x' y' q;exact eU ((pR [↑x.1,↑y.1] [↑x.1,↑y.1]).symm.trans uE) rfl
theorem AB{f:α->Int}{v:Int}{l:List α}(h:(l.map f).Nodup):(l.filter (f · ==v)).length<=1:=by
 induction l with
 | nil=>exact bw _
 | cons a l ih=>
  rw [bu,bj] at h;rw [List.filter_cons];split
  ·rename_i hv;rw [List.filter_eq_nil_iff.mpr λb hb q=>h.1 (ba.mpr ⟨b,hb,(aD.mp q).trans (aD.mp hv).symm⟩)];exact aA _
  ·exact ih h.2
theorem Jm:∀ {es:List DictEntry},iV c m es->es.map (·.hash)=m.map λe=>mB e.1:=by
 induction m with
 | nil=>exact λ{es} h=>by obtain rfl:=h; rfl
 | cons e m ih=>intro es h;injection h with d t _ _ hh r;rw [bu,bu,hh,ih r]
inductive So(h:Heap):Value->Prop
 | mk (a:Addr) (vs:List Value) (n:Nat) (g:h.get? a=some (wW vs n)):So h (.ref a)
theorem yP(hold:∀ a t o,c.T a=some (t,o)->h.get? a=some o):∀ {es:List DictEntry},(∀ e∈m,Sn e.1)->iV c m es->∀ e∈es,So h e.key:=by
 induction m with
 | nil=>exact λ{es} Z h=>by obtain rfl:=h; exact λe he=>(eX he)
 | cons x m ih=>
  intro es hw hd e he;have w:=ah.mp hw;injection hd with d t V _ _ r;rcases aH.mp he with q | he
  ·rw [q];have w:=w.1;generalize x.1=k at V w;injection w with x y;generalize d.key=w at V;induction V with | mk a vs n t=>exact ⟨a,vs,n,hold _ _ _ t⟩
  ·exact ih w.2 r e he
theorem AI {id:String} {Q:Array DictEntry->Shared->Prop} (hold:∀ a t o,c.T a=some (t,o)->s.heap.get? a=some o) (ho:s.heap.get? d=some (b9 es n)) (D:iV c m es) (kn:pS m) (hw:je m=true)
  (q:Q es.toArray s):wpAny aO A (Builtin.Dict.entriesForEmpty id d) Q E s:=by
 have hn:(es.map (·.hash)).Nodup:=Jm D▸vd hw kn;have loop:∀ l:List DictEntry,(∀ e∈l,So s.heap e.key)->wpAny aO A (forIn l PUnit.unit λ(e:DictEntry) (Z:PUnit)=>(do
   if !(<-Builtin.Dict.quietEq e.key)then
    if(es.toArray.filter (·.hash==e.hash)).size>1 then unsupported s!"{id}:keys-of-equal-hash"
   pure (ForInStep.yield PUnit.unit):Sem (ForInStep PUnit))) (λZ s'=>s'=s) E s:=by
  intro l;induction l with
  | nil=>exact λZ=>aj rfl
  | cons e l ih=>
   intro hl;have hl:=ah.mp hl;rw [List.forIn_cons];refine aa (aa ?_);have h1:=hl.1;generalize e.key=k at h1;injection h1 with a vs n g;refine aa (wpAny_specialOf ⟨_,g,rfl⟩ PySem.F.slot_tuple_eq.lookup (aj (fS ∅ ?_)));rw [cb]
   ·exact aj (ih hl.2)
   ·rw [List.filter_toArray,aM];exact Nat.not_lt.mpr (AB hn)
 unfold Builtin.Dict.entriesForEmpty;refine aa (cB ho rfl ?_);rw [<-Array.forIn_toList];exact aa (wpAny_mono (loop es (yP hold (λe he=>JT hw he) D)) (λZ s' hs=>hs▸aj q) λZ Z x=>x)
theorem FR{l:List α}{x:α}(h:l[n]? =some x):l.set n x=l:=by
 refine List.ext_getElem? λi=> ?_;by_cases hi:i=n
 ·subst hi; rw [List.getElem?_set_self (eV h),h]
 ·rw [List.getElem?_set_ne (Ne.symm hi)]
theorem AL (hR:bQ c F σ s.heap) {src:Value} (hw:σ.W[n]? =some (.dict [])) (M:VR c (.df m) src) (hm:je m=true)
  (q:jP F c {σ with W:=σ.W.set n (.dict m)} s .none Q):wpAny aO A (call (.builtin "dict.update") [.ref (c.ga n),src]) Q E s:=by
 injection hR.w.jx _ _ hw with es ep t D _ _;obtain rfl:=D;have ho:=hR.w.hold _ _ _ t;have hT:s.TypeIs (.ref (c.ga n)) "dict" :=⟨_,ho,rfl⟩
 injection M with b Ym n2 t2 D2 ZS hb2;have lo2:=jT hR.w t2 rfl;have wI:=hR.w.hold _ _ _ t2;have Q3:s.TypeIs (.ref b) "dict" :=⟨_,wI,rfl⟩
 have hlen:=fE D2;have gx:(c.ga n==b)=false:=aI.mpr λe=>by rw [e,t2] at t; exact nomatch t
 refine bJ PySem.F.slot_dict_update hT PySem.F.entry_dict_update (aa (aa (eH hT (aj ?_)))) (PySem.F.args_dict_update_2 _ _);show wpAny _ _ (Builtin.Dict.updateFrom "dict.update" (c.ga n) (.ref b) [] .none) _ _ s;refine aa (wpAny_typeOf Q3 (cW ∅ (aa (aa (aa (wpAny_isInstance Q3 isSubtype_dict_dict (cW rfl (aa (wpAny_specialOf Q3 PySem.F.slot_dict_iter.lookup (aj (fS ∅ (aa (aj ?_)))))))))))));refine cW gx (aa (cW lo2 (aj (aa (cB wI rfl ?_)))));rcases m with _ | ⟨x,m⟩
 ·obtain rfl:=D2;refine cW (by decide+kernel) (aa (wpAny_dictEpoch wI rfl (aa (cB wI rfl (aa ?_)))));rw [Std.Legacy.Range.forIn_eq_forIn_range'];exact aj (aj (aa (aj (aj ⟨_,rfl,q.qe (by rw [FR hw]; exact hR) rfl⟩))))
 ·have W:=yP hR.w.hold (λe he=>JT hm he) D2;obtain ⟨e0,er,rfl⟩:=List.exists_cons_of_ne_nil (λe:Ym=[]=>by rw [e] at hlen; exact (Nat.noConfusion hlen));have acX:(keyPart e0.key).isSome=false:=by have:=W e0 aq;generalize e0.key=k at this;induction this; rfl
  have e:=jK [] ep (λZ=>(e0::er).toArray);have pW:(s.heap.update (c.ga n) (Obj.mapDictKeys λZ=>(e0::er).toArray)).get? (c.ga n)=some (b9 (e0::er) (ep+1)):=(cZ _ ho (by rw [e]; rfl)).trans (av some e);refine fS ?_ (aa (cB ho rfl (fS rfl (aa (AI hR.w.hold wI D2 ZS hm (fS rfl (aa (wpAny_updateDictKeysTo ho rfl (aj (aa (aj (aj ⟨_,rfl,?_⟩)))) ?_))))))))
  ·rw [List.all_toArray,List.all_cons,acX,Bool.false_and,Bool.and_false]; rfl
  ·exact (hR.PF (l':=x::m) hw t (dz ..) pW D2 ZS hb2).casesOn λdg l1 R1=>q _ _ s.toks .none l1 R1 rfl
  ·exact bz (by rw [aM,<-hlen]; exact af hb2 ∅)
end
section
variable{σ σ':St}{o:Expr}
theorem iG{x y:Option α}{a:α}{p:Prop}(h:(bif b then x else y)=some a)(h1:b=true->x=some a->p)(h2:b=false->y=some a->p):p:=by
 induction b
 ·exact h2 rfl h
 ·exact h1 rfl h
theorem Em{l:List V}(h:pP W n=some l):wm W (.glob n)=some 2:=by show(match W[n]? with | some (.list _)=>some 2 | some (.dict _)=>some 3 | _=>none)=some 2;rw [rQ h]
theorem uX(h:eJ W n=some l):wm W (.glob n)=some 3:=by show(match W[n]? with | some (.list _)=>some 2 | some (.dict _)=>some 3 | _=>none)=some 3;rw [iu h]
inductive Ju(W:List aV):V->Nat->Nat->List V->V×List aV->Prop
 | join (l:List V) (bs:List (List UInt8)) (h:I6 l=some bs) (e:(jR bs.flatten.length&&decide (l.length<=1000)&& !l.isEmpty)=true):Ju W (.bytes []) 1 55 [.lst l] (.bytes bs.flatten,W)
 | Wa (n:Nat) (l:List V) (v:V) (h:pP W n=some l) (e:l.getLast? =some v):Ju W (.glob n) 2 56 [] (v,W.set n (.list l.dropLast))
 | Yp (n:Nat) (k v:V) (l:List (V×V)) (h:eJ W n=some l) (e:(ju k l&&gS l)=true) (e':ey k l=some v):Ju W (.glob n) 3 56 [k] (v,W.set n (.dict (kI k l)))
 | get (n:Nat) (k d:V) (l:List (V×V)) (h:eJ W n=some l) (e:ju k l=true):Ju W (.glob n) 3 57 [k,d] ((ey k l).getD d,W)
 | clr (n:Nat) (l:List (V×V)) (h:eJ W n=some l):Ju W (.glob n) 3 58 [] (.none,W.set n (.dict []))
 | upd (n:Nat) (m:List (V×V)) (h:eJ W n=some []) (e:je m=true):Ju W (.glob n) 3 59 [.df m] (.none,W.set n (.dict m))
theorem GN{x:V}(h:one? as=some x):as=[x]:=by
 rcases as with _ | ⟨y,_ | _⟩
 ·exact nn h
 ·exact av (λa=>[a]) (ae h)
 ·exact nn h
theorem UN{p:V×V}(h:oA as=some p):as=[p.1,p.2]:=V.tup.inj (zW (v:=.tup as) h)
theorem bmC{x:V}{b:Nat}{r:V×List aV}(hb:wm W x=some b)(h:CQ W x f as=some r):Ju W x b f as r:=by
 induction x using lH with
 | bytes l=>refine iG h (λe h=>aJ h λy hy h2=>aJ h2 λl hl h3=>aJ h3 λbs hbs h4=>(eC h4).casesOn λe'=> ?_) λZ h=>nn h;rw [<-ae hb,GN hy,kP hl,List.isEmpty_iff.mp (aW e).1,aD.mp (aW e).2];exact .join _ _ hbs e'
 | glob n=>
  have two:∀ {l:List (V×V)},eJ W n=some l->b=3:=λh=>ae (hb.symm.trans (uX h));refine iG h (λe h1=> ?_) λZ h=>iG h (λe h1=> ?_) λZ h=>iG h (λe h1=> ?_) λZ h=>iG h (λe h1=> ?_) λZ h=>nn h <;> rw [aD.mp e]
  ·refine iG h1 (λe h2=>aJ h2 λl hl h3=> ?_) λZ h2=>aJ h2 λk hk h3=>aJ h3 λl hl h4=>iG h4 (λe h5=>(eo h5).casesOn λv h6=> ?_) λZ h=>nn h
   ·injection eo (show l.getLast?.map _=some r from h3)with v h4;rw [<-ae ((Em hl).symm.trans hb),List.isEmpty_iff.mp e];exact .Wa _ _ _ hl h4
   ·rw [two hl,GN hk];exact .Yp _ _ _ _ hl e h6
  ·refine aJ h1 λp hp h2=>aJ h2 λl hl h3=>(eC h3).casesOn λe=> ?_;rw [two hl,UN hp];exact .get _ _ _ _ hl e
  ·refine aJ h1 λl hl h2=>(eC h2).casesOn λe=> ?_;rw [two hl,List.isEmpty_iff.mp (aW e).1];exact .clr _ _ hl
  ·refine aJ h1 λa ha h2=>aJ h2 λm hm h3=>aJ h3 λl hl h4=>(eC h4).casesOn λe=> ?_;have:=List.isEmpty_iff.mp (aW (aW e).1).1;subst this;rw [two hl,GN ha,Oz hm];exact .upd _ _ hl (aW e).2
 | _=>exact nn h
theorem Ju.isIn{x:V}{b:Nat}{r:V×List aV}(h:Ju W x b f as r):Mn b f=true:=by induction h <;> rfl
theorem Wv(hR:bQ c F σ s.heap){x:V}{a:Value}{t:Tok}{l:List V}{bs:List (List UInt8)}(h:I6 l=some bs)(e:(jR bs.flatten.length&&decide (l.length<=1000)&& !l.isEmpty)=true)(V:VR c (.lst l) a)(q:jP F c σ s (.bytes bs.flatten) Q):
  wpAny aO A (call (.builtin "bytes.join") [.bytes #[] t,a]) Q E s:=by
 injection V with d vs n t2 S b';obtain rfl:=rM yN h;refine fb e λe e3=> ?_;refine fb e λe1 e2=> ?_;have hl:=aY S;have e2:=cE e2;injection Ey S with ps e4 e5;obtain rfl:=e4;subst e5;rw [ao,ao] at hl;refine Ej (hR.w.hold _ _ _ t2) rfl (λe=> ?_) (by rw [ao,ao] at e2; exact e2) (rq e1) λt' tk=>q.at hR ⟨t',rq e1⟩;subst e; exact (Bool.noConfusion e3)
theorem Ek (hA:iZ F.r A) (hR:bQ c F σ s.heap) {b:Nat} {x:V} {a:Value} {r:V×List aV} (h:Ju σ.W x b f as r) (V:VR c x a) (Vs:dw c as ws)
  (q:jP F c {σ with W:=r.2} s r.1 Q):wpAny aO A (call (.builtin (YJ b f)) (a::ws)) Q E s:=by
 have one:∀ {x},dw c [x] ws->One c x ws:=lL rfl;induction h with
 | join l bs h e=>induction V with | mk t=>exact (one Vs).casesOn λw V=>Wv hR (x:=.none) h e V q
 | Wa n l v h e=>induction V; obtain rfl:=Vs; exact La hR (rQ h) e q
 | Yp n k v l h e e'=>induction V; exact (one Vs).casesOn λw V=>Ma hA hR (iu h) (aW e).1 (aW e).2 e' V q
 | get n k d l h e=>induction V; exact (Bo (p:=(k,d)) rfl Vs).casesOn λw u V V'=>Ir hA hR (iu h) e V V' q
 | clr n l h=>induction V; obtain rfl:=Vs; exact D5 hR (iu h) q
 | upd n m h e=>induction V; exact (one Vs).casesOn λw V=>AL hR (iu h) V e q
variable{ev eE:gr->Expr->St->Option (V×St)}(H:∀ {e σ p},ev F.k e σ=some p->GX F e σ p){r:V×St}
include H
theorem X0 {b:Nat} {es:List Expr} {t:V×St} {as:List V×St} {u:V×List aV} (hs:es.all notStar=true) (hl:es.length<30) (j7:(apos.endLine==pos.line)=true) (DO:gP o=true)
  (ht:ev F.k o σ=some t) (ha:su bT (ev F.k) es t.2=some as) (hb0:wm t.2.W t.1=some b) (hv:Ju as.2.W t.1 b f as.1 u):GX F (.Call (.Attribute o (et f) apos) es [] pos) σ (u.1,{as.2 with W:=u.2}):=
 .of (λA c s Q E hA hR q=>by
  rw [ir DO];exact aa ((H ht).se.go hA hR q λaX cU a cV cy eS q=>aa (de (ip hs hl j7 λpl=>o8 (uW cy hb0 eS) hv.isIn
   (eB (Pp:=λZ=>True) hs (λh Z=>gm rfl h) ((qF H hs ha).go hA cy q λdg ke ws dB du fh q=>⟨trivial,Ek hA du hv (VR.mono dB _ _ eS) fh q⟩)))))) rfl
end
section
variable{σ σ':St}{x:V}
inductive pk(c:bc)(h:Heap)(many:Bool)(x:V)(v:Value):Prop
 | val (V:VR c x v)
 | tup (m:many=true) (vs:List V) (T:Addr) (ws:List Value) (e:x=.tup vs) (e':v=.ref T) (t:h.IsTuple T ws.toArray) (S:dw c vs ws)
theorem pk.mono(l:ji c c')(i:pk c h many x v):pk c' h many x v:=i.casesOn (λV=>.val (VR.mono l _ _ V)) λm vs T ws e e' t S=>.tup m vs T ws e e' t (dw.mono l _ _ S)
inductive YZ(c:bc)(h:Heap)(vs:List V):Value->Prop
 | mk (T:Addr) (ws:List Value) (t:h.IsTuple T ws.toArray) (S:dw c vs ws):YZ c h vs (.ref T)
theorem pk.tupI(hR:bQ c F σ h){vs:List V}(i:pk c h many (.tup vs) v):YZ c h vs v:=i.casesOn (λV=>by induction V with | mk a ws n t S=>exact ⟨a,ws,⟨_,hR.w.hold _ _ _ t,rfl,n,rfl⟩,S⟩) λZ zi T ws e e' t S=>e'.symm▸V.tup.inj e▸⟨T,ws,t,S⟩
theorem pk.one(i:pk c h false x v):VR c x v:=i.casesOn id λm Z Z Z Z Z Z Z=>(Bool.noConfusion m)
inductive OH(f:Str->Option Nat):Expr->Tg->Prop
 | one (x:Str) (p:Pos) (i:Nat) (h:f x=some i):OH f (.Name x p) (.one i)
 | many (es:List Expr) (k:Nat) (p:Pos) (is:List Nat) (h:vF (pO f) es=some is):OH f (.Tuple es k p) (.many is)
theorem mf{x:Str}(h:mh e=some x):∃ p,e=.Name x p:=by
 induction e using ny with
 | Name y p=>exact ⟨p,av (λz=>PySem.Expr.Name z p) (ae h)⟩
 | _=>exact nn h
theorem Bp{es:List Expr}(h:wV e=some es):∃ k p,e=.Tuple es k p:=by
 induction e using ny with
 | Tuple y k p=>exact ⟨k,p,av (λz=>PySem.Expr.Tuple z k p) (ae h)⟩
 | _=>exact nn h
variable{st:St->Nat->V->Option St}{Rl:bc->bc->Prop}
theorem Nd{t:Tg}(h:rh ix e=some t):OH ix e t:=by
 unfold rh at h;rcases hn:mh e with _ | x
 ·rw [hn] at h;refine (eY h).casesOn λes hes h2=> ?_;obtain ⟨k,p,rfl⟩:=Bp hes;induction eo h2 with | mk is his=>exact .many _ _ _ _ his
 ·rw [hn] at h;obtain ⟨p,rfl⟩:=mf hn;induction eo h with | mk i hi=>exact .one _ _ _ hi
structure Sto(F:iR)(ix:Str->Option Nat)(st:St->Nat->V->Option St)(Rl:bc->bc->Prop):Prop where
 rfl:∀ c,Rl c c
 tr:∀ {a b c},Rl a b->Rl b c->Rl a c
 gf:∀ {a b},Rl a b->ji a b
 sto:∀ {A:Around} {c:bc} {s:Shared} {σ σ':St} {i:Nat} {n:Str} {x:V} {w:Value} {Q:Unit->Shared->Prop} {E:Value->Shared->Prop},ix n=some i->st σ i x=some σ'->bQ c F σ s.heap->VR c x w->
  (∀ c' h' tk,Rl c c'->bQ c' F σ' h'->Q () {s with heap:=h',toks:=tk})->wpAny aO A (storeName F.env n w) Q E s
theorem uq{f:Expr->Option Nat}{r:List Expr}{is:List Nat}(h:vF f (e::r)=some is):∃ i js,f e=some i/\vF f r=some js/\is=i::js:=
 (eY h).casesOn λi hi h2=>(eo h2).casesOn λjs hj=>⟨i,js,hi,hj,rfl⟩
theorem uN{es:List Expr}:∀ {is:List Nat},vF (pO ix) es=some is->(assignEach es F.env).length=is.length/\(assignEach es F.env).findIdx? (·.1)=none:=by
 induction es with
 | nil=>exact λh=>ae h▸⟨rfl,rfl⟩
 | cons e r ih=>intro is h;obtain ⟨i,js,hi,hj,rfl⟩:=uq h;refine (eY hi).casesOn λx hx Z=> ?_;obtain ⟨p,rfl⟩:=mf hx;obtain ⟨a,b⟩:=ih hj;rw [show assignEach (.Name x p::r) F.env=(false,assign (.Name x p) F.env)::assignEach r F.env from rfl,dq,b];exact ⟨av (· +1) a,rfl⟩
theorem Mt(S:Sto F ix st Rl){Q:Unit->Shared->Prop}{es:List Expr}:∀ {is:List Nat} {vs:List V} {ws:List Value} {c:bc} {σ:St} {s:Shared},vF (pO ix) es=some is->pJ st is vs σ=some σ'->bQ c F σ s.heap->dw c vs ws->
  (∀ c' h' tk,Rl c c'->bQ c' F σ' h'->Q () {s with heap:=h',toks:=tk})->wpAny aO A (assignInOrder ((assignEach es F.env).map (·.2)) ws) Q E s:=by
 induction es with
 | nil=>
  intro is vs ws c σ s h hs hR V q;obtain rfl:=ae h;rcases vs with _ | ⟨x,vs⟩
  ·obtain rfl:=V;obtain rfl:=ae hs;exact wpAny_assignInOrder_none (q c s.heap s.toks (S.rfl c) hR)
  ·exact nn hs
 | cons e r ih=>
  intro is vs ws c σ s h hs hR V q;obtain ⟨i,js,hi,hj,rfl⟩:=uq h;refine (eY hi).casesOn λx hx hix=> ?_;obtain ⟨p,rfl⟩:=mf hx;rcases vs with _ | ⟨y,vs⟩
  ·exact nn hs
  ·injection V with w t a b;refine (eY hs).casesOn λσm h1 h2=> ?_;show wpAny _ _ (do holding t (assign (.Name x p) F.env w); assignInOrder ((assignEach r F.env).map (·.2)) t) _ _ _;exact aa (bq (wpAny_assign_Name (S.sto hix h1 hR a λc' h' tk l R=>ih hj h2 R (dw.mono (S.gf l) _ _ b) λEi qq lX l' R'=>q Ei qq lX (S.tr l l') R')))
theorem zE{is:List Nat}:∀ {vs:List V} {σ:St},pJ st is vs σ=some σ'->is.length=vs.length:=by
 induction is with
 | nil=>exact λ{vs σ} h=>vs.casesOn (motive:=λvs=>pJ st [] vs σ=some σ'->0=vs.length) (λZ=>rfl) (λZ Z h=>nn h) h
 | cons i r ih=>exact λ{vs σ} h=>vs.casesOn (motive:=λvs=>pJ st (i::r) vs σ=some σ'->r.length+1=vs.length) (λh=>nn h) (λZ Z h=>(eY h).casesOn λZ Z h2=>av (· +1) (ih h2)) h
theorem sU (S:Sto F ix st Rl) (hA:iZ F.r A) {t:Tg} {Q:Unit->Shared->Prop} (tK:OH ix e t) (hR:bQ c F σ s.heap) (I:pk c s.heap (pT t) x v) (hb:qu st σ t x=some σ')
  (q:∀ c' h' tk,Rl c c'->bQ c' F σ' h'->Q () {s with heap:=h',toks:=tk}):wpAny aO A (assign e F.env v) Q E s:=by
 induction tK with
 | one n p i h=>exact wpAny_assign_Name (S.sto h hb hR I.one q)
 | many es k p is h=>refine (eY hb).casesOn λvs hv h2=> ?_;rw [sV hv] at I;injection I.tupI hR with T ws ht V;refine wpAny_assign_Tuple hA.handled ht (by rw [(uN h).1,aM,<-aY V,zE h2]) (uN h).2 λh' hk=> ?_;exact Mt S (s:={s with heap:=h'}) h h2 (hR.heap λa t o e=>hk a o (λq=>by rw [q,hR.w.fresh] at e; exact (mK e)) (hR.w.hold a t o e)) V q
theorem rn:¬ PA i .bO:=Nu rfl rfl
theorem UZ(ek:cM F):Sto F (eP F.k) PE Lw:=⟨Lw.refl,Lw.trans,λl=>l.toji,λh hs hR V q=>vi ek h hs hR V λc' h' tk x R=>q c' h' tk (x.lw rn) R⟩
def stC:gG->Prop:=λt=>t=.nq
theorem abl(ek:cM F):Sto F (λx=>iM x F.k.zd) Di Le where
 rfl:=Le.refl
 tr:=Le.trans
 gf:=λl=>l.toji
 sto:=λ{A c s σ σ' i n x w Q E} h hs hR V q=>by
  have hx:=mw h;obtain ⟨HP,hL⟩:=ek.own i n hx;injection eC hs with jt;refine (hR.cv.ns (λe=>by rw [e] at hx; exact nn hx)).casesOn λo m t VP z=>wpAny_storeName_local HP (by rw [hL]; exact VP.ns (hR.w.hold _ _ _ t)) (λh' HK pV=> ?_) (by rw [ek.kind]; rfl);rw [hL] at HK pV;obtain ⟨o',es,ep,pW,JC,QS,QZ⟩:=HK;have x':Ch c (c.put F.C .nq o') stC:=Ch.put t eT;refine q _ h' (s.toks+1) (x'.le eT rfl) ⟨hR.w.turn x' (λZ=>eT) (λZ=>eT) eT rfl (hR.w.low.vy t eT (.inl rfl)) (my hR.w.hold pV pW),hR.loc.ch x' rfl eT (λZ=>eT) (λZ=>eT),⟨(iI ..).trans hR.cv.len,λZ=>⟨o',_,aF ..,⟨es,ep,JC,QS,QZ⟩,λj y u hj hu=> ?_⟩⟩⟩;rcases Dg hu with⟨rfl,e,_⟩ | ⟨zb,e⟩
  ·obtain rfl:=ae e;obtain rfl:=ae (hx.symm.trans hj);exact ⟨w,dm rfl,VR.mono x'.gf _ _ V⟩
  ·exact (z j y u hj e).casesOn λb hb vr=>⟨b,(cb λe:y=n=>zb ((List.getElem?_inj (eV hj) ek.ndc).mp (hj.trans (e▸hx.symm)))).trans hb,VR.mono x'.gf _ _ vr⟩
end
section
variable{σ σ':St}{l:List Addr}
def bc.re(c:bc)(l:List Addr)(h:Heap):bc:={c with T:=λa=>if a∈l then(h.get? a).map (λo=>(gG.bO,o))else c.T a}
theorem bc.rB{o:Obj}(ha:a∈l)(e:h.get? a=some o):(c.re l h).T a=some (.bO,o):=(dm ha).trans (av _ e)
theorem bc.kX(ha:a ∉ l):(c.re l h).T a=c.T a:=cb ha
inductive aey(c:bc)(l:List Addr)(h:Heap)(a:Addr)(t:gG)(o:Obj):Prop
 | own (m:a∈l) (e:t=.bO) (g:h.get? a=some o)
 | old (m:a ∉ l) (e:c.T a=some (t,o))
theorem bc.Gp{o:Obj}(e:(c.re l h).T a=some (t,o)):aey c l h a t o:=by
 by_cases ha:a∈l
 ·obtain ⟨o',e1,e2⟩:=bN.mp ((dm ha).symm.trans e);cases e2;exact .own ha rfl e1
 ·exact .old ha ((cb ha).symm.trans e)
structure og(c₀ c:bc)(l:List Addr):Prop where
 base:∀ b∈l,eI.get? b=none
 bO:∀ b∈l,∀ t o,c.T b=some (t,o)->t=.bO
 gf:ji c₀ c
 keep:∀ a o,a ∉ l->c₀.T a=some (.bO,o)->c.T a=some (.bO,o)
theorem dp.gy(R:dp c W h){b:Addr}(e:c.T b=none):eI.get? b=none:=by
 rcases q:eI.get? b with _ | o
 ·rfl
 ·exact nn (e.symm.trans (R.base b o q))
theorem og.lw(o:og c₀ c l)(hf:∀ b∈l,c₀.T b=none):Lw c₀ c:=⟨o.gf,λa q e=>o.keep a q (λha=>nn ((hf a ha).symm.trans e)) e⟩
theorem og.ch(o:og c₀ c l):Ch c (c.re l h) (λt=>t=.bO):=
 have k:∀ a t q,c.T a=some (t,q)->¬ t=.bO->(c.re l h).T a=some (t,q):=λa t q e ht=>(bc.kX λha=>ht (o.bO a ha t q e)).trans e
 ⟨k,⟨λa q e=>k a _ q e eT,aA _,λZ Z=>rfl,λZ Z=>rfl⟩⟩
theorem og.re(o:og c₀ c l):og c₀ (c.re l h) l:=
 ⟨o.base,λb hb t q e=>(bc.Gp e).casesOn (λZ e Z=>e) λm Z=>absurd hb m,o.gf.trans (o.ch (h:=h)).gf,λa q ha e=>(bc.kX ha).trans (o.keep a q ha e)⟩
theorem og.then(o:og c₀ c l)(hh:∀ b∈l,∃ q,c.T b=some (.bO,q))(lv:ji c c')(lb:∀ b q,c.T b=some (.bO,q)->c'.T b=some (.bO,q)):og c₀ c' l:=
 ⟨o.base,λb hb t q e=>(hh b hb).elim λq' e'=>(av Prod.fst (ae (e.symm.trans (lb b q' e')))),o.gf.trans lv,λa q ha e=>lb a q (o.keep a q ha e)⟩
inductive MT(c₀:bc)(l:List Addr)(h':Heap):Prop
 | mk (a:Addr) (q:Obj) (s:sysModules<a) (e:c₀.T a=some (.bO,q)) (m:a∈l->∃ q',h'.get? a=some q')
theorem bQ.re(o:og c₀ c l)(R:bQ c F σ h)(Au:MT c₀ l h')(hk:∀ b q,b ∉ l->h.get? b=some q->h'.get? b=some q):bQ (c.re l h') F σ h':=
 have x:Ch c (c.re l h') (λt=>t=.bO):=o.ch
 ⟨⟨⟨Au.casesOn λa q ha e hl=>(Classical.em (a∈l)).elim (λhm=>(hl hm).elim λq' e'=>⟨a,q',ha,bc.rB hm e'⟩) λhm=>⟨a,q,ha,(bc.kX hm).trans (o.keep a q hm e)⟩,
  λt q e hc=>(bc.Gp e).casesOn (λZ e Z=>e▸rfl) λZ e=>R.w.low.sys t q e hc⟩,
  λa t q e=>(bc.Gp e).casesOn (λZ Z e=>e) λha e=>hk a q ha (R.w.hold a t q e),
  λa q e=>(bc.kX λha=>nn ((o.base a ha).symm.trans e)).trans (R.w.base a q e),R.w.len,λn M e=>(R.w.jx n M e).ch x (R.w.lt e) eT eT⟩,
  R.loc.ch x rfl eT (λZ=>eT) (λZ=>eT),R.cv.ch x eT⟩
structure Fp(fg c:bc)(b:Addr):Prop where
 k:c.T b=none\/∃ t o,c.T b=some (t,o)/\(t=.gN\/t=.bO)
 n:∀ o,fg.T b≠some (.bO,o)
inductive jI(A:Around)(qL:Expr)(many:Bool)(fg c:bc)(h:Heap)(I:Addr)(items:List V):Prop
 | mk (fp wr:List Addr) (PP Md:Nat->Value->Heap->Prop) (St:Nat->Heap->Prop) (K:KTurns pw gD A qL I fp wr items.length PP Md St) (st:St 0 h) (Lz:∀ b∈wr,c.T b=none) (yc:∀ b∈fp,Fp fg c b)
   (hit:∀ i v h' x,PP i v h'->items[i]? =some x->pk c h' many x v) (self:∀ (s:Shared) (Q:Value->Shared->Prop) (E:Value->Shared->Prop),St 0 s.heap->Q (.ref I) s->wpAny aO A (pyIter (.ref I)) Q E s)
   (al:∀ i h,St i h->∀ b∈fp,∃ o,h.get? b=some o)
def jl(c:bc)(fp:List Addr):List Addr:=fp.filter λb=>(c.T b).isNone
theorem jn{b:Addr}:b∈jl c fp<->b∈fp/\c.T b=none:=bR.trans (and_congr_right λZ=>Option.isNone_iff_eq_none)
theorem Cu {dg:bc} (yc:∀ b∈fp,(∃ q,aX.T b=some (.bO,q))\/∃ q,aX.T b=some (.gN,q)) (lF:ji aX dg)
  (l2:∀ b∈fp,∀ o,aX.T b=some (.bO,o)->dg.T b=some (.bO,o)) (R1:∀ a t o,aX.T a=some (t,o)->h.get? a=some o) (R2:∀ a t o,dg.T a=some (t,o)->h'.get? a=some o):
  ∀ b∈fp,∀ o,h.get? b=some o->h'.get? b=some o:=λb hbf o e=>
 (yc b hbf).elim (λ⟨q,hq⟩=>e▸R1 _ _ _ hq▸R2 _ _ _ (l2 b hbf q hq)) λ⟨q,hq⟩=>e▸R1 _ _ _ hq▸R2 _ _ _ (lF.gN _ _ hq)
theorem Ia(yc:∀ b∈fp,Fp fg c b)(hnl:∀ b∈fp,c.T b≠none->b ∉ l)(own:∀ b∈fp,c.T b=none->∃ q,aX.T b=some (.bO,q))(ow:og c aX l):∀ b∈fp,(∃ q,aX.T b=some (.bO,q))\/∃ q,aX.T b=some (.gN,q):=λb hb=>
 (yc b hb).k.elim (λh0=>.inl (own b hb h0)) λ⟨t,o,h0,ht⟩=>ht.elim (λe=>.inr ⟨o,ow.gf.gN _ _ (e▸h0)⟩) λe=>.inl ⟨o,ow.keep _ _ (hnl b hb λq=>nn (q.symm.trans h0)) (e▸h0)⟩
end
section
variable{σ:St}
inductive Zq(F:iR)(s:Shared)(c:bc)(l:List Addr)(St:Nat->Heap->Prop)(f:V->Mine.St->Option (Out×Mine.St))(items:List V)(out:Out×Mine.St):Nat->Shared->Prop
 | mk (i:Nat) (r:List V) (aX:bc) (cg:Mine.St) (aS:Heap) (tk:Nat) (hi:i+r.length=items.length) (hr:items.drop i=r) (st:St i aS) (ow:og c aX l) (R:bQ aX F cg aS) (hx:dO bT f r cg=some out):Zq F s c l St f items out (r.length+1) {s with heap:=aS,toks:=tk}
theorem Ib (ek:cM F) (hA:iZ F.r A) {t:Tg} {body:List Stmt} {ex:List Stmt->St->Option (Out×St)} {out:Out×St} (tK:OH (eP F.k) te t)
  (Ck:∀ (σ:St) (p:Out×St),ex body σ=some p->OL F body σ p) (hS:jI A te (pT t) fg c s.heap I items) (hR:bQ c F σ s.heap)
  (hx:dO bT (t6 bT ex t body) items σ=some out)
  (q:∀ c' h' tk fl,Lw c c'->bQ c' F out.2 h'->Zr c' out.1 fl->RR (.ok fl) {s with heap:=h',toks:=tk}):codeAny aO A (.forLoop te (.ref I) body [] F.env) RR s:=by
 injection hS with fp wr PP Md St K st Lz yc hit _ ye;have Ap:∀ b∈wr,b∈jl c fp:=λb hb=>jn.mpr ⟨K.sub b hb,Lz b hb⟩;have vR:∀ b∈jl c fp,c.T b=none:=λb hb=>(jn.mp hb).2;have GH:og c c (jl c fp):=⟨λb hb=>hR.w.gy (vR b hb),λb hb t o e=>nn ((vR b hb).symm.trans e),ji.refl c,λa o Z e=>e⟩
 have Au:∀ h':Heap,MT c (jl c fp) h':=λh'=>hR.w.low.up.casesOn λa q ha e=>⟨a,q,ha,e,λhm=>nn ((vR a hm).symm.trans e)⟩
 refine codeAny_forLoop_any (Zq F s c (jl c fp) St (t6 bT ex t body) items out) ?_ (items.length+1) ⟨0,items,c,σ,s.heap,s.toks,bF _,rfl,st,GH,hR,hx⟩;intro n s' hI;injection hI with i r aX cg aS dh hi hr wZ ow cy xX;rcases r with _ | ⟨x,r⟩
 ·obtain rfl:=ae xX;obtain rfl:i=items.length:=hi;refine K.done _ _ _ wZ λeG fG mz=>wpAny_execs_nil (q _ eG fG .next (ow.re.lw vR) (cy.re ow (Au eG) λb o hb e=>mz b o (λq=>hb (Ap b q)) e) rfl)
 ·have jt:i<items.length:=hi▸gA (cN _);have hxi:items[i]? =some x:=by rw [<-Nat.add_zero i,<-List.getElem?_drop,hr]; rfl
  refine aJ xX λp hb Cb=>aJ hb λσm lM hf=> ?_;refine K.item i _ _ _ jt wZ λv eG fG hMd mz=>K.go i v _ _ _ hMd λgR hP wY HO=> ?_;have gI:bQ (aX.re (jl c fp) gR) F cg gR:=cy.re ow (Au gR) λb o hb e=>HO b o (λq=>hb (Ap b q)) (mz b o (λq=>hb (Ap b q)) e);have qo:og c (aX.re (jl c fp) gR) (jl c fp):=ow.re;refine sU (s:={s with heap:=gR,toks:=fG}) (UZ ek) hA tK gI ((hit i v gR _ hP hxi).mono qo.gf) lM λIB QL Fs JM A9=>Ck _ _ hf A IB {s with heap:=QL,toks:=Fs} _ _ hA A9 λwh Ly Br fl Qm qJ Zn=> ?_;have rH:∀ b∈jl c fp,∃ q,(aX.re (jl c fp) gR).T b=some (.bO,q):=λb hb=>(ye _ _ wY b (jn.mp hb).1).elim λo ho=>⟨o,bc.rB hb ho⟩
  have Hk:=JM.trans Qm;have BI:og c wh (jl c fp):=qo.then rH Hk.toji Hk.bO;obtain ⟨P8,fN⟩:=p;induction P8 using Mine.Out.casesOn with
  | ret x=>obtain rfl:=ae Cb;induction Zn with | mk w hw=>exact q wh Ly Br _ (BI.lw vR) qJ ⟨w,hw⟩
  | ez=>
   obtain rfl:=Zn;exact ⟨r.length+1,Nat.lt_succ_self _,i+1,r,wh,fN,Ly,Br,(cF i _).trans hi,by rw [<-List.tail_drop,hr]; rfl,
    K.frame _ _ _ wY (Cu (Ia yc (λb hb hn hm=>hn (vR b hm)) (λb hb h0=>rH b (jn.mpr ⟨hb,h0⟩)) qo) Hk.toji (λb Z o e=>Hk.bO b o e) gI.w.hold qJ.w.hold),BI,qJ,Cb⟩
end
section
variable{σ:St}{l:List V}{v x:V}
inductive wG(c c':bc):V->List aV->Prop
 | no (v:V) (W:List aV) (e:∀ W',nG v W W'=W'):wG c c' v W
 | df (n:Nat) (W:List aV) (es:List DictEntry) (ep:Nat) (l:List (V×V)) (hw:W[n]? =some (.dict l)) (lt:n<c'.N) (t:c'.T (c'.ga n)=some (.bO,b9 es ep)) (nb:∀ o,c.T (c'.ga n)≠some (.bO,o)) (D:iV c' l es) (kn:pS l) (hb:l.length<=100000) (lo:(c'.ga n==sysModules)=false) (b0:∀ o,eI.get? (c'.ga n)≠some o):wG c c' (.glob n) W
inductive aeP(c c' dg:bc)(F':iR)(σ:St)(v:V)(W:List aV)(h:Heap):Prop
 | mk (kJ:bc) (x:Ch dg kJ (λt=>t=.bO)) (k:∀ a o,((∃ o',c.T a=some (.bO,o'))\/c'.T a=none)->dg.T a=some (.bO,o)->kJ.T a=some (.bO,o)) (vl:kJ.vals=dg.vals) (R:bQ kJ F' {σ with W:=nG v W σ.W} h)
theorem wG.give{dg:bc}{F':iR}(B:wG c c' v W)(lv:ji c' dg)(lb:∀ a o,c'.T a=some (.bO,o)->(∀ o',c.T a≠some (.bO,o'))->dg.T a=some (.bO,o))(Av:∃ a o o',sysModules<a/\c.T a=some (.bO,o)/\dg.T a=some (.bO,o'))(R:bQ dg F' σ h):aeP c c' dg F' σ v W h:=by
 induction B with
 | no v W e=>exact ⟨dg,Ch.refl _ _,λZ Z Z h=>h,rfl,by rw [e]; exact R⟩
 | df n W es ep l hw lt t nb D kn hb lo b0=>
  have t2:=lb _ _ t nb;have x:Ch dg (dg.put (c'.ga n) (.gl n) (b9 es ep)) (λu=>u=.bO):=Ch.put t2 eT;refine ⟨_,x,λa o e e'=>(bY _ _ _ λq:a=c'.ga n=> ?_).trans e',rfl,⟨⟨Av.elim λa Av=>Av.elim λo Av=>Av.elim λo' Av=>⟨a,o',Av.1,(bY _ _ _ λq:a=c'.ga n=>nb o (q▸Av.2.1)).trans Av.2.2⟩,λu o e hc=> ?_⟩,λa u o e=> ?_,λa o e=>(bY _ _ _ λq:a=c'.ga n=> ?_).trans (R.w.base a o e),(iI ..).trans R.w.len,λm M e=> ?_⟩,R.loc.ch x rfl eT (λZ=>eT) (λZ=>eT),R.cv.ch x eT⟩
  ·subst q; exact e.elim (λ⟨o',e⟩=>nb o' e) λe=>nn (e.symm.trans t)
  ·exact (cm e).elim (λq=>absurd q.1.symm (aI.mp lo)) λq=>R.w.low.sys u o q.2 hc
  ·exact (cm e).elim (λq=>q.1▸q.2.2▸R.w.hold _ _ _ t2) λq=>R.w.hold _ _ _ q.2
  ·subst q; exact b0 o e
  ·rcases Dg e with⟨rfl,e,_⟩ | ⟨_,e⟩
   ·rw [hw] at e;exact e▸⟨es,ep,by rw [show(dg.put (c'.ga m) (.gl m) (b9 es ep)).ga m=c'.ga m from lv.ga m lt]; exact aF ..,iV.mono (lv.trans x.gf) _ _ D,kn,hb⟩
   ·exact (R.w.jx m M e).ch x (R.w.lt e) eT eT
theorem wG.from(l:Lw c₀ c)(B:wG c c' v W):wG c₀ c' v W:=by
 induction B with
 | no v W e=>exact .no v W e
 | df n W es ep l' hw lt t nb D kn hb lo b0=>exact .df n W es ep l' hw lt t (λo e=>nb o (l.bO _ _ e)) D kn hb lo b0
inductive Zl(c:bc)(F:iR)(σ:St)(h:Heap)(n:Nat)(l:List (V×V)):Prop
 | mk (c':bc) (es:List DictEntry) (ep:Nat) (le:Le c c') (R:bQ c' F {σ with W:=hold (.glob n) σ.W} h) (t:c'.T (c.ga n)=some (.bO,b9 es ep)) (D:iV c l es) (lo:(c.ga n==sysModules)=false) (nb:∀ o,c.T (c.ga n)≠some (.bO,o)) (B:wG c c' (.glob n) σ.W)
theorem xY(hR:bQ c F σ h){l:List (V×V)}(hw:σ.W[n]? =some (.dict l)):Zl c F σ h n l:=by
 injection hR.w.jx _ _ hw with es ep t D kn hb;have lo:=jT hR.w t rfl;have x:Ch c (c.put (c.ga n) .bO (b9 es ep)) (λu=>u=.gl n):=Ch.put t eT;have le:Le c (c.put (c.ga n) .bO (b9 es ep)):=x.le eT rfl;have nb:∀ o,c.T (c.ga n)≠some (.bO,o):=λo e=>nomatch t.symm.trans e
 refine ⟨_,es,ep,le,⟨⟨hR.w.low.vy t eT (.inl rfl),λb u q e=> ?_,λa o e=>le.bO _ _ (hR.w.base a o e),(iI ..).trans hR.w.len,λm M e=> ?_⟩,hR.loc.ch x rfl eT (λZ=>eT) (λZ=>eT),hR.cv.ch x eT⟩,aF ..,D,lo,nb,
  .df n _ es ep l hw (hR.w.lt hw) (aF ..) nb (iV.mono le.toji _ _ D) kn hb lo λo e=>nb o (hR.w.base _ _ e)⟩
 ·exact (cm e).elim (λq=>q.1▸q.2.2▸hR.w.hold _ _ _ t) λq=>hR.w.hold _ _ _ q.2
 ·rcases Dg e with⟨rfl,e,_⟩ | ⟨hm,e⟩
  ·exact e▸trivial
  ·exact (hR.w.jx m M e).ch x (hR.w.lt e) (λq=>hm (gG.gl.inj q)) eT
theorem Fp.new(l0:Lw fg c)(e:c.T a=none):Fp fg c a:=⟨.inl e,λo q=>nn (e.symm.trans (l0.bO _ _ q))⟩
theorem Fp.gN(l0:Lw fg c){o:Obj}(e:c.T a=some (.gN,o)):Fp fg c a:=⟨.inr ⟨_,_,e,.inl rfl⟩,λo q=>nomatch e.symm.trans (l0.bO _ _ q)⟩
theorem Fp.held{o:Obj}(l0:Lw fg c)(e:c'.T a=some (.bO,o))(nb:∀ o,c.T a≠some (.bO,o)):Fp fg c' a:=⟨.inr ⟨_,_,e,.inr rfl⟩,λo q=>nb o (l0.bO _ _ q)⟩
theorem Kb {PP:Nat->Value->Prop} {St:Nat->Heap->Prop} (K:Walks pw gD A I [I,d] [I] n PP St) (hn:n=l.length) (h0:St 0 h)
  (hgo:∀ i v (s:Shared) (Q:Unit->Shared->Prop) (E:Value->Shared->Prop),St i s.heap->Q () s->wpAny aO A (letOwnedTupleGo qL (.ref I) v) Q E s)
  (hI:c.T I=none) (fI:Fp fg c I) (fd:Fp fg c d) (hit:∀ i v x,PP i v->l[i]? =some x->VR c x v)
  (ye:∀ i h,St i h->(∃ o,h.get? I=some o)/\∃ o,h.get? d=some o):jI A qL many fg c h I l:=by
 subst hn;exact ⟨_,_,_,_,St,KTurns.ofWalks K hgo,h0,λb hb=>ay.mp hb▸hI,ah.mpr ⟨fI,ah.mpr ⟨fd,λZ q=>(eX q)⟩⟩,λi v h' x p e=>.val (hit i v x p e),λs Q E st q=>K.self 0 s Q E st q,λi h st=>ah.mpr ⟨(ye i h st).1,ah.mpr ⟨(ye i h st).2,λZ q=>(eX q)⟩⟩⟩
theorem n9{v:Value}(S:dw c l vs)(hv:vs.toArray[i]? =some v)(hx:l[i]? =some x):VR c x v:=
 (nh S hx).casesOn λw hw a=>ae (hw.symm.trans ((cq ..).symm.trans hv))▸a
theorem qD{target:Expr}{a b d:Int}{v:Value}{Q':Unit->Shared->Prop}{s':Shared}(hit:IsRangeIter s'.heap I a b d)(h:Q' () s'):
  wpAny aO A (letOwnedTupleGo target (.ref I) v) Q' E s':=by
 have g:∀ a,wpAny aO A (letOwnedTupleGo (.Tuple [] 0 a) (.ref I) v) Q' E s':=λa=>by
  induction v using PySem.Value.casesOn with
  | ref=>exact aa (wpAny_load hit (aj h))
  | _=>exact aj h
 induction target using ny with
 | Tuple a b p=>exact g p
 | List a p=>exact g p
 | _=>exact aj h
inductive yU(A:Around)(c:bc)(F:iR)(σ:St)(qL:Expr)(many:Bool)(fg:bc)(v:V)(l:List V)(I:Addr)(h':Heap):Prop
 | mk (c':bc) (le:Le c c') (R:bQ c' F {σ with W:=hold v σ.W} h') (S:jI A qL many fg c' h' I l) (B:wG c c' v σ.W)
theorem CD(hA:iZ F.r A)(l0:Lw fg c)(R:bQ c' F σ h)(le:Le c c'){l:List (V×V)}(e:c'.T d=some (t,b9 es n))(D:iV c' l es)(fd:Fp fg c' d):
  jI A qL many fg c' (h.push {cls:=.type "dict_keyiterator",data:=.fields #[.ref d,.int 0 0,.int es.length 0,.int n 0]}) h.objs.size (l.map (·.1)):=by
 have gx:d≠h.objs.size:=λq=>nn (R.w.fresh.symm.trans (q▸e));exact Kb (q9 hA.handled h.objs.size d gx es n) (by rw [ao,fE D]) ⟨⟨_,aR _ rfl,rfl,rfl⟩,aE _ (R.w.hold _ _ _ e)⟩ (λi v s Q E st q=>letGo_keyiter st.1 q) R.w.fresh (Fp.new (l0.trans le.toLw) R.w.fresh) fd
  (λi v x p hx=>p.elim λen he=>n9 (pj D) (by rw [cq,bB,he.1,he.2]; rfl) hx) λi h st=>⟨st.1.elim λo h=>⟨o,h.1⟩,_,st.2⟩
theorem Ku (hA:iZ F.r A) (l0:Lw fg c) (hR:bQ c F σ s.heap) {r:V×List V} {a:Value} (h:jh σ.W v=some r) (V:VR c v a)
  (q:∀ h' tk I,yU A c F σ qL many fg r.1 r.2 I h'->Q (.ref I) {s with heap:=h',toks:=tk}):wpAny aO A (pyIter a) Q E s:=by
 have vR:c.T s.heap.objs.size=none:=hR.w.fresh;have fI:=Fp.new l0 vR;induction v using lH with
 | lst l=>
  obtain rfl:=ae h;injection V with d vs n t S _;have hl:=dJ hR t;have gx:d≠s.heap.objs.size:=λe=>nn (vR.symm.trans (e▸t));exact wpAny_pyIter_list hl (q _ s.toks _ ⟨c,Le.refl c,hR.push _,Kb (Walks.list hA.handled s.heap.objs.size d gx vs.toArray) (by rw [aM,aY S]) ⟨⟨_,aR _ rfl,rfl,rfl⟩,hl.at λo e=>aE _ e⟩ (λi v s Q E st q=>letGo_listiter st.1 q)
   vR fI (Fp.gN l0 t) (λi v x p e=>n9 S p e) λi h st=>⟨st.1.elim λo h=>⟨o,h.1⟩,st.2.elim λo h=>⟨o,h.1⟩⟩,.no _ _ λZ=>rfl⟩)
 | tup l=>
  obtain rfl:=ae h;injection V with d vs n t S _;have hl:s.heap.IsTuple d vs.toArray:=⟨_,hR.w.hold _ _ _ t,rfl,n,rfl⟩
  have gx:d≠s.heap.objs.size:=λe=>nn (vR.symm.trans (e▸t));exact wpAny_pyIter_tuple hl (q _ s.toks _ ⟨c,Le.refl c,hR.push _,Kb (Walks.tuple hA.handled s.heap.objs.size d gx vs.toArray) (by rw [aM,aY S]) ⟨⟨_,aR _ rfl,rfl,rfl⟩,hl.at λo e=>aE _ e⟩ (λi v s Q E st q=>letGo_tupleiter st.1 q)
   vR fI (Fp.gN l0 t) (λi v x p e=>n9 S p e) λi h st=>⟨st.1.elim λo h=>⟨o,h.1⟩,st.2.elim λo h=>⟨o,h.1⟩⟩,.no _ _ λZ=>rfl⟩)
 | ql a' b' d'=>
  injection V with d t1 t2 t3 t;injection eo h with l hl;injection eC hl with e;refine fb e λe1 e2=> ?_;refine wpAny_pyIter_range (hR.w.hold _ _ _ t) e1 (q _ s.toks _ ⟨c,Le.refl c,hR.push _,⟨_,_,_,_,_,KTurns.ofWalks (Walks.range hA.handled s.heap.objs.size a' d' _) (λi v s Q E st q=>qD st q),?_,λb hb=>ay.mp hb▸vR,λb hb=>ay.mp hb▸fI,λi v h' x p e=>.val ?_,λs Q E st q=>(Walks.range hA.handled _ a' d' _).self 0 s Q E st q,λi h st b hb=>ay.mp hb▸⟨_,st⟩⟩,.no _ _ λZ=>rfl⟩)
  ·rw [ao,iP,Int.toNat_of_nonneg (cE e2),show a'+((0:Nat):Int)*d'=a' by rw [Int.natCast_zero,Int.zero_mul,Int.add_zero],show Builtin.Range.rangeSize a' b' d'-((0:Nat):Int)=_ from Int.sub_zero _];exact aR _ rfl
  ·rw [bB] at e;injection eo e with j hj;obtain rfl:j=i:=by have:=eD.mp hj;exact this.2.symm.trans (List.getElem_range this.1)
   exact p.elim λtk e=>e▸⟨tk⟩
 | df l=>obtain rfl:=ae h;injection V with d es n t D kn _;exact Al (jT hR.w t rfl) (hR.w.hold _ _ _ t) (q _ s.toks _ ⟨c,Le.refl c,hR.push _,CD hA l0 hR (Le.refl c) t D (Fp.gN l0 t),.no _ _ λZ=>rfl⟩)
 | glob n=>injection eo h with dl hw;induction V;injection xY hR (iu hw)with c' es ep le R' t D lo nb B;exact Al lo (R'.w.hold _ _ _ t) (q _ s.toks _ ⟨c',le,R'.push _,CD hA l0 R' le t (iV.mono le.toji _ _ D) (Fp.held l0 t nb),B⟩)
 | _=>exact nn h
end
section
variable{w:World}{b:Array UInt8}{t:Tok}
theorem sJ {c:UInt8} (hit:KBw.IsBytesIter s.heap it b t i) (hx:b[i]? =some c)
  (hQ:∀ h',KBw.IsBytesIter h' it b t (i+1)->Heap.SameBut it s.heap h'->Q (.int (c.toNat:Int) s.toks) {s with heap:=h',toks:=s.toks+1}):wpAny (model prog w) A (Builtin.SmallTypes.nextOf (.ref it)) Q E s:=by
 refine ag (id hit) λo z1=>And.elim (λho z2=>And.elim (λhc hd=> ?_) z2) z1;unfold Builtin.SmallTypes.nextOf;refine aa (dA (name:=PySem.Str.ofString "__next__") (KBw.iter_typeIs hit) KBw.slot_next
  (bJ KBw.slot_next (KBw.iter_typeIs hit) KBw.entry_next ?_ (KBw.args_next _)))
 show wpAny _ _ (field (.ref it) 0>>=_) _ _ s;refine aa (wpAny_field ho hd (x:=.bytes b t) rfl ?_);show wpAny _ _ (if(Value.bytes b t==Value.none)=true then _ else _) _ _ s;rw [cb (show ¬ ((Value.bytes b t==Value.none)=true)from cS)];show wpAny _ _ (field (.ref it) 1>>=_) _ _ s;refine aa (wpAny_field ho hd (x:=.int i 0) rfl ?_);refine aa (c9 (a:=b) rfl ?_);simp only [Int.toNat_natCast,hx];refine aa (wpAny_setField ho hd (by simp) (aa (wpAny_mkInt (aj ⟨_,rfl,aj (hQ _ ?_ (dz ..))⟩))));exact ⟨_,cZ _ ho (Obj.isFreed_of_fields (Obj.data_mapFields hd _)),(Obj.cls_mapFields ..).trans hc,by
  rw [Obj.data_mapFields hd]; simp [rawInt]⟩
theorem tP (hh:A.handled=none) (hit:KBw.IsBytesIter s.heap it b t i) (hx:b[i]? =none)
  (hE:∀ h' e,Heap.ExtBut it s.heap h'->(∃ o,h'.get? e=some o/\o.cls=.type "StopIteration")->E (.ref e) {s with heap:=h'}):wpAny (model prog w) A (Builtin.SmallTypes.nextOf (.ref it)) Q E s:=by
 refine ag (id hit) λo z1=>And.elim (λho z2=>And.elim (λhc hd=> ?_) z2) z1;unfold Builtin.SmallTypes.nextOf;refine aa (dA (name:=PySem.Str.ofString "__next__") (KBw.iter_typeIs hit) KBw.slot_next
  (bJ KBw.slot_next (KBw.iter_typeIs hit) KBw.entry_next ?_ (KBw.args_next _)))
 show wpAny _ _ (field (.ref it) 0>>=_) _ _ s;refine aa (wpAny_field ho hd (x:=.bytes b t) rfl ?_);show wpAny _ _ (if(Value.bytes b t==Value.none)=true then _ else _) _ _ s;rw [cb (show ¬ ((Value.bytes b t==Value.none)=true)from cS)];show wpAny _ _ (field (.ref it) 1>>=_) _ _ s;refine aa (wpAny_field ho hd (x:=.int i 0) rfl ?_);refine aa (c9 (a:=b) rfl ?_);simp only [Int.toNat_natCast,hx];refine aa (wpAny_rule (aa (wpAny_setField ho hd (by simp) ?_)));show wpAny _ _ (newExc (.type "StopIteration") []>>=_) _ _ _;refine aa ?_;simp only [newExc,newTuple];refine aa (cX ?_ (by size_fits));refine aa (m:=firstArgMember _ _) (c9 (a:=Value.none) (by first | rfl | (simp only [firstArgMember]; rfl)) ?_);refine cX ?_ (by size_fits);simp only [raiseNew];refine aa (wpAny_handled ?_)
 first | rw [show A.in1.handled=none from hh] | rw [hh]
 refine aa (aj (wpAny_throw ?_));exact hE _ _ (((dz ..).extBut.push _).push _) ⟨_,aR _ rfl,rfl⟩
end
theorem AJ{w:World}(hh:A.handled=none)(it:Addr)(b:Array UInt8)(t:Tok):
  Draws prog w A it [it] b.size (λi v=>∃ c u,b[i]? =some c/\v=.int (c.toNat:Int) u) (λi h=>KBw.IsBytesIter h it b t i)where
 live:=λZ Z st=>let⟨o,ho,_⟩:=st; ⟨o,ho⟩
 frame:=λZ Z Z st hk=>let⟨o,ho,r⟩:=st; ⟨o,hk it (by simp) o ho,r⟩
 item:=λi s Q E hi st hQ=>by
  refine sJ st (c:=b[i]) (by simp [hi]) λh' qE pV=> ?_;exact hQ _ h' (s.toks+1) ⟨_,_,by simp [hi],rfl⟩ qE pV
 done:=λs Q E st hE=>tP hh st (by simp) hE
set_option maxHeartbeats 1000000 in
theorem wL{w:World}{x:Bool}{Q:Bool->Shared->Prop}(h:∀ b,Q b s):wpAny (model prog w) A (pure x) Q E s:=aj (h x)
set_option tactic.hygienic true in
theorem mi(x:Array UInt8)(t:Tok):
  Meets (Builtin.«enumerate.__new__» ⟨[.type "enumerate",.bytes x t],[]⟩) (λZ R s=>
   R (.ok (.ret (.ref (s.heap.push {cls:=.type "bytes_iterator",data:=.fields #[.bytes x t,.int 0 0]}).objs.size)))
    {s with heap:=(s.heap.push {cls:=.type "bytes_iterator",data:=.fields #[.bytes x t,.int 0 0]}).push {cls:=.type "enumerate",data:=.fields #[.none,.bool false,.ref s.heap.objs.size,rawInt 0,.none,.none]}}):=
 .of_wp λprog w A R s h=>by
  obtain ⟨hp,g,d,tk,os⟩:=s;have Ap:=sub_enumerate;wp_walk;refine wpAny_stack_any λst=>wL λb=> ?_;induction b using eK
  ·dsimp only;wp_walk using KBw.pyIter_bytes;exact ⟨_,rfl,h⟩
  ·dsimp only;wp_walk using KBw.pyIter_bytes;exact ⟨_,rfl,h⟩
theorem mF {w:World} {x:Array UInt8} {t:Tok}
  (h:∀ h',IsEnum h' (s.heap.objs.size+1) s.heap.objs.size 0 .none->KBw.IsBytesIter h' s.heap.objs.size x t 0->h'.objs.size=s.heap.objs.size+2->
   (∀ b o,s.heap.get? b=some o->h'.get? b=some o)->Q (.ref (s.heap.objs.size+1)) {s with heap:=h'}):
  wpAny (model prog w) A (call (.type "enumerate") [.bytes x t]) Q E s:=by
 refine callType_new PySem.F.called_enumerate ∅ (PySem.F.typeCall_enumerate_1 _) (PySem.F.newCall_enumerate_1 _) (λobj=>PySem.F.args_object_init_2 obj _) PySem.F.entry_enumerate_new
  (mi x t) ?_
 have hz:(s.heap.push {cls:=.type "bytes_iterator",data:=.fields #[.bytes x t,.int 0 0]}).objs.size=s.heap.objs.size+1:=Heap.size_push ..;show _/\_;rw [hz];have he:IsEnum ((s.heap.push {cls:=.type "bytes_iterator",data:=.fields #[.bytes x t,.int 0 0]}).push
   {cls:=.type "enumerate",data:=.fields #[.none,.bool false,.ref s.heap.objs.size,rawInt 0,.none,.none]}) (s.heap.objs.size+1) s.heap.objs.size 0 .none:=by
  have:=aR (s.heap.push {cls:=.type "bytes_iterator",data:=.fields #[.bytes x t,.int 0 0]})
   (o:={cls:=.type "enumerate",data:=.fields #[.none,.bool false,.ref s.heap.objs.size,rawInt 0,.none,.none]}) rfl
  rw [hz] at this; exact this
 refine ⟨⟨_,he,rfl⟩,h _ he ⟨_,aE _ (aR _ rfl),rfl,rfl⟩ (by rw [Heap.size_push,hz]) λb o y=>aE _ (aE _ y)⟩
section
variable{σ:St}{l la lb:List V}{v x:V}{elts:List Expr}{kk:Nat}
inductive aes(c:bc)(x:V)(vals:Array Value):Prop
 | mk (vs:List V) (ws:List Value) (e:x=.tup vs) (e':vals=ws.toArray) (S:dw c vs ws)
theorem U3 {wr:List Addr} {Pt:Nat->Array Value->Prop} {St:Nat->Heap->Prop} {Mid:Nat->Addr->Heap->Prop} (K:WalksU pw gD A I fp wr n Pt St Mid) (hn:n=l.length) (h0:St 0 h) (Lz:∀ b∈wr,c.T b=none) (yc:∀ b∈fp,Fp fg c b)
  (hit:∀ i vals x,Pt i vals->l[i]? =some x->aes c x vals) (ye:∀ i h,St i h->∀ b∈fp,∃ o,h.get? b=some o):jI A (.Tuple elts kk pos) true fg c h I l:=by
 subst hn;exact ⟨_,_,_,_,St,KTurns.ofWalksU K,h0,Lz,yc,λi v h' x p e=>p.elim λT p=>p.elim λvals p=>(hit i vals x p.2.1 e).casesOn λvs ws e1 e2 S=>.tup rfl vs T ws e1 p.1 (e2▸p.2.2) S,λs Q E st q=>K.self 0 s Q E st q,ye⟩
theorem vV(l:List V):∀ (j:Int) (i:Nat),(eQ j l)[i]? =(l[i]?).map λv=>V.tup [.int (j+i),v]:=by
 induction l with
 | nil=>exact λj i=>rfl
 | cons v r ih=>
  intro j i;induction i using oF with
  | zero=>exact av (λk=>some (V.tup [.int k,v])) (Int.add_zero j).symm
  | succ i=>refine (ih (j+1) i).trans ?_;rw [Int.add_assoc,Int.add_comm 1]; rfl
theorem qG(l:List V):∀ j:Int,(eQ j l).length=l.length:=by
 induction l with
 | nil=>exact λZ=>rfl
 | cons v r ih=>exact λj=>av (· +1) (ih _)
theorem J3{i:Int}{t:Tok}{y:V}(V:VR c y w):dw c [.int i,y] [.int i t,w]:=⟨_,_,⟨t⟩,_,_,V,rfl⟩
theorem Bz {e:Addr} {P:Nat->Value->Prop} {St:Nat->Heap->Prop} (D:Draws pw gD A.in1 it fp n P St) (hei:e≠it) (hef:e ∉ fp) (hif:it∈fp) (hn:n=l.length) (h0:IsEnum h e it 0 .none) (s0:St 0 h) (te:c.T e=none) (ti:c.T it=none) (fe:Fp fg c e) (yc:∀ b∈fp,Fp fg c b)
  (hit:∀ i w x,P i w->l[i]? =some x->VR c x w) (ye:∀ i h,St i h->∀ b∈fp,∃ o,h.get? b=some o):jI A (.Tuple elts kk pos) true fg c h e (eQ 0 l):=
 U3 (WalksT.enumerateD D e hei hef hif).toU (hn.trans (qG l 0).symm) ⟨⟨_,h0⟩,s0⟩ (ah.mpr ⟨te,ah.mpr ⟨ti,λZ q=>(eX q)⟩⟩) (ah.mpr ⟨fe,yc⟩)
  (λi vals x p e=>by
   obtain ⟨t,w,hw,rfl⟩:=p;rw [vV] at e;induction eo e with | mk y hy=>exact ⟨_,[_,_],rfl,rfl,Int.zero_add _▸J3 (hit i w y hw hy)⟩)
  λi h st=>ah.mpr ⟨st.1.elim λZ e=>⟨_,e⟩,ye i h st.2⟩
theorem bQ.Cq(R:bQ c F σ h)(ha:h.objs.size<=a):c.T a=none:=by
 rcases e:c.T a with _ | p
 ·rfl
 ·exact absurd (bt (R.w.hold _ p.1 p.2 e)) (Nat.not_lt.mpr ha)
theorem Yn (hA:iZ F.r A) (l0:Lw fg c) (hR:bQ c F σ s.heap) {r:V×List V} {a:Value} (h:Oh v=some r) (V:VR c v a)
  (q:∀ h' tk I,yU A c F σ (.Tuple elts kk pos) true fg r.1 r.2 I h'->Q (.ref I) {s with heap:=h',toks:=tk}):wpAny aO A (call (.type "enumerate") [a]) (λv s=>wpAny aO A (pyIter v) Q E s) E s:=by
 have f0:c.T s.heap.objs.size=none:=hR.w.fresh;have f1:c.T (s.heap.objs.size+1)=none:=hR.Cq (da _);induction v using lH with
 | lst l=>
  obtain rfl:=ae h;injection V with d vs n t S _;have hl:=dJ hR t;have ne0:d≠s.heap.objs.size:=λe=>nn (f0.symm.trans (e▸t));have ne1:s.heap.objs.size+1≠d:=λe=>nn (f1.symm.trans (e▸t));exact call_enumerate_list hl λh' hE hI hz hk=>wpAny_pyIter_enum (s:={s with heap:=h'}) hE (q h' s.toks _ ⟨c,Le.refl c,hR.keeps hk,Bz (Draws.list (A:=A.in1) hA.handled s.heap.objs.size d ne0 vs.toArray) (Nat.succ_ne_self _) (λhm=>(aH.mp hm).elim (Nat.succ_ne_self _) λhm=>ne1 (ay.mp hm)) aq (by rw [aM,aY S])
   hE ⟨hI,hl.at λo e=>hk _ o e⟩ f1 f0 (Fp.new l0 f1) (ah.mpr ⟨Fp.new l0 f0,ah.mpr ⟨Fp.gN l0 t,λZ q=>(eX q)⟩⟩) (λi w x p e=>n9 S p e) λi h st=>ah.mpr ⟨st.1.elim λo h=>⟨o,h.1⟩,ah.mpr ⟨st.2.elim λo h=>⟨o,h.1⟩,λZ q=>(eX q)⟩⟩,.no _ _ λZ=>rfl⟩)
 | bytes l=>
  obtain rfl:=ae h;injection V with t _;refine mF λh' hE hI hz hk=>wpAny_pyIter_enum (s:={s with heap:=h'}) hE (q h' s.toks _ ⟨c,Le.refl c,hR.keeps hk,Bz (AJ (A:=A.in1) hA.handled s.heap.objs.size l.toArray t) (Nat.succ_ne_self _) (λhm=>Nat.succ_ne_self _ (ay.mp hm)) aq (by rw [aM,ao])
   hE hI f1 f0 (Fp.new l0 f1) (ah.mpr ⟨Fp.new l0 f0,λZ q=>(eX q)⟩) (λi w x p e=> ?_) λi h st=>ah.mpr ⟨st.elim λo h=>⟨o,h.1⟩,λZ q=>(eX q)⟩,.no _ _ λZ=>rfl⟩)
  rw [bB] at e;injection eo e with b hb;obtain ⟨b',u,DP,rfl⟩:=p;exact ae (hb.symm.trans ((cq ..).symm.trans DP))▸⟨u⟩
 | _=>exact nn h
theorem aax (hA:iZ F.r A) (l0:Lw fg c) (hR:bQ c F σ s.heap) {y:V} {r:V×List V} {a b:Value} (h:Tz x y=some r) (V:VR c x a) (V':VR c y b)
  (q:∀ h' tk I,yU A c F σ (.Tuple elts kk pos) true fg r.1 r.2 I h'->Q (.ref I) {s with heap:=h',toks:=tk}):wpAny aO A (call (.type "zip") [a,b]) (λv s=>wpAny aO A (pyIter v) Q E s) E s:=by
 refine (eY h).casesOn λla Z4 h2=> ?_;injection eo h2 with lb hlb;rw [kP Z4] at V;rw [kP hlb] at V';injection V with d1 vs1 n1 t1 S1 _;injection V' with d2 Na n2 t2 S2 _;have Z5:=dJ hR t1;have Td:=dJ hR t2;have f:∀ i,c.T (s.heap.objs.size+i)=none:=λi=>hR.Cq (aB _ _);have ff:∀ i,Fp fg c (s.heap.objs.size+i):=λi=>Fp.new l0 (f i);have ne:∀ {d:Addr} {o:Obj} i,c.T d=some (.gN,o)->d≠s.heap.objs.size+i:=λi t e=>nn ((f i).symm.trans (e▸t));have na:∀ (i j:Nat),i≠j->s.heap.objs.size+i≠s.heap.objs.size+j:=λi j h e=>h (Nat.add_left_cancel e);refine call_zip_2 Z5 Td λh' z1 z2 z3 z4 z5 hz hk=>wpAny_pyIter_zip (s:={s with heap:=h'}) z1 (q h' s.toks _ ⟨c,Le.refl c,hR.keeps hk,U3 (WalksT.zip2 hA.handled (s.heap.objs.size+4) (s.heap.objs.size+2) (s.heap.objs.size+3) s.heap.objs.size (s.heap.objs.size+1) d1 d2 ⟨na 2 4 ∅,na 3 4 ∅,na 0 4 ∅,na 1 4 ∅,na 2 3 ∅,na 2 0 ∅,na 2 1 ∅,na 3 0 ∅,na 3 1 ∅,na 0 1 ∅,ne 4 t1,ne 3 t1,ne 0 t1,ne 1 t1,ne 4 t2,ne 3 t2,ne 0 t2,ne 1 t2⟩ vs1.toArray Na.toArray).toU
  (by rw [ao,List.length_zip,aM,aM,aY S1,aY S2]) ⟨z1,z2,⟨_,_,z3⟩,z4,z5,Z5.at λo e=>hk _ o e,Td.at λo e=>hk _ o e⟩
  (ah.mpr ⟨f 4,ah.mpr ⟨f 3,ah.mpr ⟨f 0,ah.mpr ⟨f 1,λZ q=>(eX q)⟩⟩⟩⟩)
  (ah.mpr ⟨ff 4,ah.mpr ⟨ff 2,ah.mpr ⟨ff 3,ah.mpr ⟨ff 0,ah.mpr ⟨ff 1,ah.mpr ⟨Fp.gN l0 t1,ah.mpr ⟨Fp.gN l0 t2,λZ q=>(eX q)⟩⟩⟩⟩⟩⟩⟩)
  (λi vals x p e=> ?_) (λi h st=> ?_),.no _ _ λZ=>rfl⟩)
 ·obtain ⟨xa,xb,ha,hb,rfl⟩:=p;rw [bB] at e;injection eo e with p hp;obtain ⟨h1,h2⟩:=List.getElem?_zip_eq_some.mp hp;exact ⟨_,[xa,xb],rfl,rfl,_,_,n9 S1 ha h1,_,_,n9 S2 hb h2,rfl⟩
 ·obtain ⟨s1,s2,⟨_,_,s3⟩,⟨o4,s4,_⟩,⟨o5,s5,_⟩,⟨o6,s6,_⟩,⟨o7,s7,_⟩⟩:=st;exact ah.mpr ⟨⟨_,s1⟩,ah.mpr ⟨⟨_,s2⟩,ah.mpr ⟨⟨_,s3⟩,ah.mpr ⟨⟨_,s4⟩,ah.mpr ⟨⟨_,s5⟩,ah.mpr ⟨⟨_,s6⟩,ah.mpr ⟨⟨_,s7⟩,λZ q=>(eX q)⟩⟩⟩⟩⟩⟩⟩
abbrev Yo(d:Addr):Obj:={cls:=.type "dict_values",data:=.fields #[.ref d]}
theorem AK (ho:s.heap.get? d=some (b9 es n)) (lo:(d==sysModules)=false)
  (hQ:Q (.ref s.heap.objs.size) {s with heap:=s.heap.push (Yo d)}):wpAny aO A (call (.builtin "dict.values") [.ref d]) Q E s:=by
 have hT:s.TypeIs (.ref d) "dict" :=⟨_,ho,rfl⟩
 exact bJ PySem.F.slot_dict_values hT PySem.F.entry_dict_values (aa (aa (eH hT (aj (aa (cW lo (aj (aa (cX (aj ⟨_,rfl,hQ⟩)))))))))) (PySem.F.args_dict_values_1 _)
theorem UL (hA:iZ F.r A) (l0:Lw fg c) (hR:bQ c F σ s.heap) {r:V×List V} {a:Value} (h:Nb σ.W v=some r) (V:VR c v a)
  (q:∀ h' tk I,yU A c F σ qL many fg r.1 r.2 I h'->Q (.ref I) {s with heap:=h',toks:=tk}):wpAny aO A (call (.builtin "dict.values") [a]) (λv s=>wpAny aO A (pyIter v) Q E s) E s:=by
 refine (eY h).casesOn λn hn h2=> ?_;injection eo h2 with dl hw;obtain rfl:=CT hn;induction V;injection xY hR (iu hw)with c' es ep le R' t D lo nb B;have ho:=R'.w.hold _ _ _ t;refine AK ho lo ?_;have wI:(s.heap.push (Yo (c.ga n))).get? (c.ga n)=some (b9 es ep):=aE _ ho;have R2:=R'.push (Yo (c.ga n));refine Hw (s:={s with heap:=s.heap.push (Yo (c.ga n))}) ⟨_,aR _ rfl,rfl,rfl⟩ wI (q _ s.toks _ ⟨c',le,R2.push _,?_,B⟩);have f1:=R2.w.fresh;have gx:c.ga n≠(s.heap.push (Yo (c.ga n))).objs.size:=λe=>nn (f1.symm.trans (e▸t));exact Kb (zf hA.handled _ (c.ga n) gx es ep) (by rw [ao,fE D]) ⟨⟨_,aR _ rfl,rfl,rfl⟩,aE _ wI⟩ (λi v s Q E st q=>letGo_valiter st.1 q) f1 (Fp.new (l0.trans le.toLw) f1) (Fp.held l0 t nb)
  (λi v x p hx=>p.elim λen he=>n9 (yQ (iV.mono le.toji _ _ D)) (by rw [cq,bB,he.1,he.2]; rfl) hx) λi h st=>⟨st.1.elim λo h=>⟨o,h.1⟩,_,st.2⟩
end
section
variable{σ:St}{it:Expr}
def SS(F:iR)(it qL:Expr)(many:Bool)(σ:St)(r:(V×List V)×St):Prop:=
 ∀ (A:Around) (c:bc) (s:Shared) (Q:Value->Shared->Prop) (E:Value->Shared->Prop),iZ F.r A->bQ c F σ s.heap->
  (∀ h' tk I,yU A c F r.2 qL many c r.1.1 r.1.2 I h'->Q (.ref I) {s with heap:=h',toks:=tk})->wpAny aO A (eval it F.env) (λxv cU=>wpAny aO A (pyIter xv) Q E cU) E s
inductive Sw(k:gr):Expr->Kv->Prop
 | plain (it:Expr):Sw k it (.plain it)
 | enum (p pos:Pos) (e:Expr) (g:fR k "enumerate" =true) (s:notStar e=true):Sw k (.Call (.Name "enumerate" p) [e] [] pos) (.enum e)
 | zip (p pos:Pos) (a b:Expr) (g:fR k "zip" =true) (s: [a,b].all notStar=true):Sw k (.Call (.Name "zip" p) [a,b] [] pos) (.zip a b)
 | vals (o:Expr) (ap pos:Pos) (u:gP o=true) (l:(ap.endLine==pos.line)=true):Sw k (.Call (.Attribute o (et 60) ap) [] [] pos) (.vals o)
theorem Qw{k:gr}{v:Kv}(h:b=true->Sw k it v):Sw k it (bif b then v else .plain it):=by
 induction b
 ·exact .plain _
 ·exact h rfl
theorem kvS(k:gr)(it:Expr):Sw k it (oK k it):=by
 induction it using ny with
 | Call f es DD pos=>
  induction f using ny with
  | Name n p=>
   rcases es with _ | ⟨a,_ | ⟨b,_ | _⟩⟩
   ·exact .plain _
   ·rcases DD with _ | _
    ·refine Qw λh=> ?_;refine fb h λh h3=> ?_;refine fb h λh1 h2=> ?_;obtain rfl:=gb.mp h1;exact .enum p pos a h2 h3
    ·exact .plain _
   ·rcases DD with _ | _
    ·refine Qw λh=> ?_;refine fb h λh h4=> ?_;refine fb h λh h3=> ?_;refine fb h λh1 h2=> ?_;obtain rfl:=gb.mp h1;exact .zip p pos a b h2 (by rw [List.all_cons,List.all_cons,h3,h4]; rfl)
    ·exact .plain _
   ·exact .plain _
  | Attribute o n ap=>
   rcases es with _ | _
   ·rcases DD with _ | _
    ·refine Qw λh=> ?_;refine fb h λh h3=> ?_;refine fb h λh1 h2=> ?_;obtain rfl:=gb.mp h1;exact .vals o ap pos h2 h3
    ·exact .plain _
   ·exact .plain _
  | _=>exact .plain _
 | _=>exact .plain _
theorem yU.from{aX:bc}{qL:Expr}{many:Bool}{v:V}{l:List V}{I:Addr}{h':Heap}(le:Le c aX):yU A aX F σ qL many fg v l I h'->yU A c F σ qL many fg v l I h'
 | ⟨c',le',R,S,B⟩=>⟨c',le.trans le',R,S,B.from le.toLw⟩
variable{ev:gr->Expr->St->Option (V×St)}(H:∀ {e σ p},ev F.k e σ=some p->GX F e σ p)
include H
theorem q5 (ko:lT) (ek:cM F) {n:Str} {T:String} {es:List Expr} {as:List V×St} (hg:fR F.k n=true) (hs:es.all notStar=true) (hb:∀ {mg mb:Str->Option Value},yY mg mb "enumerate" (.type "enumerate")->yY mg mb "zip" (.type "zip")->yY mg mb n (.type T)) (hd:fQ n=true)
  (ha:su bT (ev F.k) es σ=some as) (hA:iZ F.r A) (hR:bQ c F σ s.heap)
  (q:∀ c' s' ws,Le c c'->(∀ h tk,{s' with heap:=h,toks:=tk}={s with heap:=h,toks:=tk})->bQ c' F as.2 s'.heap->dw c' as.1 ws->wpAny aO A (call (.type T) ws) Q E s'):
  wpAny aO A (eval (.Call (.Name n p) es [] pos) F.env) Q E s:=by
 rw [ea];exact ko.glob.casesOn λmg mb g1 g2 Z Z en zp Z=>aa (nE ek hR hg hd g1 g2 (hb en zp) (eB (Pp:=λZ=>True) hs (λh Z=>gm rfl h)
  (qF H hs ha A c s _ _ hA hR λc' h' tk ws l R V=>⟨trivial,q c' _ ws l (λZ Z=>rfl) R V⟩)))
theorem LM(ko:lT)(ek:cM F){t:Tg}{r:(V×List V)×St}(tK:OH ix te t)(ht:w5 (oK F.k it) t=true)(h:zw bT (ev F.k) (oK F.k it) σ=some r):SS F it te (pT t) σ r:=by
 have K:=kvS F.k it;generalize oK F.k it=kv at K ht h;induction K with
 | plain e=>refine aJ h λp hp h2=>aJ h2 λu hu h3=> ?_;obtain rfl:=ae h3;exact λA c s Q E hA hR q=>(H hp).se A c s _ _ hA hR λaX aS tk a l R V=>Ku (s:={s with heap:=aS,toks:=tk}) hA l.toLw R hu V λh' tk I S=>q h' tk I (S.from l)
 | enum p pos e g hs=>
  refine aJ h λx hp h2=>aJ h2 λu hu h3=> ?_;obtain rfl:=ae h3;induction tK with
  | one=>exact (Bool.noConfusion ht)
  | many es k pp is _=>
   have ha:su bT (ev F.k) [e] σ=some ([x.1],x.2):=by rw [Cy]; rw [hp]; rfl
   exact λA c s Q E hA hR q=>q5 H ko ek g (by rw [List.all_cons,hs]; rfl) (λa Z=>a) (by decide+kernel) ha hA hR λaX cU ws l hs R V=>(lL rfl V).casesOn (motive:=λws Z=>wpAny aO A (call (.type "enumerate") ws) _ E cU) λw V=>Yn hA l.toLw R hu V λh' tk I S=>hs h' tk▸q h' tk I (S.from l)
 | zip p pos a b g hs=>
  refine aJ h λx hx h2=>aJ h2 λy hy h3=>aJ h3 λu hu h4=> ?_;obtain rfl:=ae h4;induction tK with
  | one=>exact (Bool.noConfusion ht)
  | many es k pp is _=>
   have ha:su bT (ev F.k) [a,b] σ=some ([x.1,y.1],y.2):=by rw [Cy]; rw [hx]; show((su bT (ev F.k) [b] x.2).bind _)=_; rw [Cy]; rw [hy]; rfl
   exact λA c s Q E hA hR q=>q5 H ko ek g hs (λZ a=>a) (by decide+kernel) ha hA hR λaX cU ws l hs R V=>(Bo (p:=(x.1,y.1)) rfl V).casesOn (motive:=λws Z=>wpAny aO A (call (.type "zip") ws) _ E cU) λw w' V V'=>aax hA l.toLw R hu V V' λh' tk I S=>hs h' tk▸q h' tk I (S.from l)
 | vals o ap pos u hl=>
  refine aJ h λx hp h2=>aJ h2 λr hr h3=> ?_;obtain rfl:=ae h3;have hb0:wm x.2.W x.1=some 3:=aJ hr λn hn h2=>(eo h2).casesOn (motive:=λZ Z=>_) λdl hw=>CT hn▸uX hw;exact λA c s Q E hA hR q=>by
   rw [ir u];exact aa ((H hp).se A c s _ _ hA hR λaX aS tk a l R V=>aa (de (ip rfl ∅ hl λpl=>o8 (s:={s with heap:=aS,toks:=tk}) (f:=60) (uW R hb0 V) rfl
    (eB (Pp:=λZ=>True) rfl (λh Z=>gm rfl h) (show wpAny _ _ (spliced (backTo pos (starEach [] F.env))) _ _ _ from eO ⟨trivial,UL hA l.toLw R hr V λh' tk I S=>q h' tk I (S.from l)⟩)))))
end
section
variable{dg:bc}{σ:St}{vs:List V}
inductive jw(c:bc)(D:Addr)(vs:List V):Prop
 | mk (ws:List Value) (n:Nat) (t:c.T D=some (.bO,dQ ws n)) (S:dw c vs ws) (base:eI.get? D=none)
structure JK(D:Addr)(c c':bc):Prop where
 gf:ji c c'
 bO:∀ a o,a≠D->c.T a=some (.bO,o)->c'.T a=some (.bO,o)
 vals:c'.vals=c.vals
theorem JK.trans(x:JK D c aX)(y:JK D aX dg):JK D c dg:=⟨x.gf.trans y.gf,λa o ha e=>y.bO a o ha (x.bO a o ha e),y.vals.trans x.vals⟩
theorem Le.toD(x:Le c c'):JK D c c':=⟨x.toji,λa o Z e=>x.bO a o e,x.vals⟩
theorem jw.le(l:Lw c c'):jw c D vs->jw c' D vs
 | ⟨ws,n,t,S,b⟩=>⟨ws,n,l.bO _ _ t,dw.mono l.toji _ _ S,b⟩
def pq(F:iR)(D:Addr)(co:Code)(m:Sem PySem.Fin)(σ:St)(p:List V×St):Prop:=
 ∀ (A:Around) (c:bc) (s:Shared) (Q:PySem.Fin->Shared->Prop) (E:Value->Shared->Prop) (vs:List V),iZ F.r A->bQ c F σ s.heap->jw c D vs->vs.length+p.1.length<=100000->
  (∀ c' h' tk,JK D c c'->bQ c' F p.2 h'->jw c' D (vs++p.1)->Q (.again co) {s with heap:=h',toks:=tk})->wpAny aO A m Q E s
theorem CU {v:V} (hR:bQ c F σ s.heap) (ac:jw c D vs) (hl:vs.length<100000) (V:VR c v w)
  (q:∀ c' h',JK D c c'->bQ c' F σ h'->jw c' D (vs++ [v])->Q .none {s with heap:=h'}):wpAny aO A (call (.builtin "list.append") [.ref D,w]) Q E s:=by
 injection ac with ws n t S base;refine wpAny_list_append_plain (items:=ws.toArray) ⟨n,hR.w.hold _ _ _ t⟩ (λh' N0 pV=> ?_) (by rw [aM,<-aY S]; exact af (bV hl) ∅);obtain ⟨n',pW⟩:=N0;rw [List.push_toArray] at pW;have ow:og c c [D]:=⟨λb hb=>ay.mp hb▸base,λb hb u o e=>av Prod.fst (ae (e.symm.trans (ay.mp hb▸t))),ji.refl c,λa o Z e=>e⟩
 have x:Ch c (c.re [D] h') (λu=>u=.bO):=ow.ch;exact q _ h' ⟨x.gf,λa o ha e=>(bc.kX λhm=>ha (ay.mp hm)).trans e,rfl⟩ (hR.re ow (hR.w.low.up.casesOn λa q ha e=>⟨a,q,ha,e,λhm=>ay.mp hm▸⟨_,pW⟩⟩) λb o hb e=>(pV.2 b λq=>hb (ay.mpr q)).trans e)
  ⟨ws++ [w],n',bc.rB aq pW,eZ (dw.mono x.gf _ _ S) ⟨w,[],VR.mono x.gf _ _ V,rfl⟩,base⟩
inductive OU(F:iR)(s:Shared)(c:bc)(D:Addr)(l:List Addr)(St:Nat->Heap->Prop)(f:V->Mine.St->Option (List V×Mine.St))(items vs res:List V)(σ':Mine.St):Nat->Shared->Prop
 | mk (i:Nat) (r cV PR:List V) (aX:bc) (cg:Mine.St) (aS:Heap) (tk:Nat) (hi:i+r.length=items.length) (hr:items.drop i=r) (st:St i aS) (ow:og c aX (D::l)) (hv:aX.vals=c.vals) (R:bQ aX F cg aS) (ac:jw aX D (vs++cV)) (Ar:cV++PR=res) (hx:dj bT f r cg=some (PR,σ')):
   OU F s c D l St f items vs res σ' (r.length+1) {s with heap:=aS,toks:=tk}
theorem Ef (ek:cM F) (hA:iZ F.r A) {t:Tg} {d:Nat} {inner:Sem PySem.Fin} {f:St->Option (List V×St)} {out:List V×St} (tK:OH (λx=>iM x F.k.zd) te t)
  (hct:compTurn (.ListComp elt gens sc cp) d (.ref I) (.ref D) F.env=(do
   standAt p
   match<-pyNext (.ref I)with
   | none=>pure (.done .next)
   | some v=>
    letOwnedTupleGo te (.ref I) v
    assign te F.env v
    inner))
  (QW:∀ (σ:St) (p:List V×St),f σ=some p->pq F D (.compLoop (.ListComp elt gens sc cp) d (.ref I) (.ref D) F.env) inner σ p) (hS:jI A te (pT t) fg c s.heap I items) (hD:∃ o,fg.T D=some (.bO,o)) (hR:bQ c F σ s.heap) (ac:jw c D vs)
  (hlen:vs.length+out.1.length<=100000) (hx:dj bT (λv fN=>(qu Di fN t v).bind f) items σ=some out)
  (q:∀ c' h' tk,JK D c c'->bQ c' F out.2 h'->jw c' D (vs++out.1)->RR (.ok .next) {s with heap:=h',toks:=tk}):codeAny aO A (.compLoop (.ListComp elt gens sc cp) d (.ref I) (.ref D) F.env) RR s:=by
 injection hS with fp wr PP Md St K st Lz yc hit _ ye;have hDf:D ∉ fp:=λhm=>hD.elim λo ho=>(yc D hm).n o ho;have vR:∀ b∈jl c fp,c.T b=none:=λb hb=>(jn.mp hb).2;have Ap:∀ b∈wr,b∈D::jl c fp:=λb hb=>aw _ (jn.mpr ⟨K.sub b hb,Lz b hb⟩);obtain ⟨ae2,xu,tD,_,base⟩:=id ac;have GH:og c c (D::jl c fp):=⟨ah.mpr ⟨base,λb hb=>hR.w.gy (vR b hb)⟩,ah.mpr ⟨λu o e=>av Prod.fst (ae (e.symm.trans tD)),λb hb u o e=>nn ((vR b hb).symm.trans e)⟩,ji.refl c,λa o Z e=>e⟩
 have Au:∀ {h':Heap} {q:Obj},h'.get? D=some q->MT c (D::jl c fp) h':=λhD'=>hR.w.low.up.casesOn λa q ha e=>⟨a,q,ha,e,λhm=>(aH.mp hm).elim (λe=>e▸⟨_,hD'⟩) λhm=>nn ((vR a hm).symm.trans e)⟩
 refine codeAny_loop rfl (OU F s c D (jl c fp) St (λv fN=>(qu Di fN t v).bind f) items vs out.1 out.2) ?_ (items.length+1) ⟨0,items,[],out.1,c,σ,s.heap,s.toks,bF _,rfl,st,GH,rfl,hR,(bS vs).symm▸ac,rfl,hx⟩;intro n s' hI;injection hI with i r cV PR aX cg aS dh hi hr wZ ow NV cy YV Ar xX;show wpAny _ A ((compTurn (.ListComp elt gens sc cp) d (.ref I) (.ref D) F.env).onRaise (λx=>do noteFrame x F.env; theTreesLotGoes x)) _ _ _;refine wpAny_noted ?_;rw [hct];refine aa (de (aa ?_));obtain ⟨M3,VM,UT,yT,_⟩:=id YV;have N4:=cy.w.hold _ _ _ UT;have hDw:D ∉ wr:=λhm=>hDf (K.sub D hm);have acc:∀ {gR:Heap},gR.get? D=some (dQ M3 VM)->jw (aX.re (D::jl c fp) gR) D (vs++cV):=λrY=>⟨M3,VM,bc.rB aq rY,dw.mono ow.ch.gf _ _ yT,base⟩
 rcases r with _ | ⟨x,r⟩
 ·obtain ⟨e1,e2⟩:=cu (ae xX);obtain rfl:i=items.length:=hi;refine K.done _ _ _ wZ λeG fG mz=>aj ?_;have N3:=mz D _ hDw N4;have Nr:=ow.re (h:=eG);exact q _ eG fG ⟨Nr.gf,λa o ha e=>Nr.keep a o (λhm=>(aH.mp hm).elim ha λhm=>nn ((vR a hm).symm.trans e)) e,NV⟩ (e2▸cy.re ow (Au N3) λb o hb e=>mz b o (λq=>hb (Ap b q)) e) (Ar▸e1▸(bS cV).symm▸acc N3)
 ·have jt:i<items.length:=hi▸gA (cN _);have hxi:items[i]? =some x:=by rw [<-Nat.add_zero i,<-List.getElem?_drop,hr]; rfl
  refine (eY xX).casesOn λp hb Cb=>(eY hb).casesOn λσm lM hf=>(eY Cb).casesOn λu WL WK=> ?_;obtain ⟨e1,e2⟩:=cu (ae WK);refine K.item i _ _ _ jt wZ λv eG fG hMd mz=>aa (K.go i v _ _ _ hMd λgR hP wY HO=> ?_);have hk:∀ b o,b ∉ wr->aS.get? b=some o->gR.get? b=some o:=λb o hb e=>HO b o hb (mz b o hb e);have rY:=hk D _ hDw N4;have gI:bQ (aX.re (D::jl c fp) gR) F cg gR:=cy.re ow (Au rY) λb o hb e=>hk b o (λq=>hb (Ap b q)) e;have qo:og c (aX.re (D::jl c fp) gR) (D::jl c fp):=ow.re;refine aa (sU (s:={s with heap:=gR,toks:=fG}) (abl ek) hA tK gI ((hit i v gR _ hP hxi).mono qo.gf) lM λIB QL Fs JM A9=> ?_);have Xn:(vs++cV).length+p.1.length<=100000:=by rw [<-Ar,<-e1] at hlen;rw [aQ];rw [aQ,aQ,<-bP,<-bP] at hlen;exact af (aB _ _) hlen
  refine QW _ _ hf A IB {s with heap:=QL,toks:=Fs} _ _ (vs++cV) hA A9 ((acc rY).le JM.toLw) Xn λwh Ly Br Qm qJ OB=> ?_;have rH:∀ b∈D::jl c fp,∃ q,(aX.re (D::jl c fp) gR).T b=some (.bO,q):=ah.mpr ⟨⟨_,bc.rB aq rY⟩,λb hb=>(ye _ _ wY b (jn.mp hb).1).elim λo ho=>⟨o,bc.rB (aw _ hb) ho⟩⟩;have Hk:JK D (aX.re (D::jl c fp) gR) wh:=JM.toD.trans Qm;have BI:og c wh (D::jl c fp):=⟨ow.base,λb hb u o e=>(Classical.em (b=D)).elim (λq=>OB.casesOn λws n t5 Z Z=>av Prod.fst (ae (e.symm.trans (q▸t5)))) λq=>(rH b hb).elim λz hz=>av Prod.fst (ae (e.symm.trans (Hk.bO b z q hz))),qo.gf.trans Hk.gf,λa o ha e=>Hk.bO a o (λq=>ha (q▸aq)) (qo.keep a o ha e)⟩
  exact ⟨rfl,r.length+1,Nat.lt_succ_self _,i+1,r,cV++p.1,u.1,wh,p.2,Ly,Br,(cF i _).trans hi,by rw [<-List.tail_drop,hr]; rfl,
   K.frame _ _ _ wY (Cu (Ia yc (l:=D::jl c fp) (λb hb hn hm=>(aH.mp hm).elim (λq=>hDf (q▸hb)) λhm=>hn (vR b hm)) (λb hb h0=>rH b (aw _ (jn.mpr ⟨hb,h0⟩))) qo) Hk.gf (λb hb o e=>Hk.bO b o (λq=>hDf (q▸hb)) e) gI.w.hold qJ.w.hold),
   BI,Hk.vals.trans NV,qJ,cw .. ▸OB,(cw ..).trans (e1▸Ar),WL.trans (by rw [<-e2])⟩
end
def QE(k:NameKind):Bool:=k== .free
def i9(env:Env):List (Str×NameKind)->List (Str×Addr)->List (Str×Addr)
 | [],cs=>cs
 | p::l,cs=>i9 env l (bif QE p.2 then(p.1,(env.cells.lookup p.1).getD 0)::cs else cs)
theorem AS(he:env.cells.lookup x=some a){l:List (Str×NameKind)}:∀ {cs:List (Str×Addr)},cs.lookup x=some a->(i9 env l cs).lookup x=some a:=by
 induction l with
 | nil=>exact λh=>h
 | cons p l ih=>
  intro cs h;refine ih ?_;induction QE p.2
  ·exact h
  ·show List.lookup x (_::cs)=_;rw [List.lookup_cons];cases q:x==p.1
   ·exact h
   ·rw [<-aD.mp q,he]; rfl
theorem m9(he:env.cells.lookup x=some a){l:List (Str×NameKind)}:∀ {cs:List (Str×Addr)},(x,NameKind.free)∈l->(i9 env l cs).lookup x=some a:=by
 induction l with
 | nil=>exact λh=>(eX h)
 | cons p l ih=>
  intro cs h;rcases aH.mp h with e | h
  ·subst e;exact AS (l:=l) (cs:=(x,(env.cells.lookup x).getD 0)::cs) he (by rw [List.lookup_cons_self,he]; rfl)
  ·exact ih h
theorem kj(h:∀ p∈sc.names,p.2=.free->(env.cells.lookup p.1).isSome=true):closureFor sc env=pure (i9 env sc.names []):=by
 have key:∀ (l:List (Str×NameKind)) (cs:List (Str×Addr)),(∀ p∈l,p.2=.free->(env.cells.lookup p.1).isSome=true)->
   (forIn l cs λp cs=>do
    if p.2== .free then
     let a<-cellOf env p.1
     pure (ForInStep.yield ((p.1,a)::cs))
    else pure (ForInStep.yield cs):Sem (List (Str×Addr)))=pure (i9 env l cs):=by
  intro l;induction l with
  | nil=>exact λcs Z=>rfl
  | cons p l ih=>
   intro cs hl;refine And.elim (λh1 h2=> ?_) (ah.mp hl);obtain ⟨y,k⟩:=p;rw [List.forIn_cons];induction k with
   | free=>
    refine ag (f6.mp (h1 rfl)) λa ha=> ?_;have e:cellOf env y=pure a:=by unfold cellOf; rw [ha]
    rw [dm (by rfl),e];exact (ih ((y,a)::cs) h2).trans (by show _=pure (i9 env l ((y,(env.cells.lookup y).getD 0)::cs)); rw [ha]; rfl)
   | _=>exact ih cs h2
 exact (av (λm:Sem (List (Str×Addr))=>m>>=λr=>pure r) (key sc.names [] h)).trans rfl
def tJ(env:Env)(p:Str×NameKind):Str×NameKind:=if(p.2==NameKind.free&&env.scope.kind== .function&&env.kindOf p.1==some .cell)=true then(p.1,NameKind.cell)else p
theorem PT(p:Str×NameKind):(tJ env p).1=p.1:=by unfold tJ;split <;> rfl
theorem tH:(relabel sc env).names=sc.names.map (tJ env):=rfl
theorem kx{q q':NameKind}(h:sc.names.lookup x=some q)(hq:tJ env (x,q)=(x,q')):(relabel sc env).names.lookup x=some q':=by
 rw [tH];revert h;generalize sc.names=l;induction l with
 | nil=>exact λh=>nn h
 | cons p l ih=>
  intro h;rw [bu];rw [List.lookup_cons] at h;obtain ⟨y,k⟩:=p;rw [show tJ env (y,k)=(y,(tJ env (y,k)).2)from Prod.ext (PT _) rfl,List.lookup_cons];induction e:x==y using eK with
  | true=>rw [e] at h;obtain rfl:=aD.mp e;obtain rfl:=ae h;rw [hq]
  | false=>rw [e] at h; exact ih h
theorem qN{q:NameKind}(h:QE q=false):tJ env (x,q)=(x,q):=by unfold tJ;rw [show(q==NameKind.free)=false from h]; rfl
theorem Dm(hk:env.scope.kind=.function)(hc:env.kindOf x=some .cell):tJ env (x,.free)=(x,.cell):=by unfold tJ;rw [hk,hc]; rfl
structure Y3(k:gr)(sc:Scope):Prop where
 cmp:k.cmp=false
 kind:sc.kind=.function
 kinds:∀ p∈sc.names,p.2≠ .cell
 nodup:(sc.names.map (·.1)).Nodup
 free:∀ p∈sc.names,p.2=.free->k.y0.lookup p.1=some .cell
 ne:eR sc≠ []
theorem vq{k:gr}(h:ui k sc=true):Y3 k sc:=by
 refine fb h λh Z=> ?_;refine fb h λh h6=> ?_;refine fb h λh h5=> ?_;refine fb h λh h4=> ?_;refine fb h λh Z=> ?_;refine fb h λh Z=> ?_;refine fb h λh1 h2=> ?_;have h4:=aK.mp h4;refine ⟨Bool.not_eq_true' _▸h1,?_,λp hp=> ?_,cE h5,λp hp hf=> ?_,λe=>by rw [e] at h6; exact (Bool.noConfusion h6)⟩
 ·revert h2;induction sc.kind <;> (intro h; first | rfl | exact (Bool.noConfusion h))
 ·have:=h4 p hp;obtain ⟨x,q⟩:=p;rintro ⟨⟩;exact (Bool.noConfusion ((show false=true from this)))
 ·have:=h4 p hp;obtain ⟨x,q⟩:=p;obtain rfl:q=.free:=hf;rw [<-mq];revert this;show(match gH x k.y0 with | some .cell=>true | _=>false)=true->_;rcases gH x k.y0 with _ | z
  ·exact λh=>(Bool.noConfusion h)
  ·induction z <;> (intro h; first | rfl | exact (Bool.noConfusion h))
theorem Mp(h:(eR sc)[j]? =some x):(x,NameKind.local)∈sc.names:=by unfold eR at h;rw [bB] at h;obtain ⟨⟨y,q⟩,hp,rfl⟩:=bN.mp h;have hm:=bR.mp (cH hp);have:=(aW hm.2).1;induction q <;> first | exact hm.1 | exact (Bool.noConfusion this)
def mE(F:iR)(sc:Scope)(C:Addr):iR:={F with k:=qd F.k sc,env:=compEnvC sc (i9 F.env sc.names []) C F.env,C:=C}
theorem uT(ek:cM F)(so:Y3 F.k sc){C:Addr}:cM (mE F sc C)where
 kind:=so.kind
 glob:=ek.glob
 R8:=ek.R8
 var:=λi x h hc=>(Bool.noConfusion hc)
 cell:=λi x h hc=>hc.elim (λhc=>Bool.noConfusion hc) λhf=>have⟨a1,a2⟩:=ek.cell i x h (.inl so.cmp)
  ⟨kx hf (Dm ek.kind a1),m9 a2 (mem_of_lookup hf)⟩
 own:=λj x h=>⟨kx (fw so.nodup (Mp h)) (qN rfl),rfl⟩
 gl:=λx h=>kx h (qN rfl)
 nd:=ek.nd
 ndc:=so.nodup.sublist ((List.filter_sublist).map _)
 YL:=λhc=>(Bool.noConfusion hc)
 scc:=λhc=>(Bool.noConfusion hc)
section
variable{σ σ':St}{C:Addr}{vs:List V}
theorem jI.XN{o:Obj}(hS:jI A qL many fg c h I items)(l:ji c c')(hk:∀ b o,h.get? b=some o->h'.get? b=some o)(hT:∀ b o,h.get? b=some o->c'.T b=c.T b)(hD:h.get? D=none):
  jI A qL many (fg.put D .bO o) c' h' I items:=by
 injection hS with fp wr PP Md St K st Lz yc hit self ye;have e:∀ b∈fp,c'.T b=c.T b/\b≠D:=λb hb=>(ye 0 h st b hb).elim λo ho=>⟨hT b o ho,λq=>nn (hD.symm.trans (q▸ho))⟩
 exact ⟨fp,wr,PP,Md,St,K,K.frame _ _ _ st λb hb o q=>hk b o q,λb hb=>(e b (K.sub b hb)).1.trans (Lz b hb),λb hb=>⟨(e b hb).1▸(yc b hb).k,λo q=>(yc b hb).n o ((bY _ _ _ (e b hb).2).symm.trans q)⟩,λi v h' x p q=>(hit i v h' x p q).mono l,self,ye⟩
theorem jI.self(q:Q (.ref I) s):jI A qL many fg c s.heap I items->wpAny aO A (pyIter (.ref I)) Q E s
 | ⟨fp,wr,PP,Md,St,K,st,Lz,yc,hit,self,ye⟩=>self s Q E st q
inductive aeR(c:bc)(F:iR)(σ:St)(h:Heap)(D:Addr)(vs:List V):Prop
 | mk (c':bc) (x:Ch c c' (λt=>t=.bO)) (k:∀ a,a≠D->c'.T a=c.T a) (vl:c'.vals=c.vals) (R:bQ c' F σ h) (V:VR c' (.lst vs) (.ref D))
theorem bQ.H9(R:bQ c F σ h)(ac:jw c D vs)(hl:vs.length<=100000){o:Obj}(ha:sysModules<a)(gx:a≠D)(e:c.T a=some (.bO,o)):aeR c F σ h D vs:=by
 injection ac with ws n t S base;have x:Ch c (c.put D .gN (dQ ws n)) (λu=>u=.bO):=Ch.put t eT;refine ⟨_,x,λa ha=>bY _ _ _ ha,rfl,⟨⟨⟨⟨a,o,ha,(bY _ _ _ gx).trans e⟩,λt' o' e hc=> ?_⟩,λb u q e=>(cm e).elim (λq=>q.1▸q.2.2▸R.w.hold _ _ _ t) λq=>R.w.hold _ _ _ q.2,λa o e=>(bY _ _ _ λq=>nn (base.symm.trans (q▸e))).trans (R.w.base a o e),R.w.len,λm M e=>(R.w.jx m M e).ch x (R.w.lt e) eT eT⟩,R.loc.ch x rfl eT (λZ=>eT) (λZ=>eT),R.cv.ch x eT⟩,
  ⟨D,ws,n,aF ..,dw.mono x.gf _ _ S,hl⟩⟩
 exact (cm e).elim (λq=>absurd (show Value.type "list" =Value.type "dict" from(av Obj.cls q.2.2).symm.trans hc) ∅) λq=>R.w.low.sys t' o' q.2 hc
def bc.del(c:bc)(C:Addr):bc:={c with T:=λa=>if a=C then none else c.T a}
theorem bc.Iw(h:a≠C):(c.del C).T a=c.T a:=cb h
theorem bc.AN{p:gG×Obj}(e:(c.del C).T a=some p):a≠C/\c.T a=some p:=
 have h:a≠C:=λq=>nn ((dm q).symm.trans e)
 ⟨h,(bc.Iw h).symm.trans e⟩
theorem bQ.Yq{o:Obj}(R:bQ c F σ h)(hC:c.T C=some (.nq,o))(Th:F.k.zd=[])(hs:Heap.SameBut C h h'):Le c (c.del C)/\bQ (c.del C) F σ h':=
 have k:∀ a t q,c.T a=some (t,q)->¬ stC t->(c.del C).T a=some (t,q):=λa t q e ht=>(bc.Iw λy=>ht (show t=.nq from av Prod.fst (ae (e.symm.trans (y▸hC))))).trans e;have x:Ch c (c.del C) stC:=⟨k,⟨λa q e=>k a _ q e eT,aA _,λZ Z=>rfl,λZ Z=>rfl⟩⟩
 have le:=x.le eT rfl
 ⟨le,⟨⟨⟨R.w.low.up.casesOn λa q ha e=>⟨a,q,ha,le.bO _ _ e⟩,λt q e hc=>R.w.low.sys t q (bc.AN e).2 hc⟩,λb u q e=>(hs.2 b (bc.AN e).1).trans (R.w.hold _ _ _ (bc.AN e).2),λa o e=>le.bO _ _ (R.w.base a o e),R.w.len,λm M e=>(R.w.jx m M e).ch x (R.w.lt e) eT eT⟩,R.loc.ch x rfl eT (λZ=>eT) (λZ=>eT),⟨R.cv.len,λgx=>absurd Th gx⟩⟩⟩
def oi(F:iR)(e:Expr)(d:Nat)(qL:Expr)(many:Bool)(items:List V)(σ:St)(p:List V×St):Prop:=
 ∀ (A:Around) (fg c:bc) (s:Shared) (I D:Addr) (vs:List V) (RR:Result->Shared->Prop),iZ F.r A->bQ c F σ s.heap->jw c D vs->vs.length+p.1.length<=100000->(∃ o,fg.T D=some (.bO,o))->jI A qL many fg c s.heap I items->
  (∀ c' h' tk,JK D c c'->bQ c' F p.2 h'->jw c' D (vs++p.1)->RR (.ok .next) {s with heap:=h',toks:=tk})->codeAny aO A (.compLoop e d (.ref I) (.ref D) F.env) RR s
inductive Jr(c:bc)(F:iR)(σ:St)(vs:List V)(h':Heap)(D C:Addr):Prop
 | mk (c':bc) (o:Obj) (m:Str->Option Value) (le:Le c c') (R:bQ c' F σ h') (V:VR c' (.lst vs) (.ref D)) (t:c'.T C=some (.nq,o)) (n:Ss o m)
theorem yE (ek:cM F) (QO:ui F.k sc=true) {iter:Expr} {ifs:List Expr} {rest:List Comprehension} {r:(V×List V)×St} {p:List V×St} {use:Option (Value->Sem Unit)} (hA:iZ F.r A) (hR:bQ c F σ s.heap)
  (hit:∀ x,foldedSetIterable iter F.env x=pure x) (hss:SS F iter qL many σ r) (Ar:p.1.length<=100000)
  (ya:∀ C,oi (mE F sc C) (.ListComp elt (⟨qL,iter,ifs,0⟩::rest) sc pos) 0 qL many r.1.2 {r.2 with W:=hold r.1.1 r.2.W,cv:=List.replicate (eR sc).length none} p)
  (q:∀ h' tk D C,Jr c F {p.2 with W:=nG r.1.1 r.2.W p.2.W,cv:=σ.cv} p.1 h' D C->compPost aO A E use Q (.ref D) C (.ok .next) {s with heap:=h',toks:=tk}):
  wpAny aO A (comprehension (.ListComp elt (⟨qL,iter,ifs,0⟩::rest) sc pos) sc F.env cp (newList []) false (eval iter F.env) use) Q E s:=by
 have so:=vq QO;have Th:=ek.YL so.cmp;have Xx:closureFor sc F.env=pure (i9 F.env sc.names []):=kj λp hp hf=>(ek.scc so.cmp p.1 (so.free p hp hf)).elim λi hi=>by rw [(ek.cell i _ hi (.inl so.cmp)).2]; rfl
 refine wpAny_comprehension_free rfl hit Xx so.kind (λx hx hl=>fw so.nodup (hl▸hx)) (hss A c s _ _ hA hR λaS dh I S=> ?_);injection S with aX cV cy yT Jt;refine cX (wpAny_newFunctionEnv so.kinds (λy hy=>(eX hy)) (λeG As Aq=> ?_) so.kind);change eG.Ns (aS.push (dQ [] 0)).objs.size _ at As;change Heap.SameBut (aS.push (dQ [] 0)).objs.size ((aS.push (dQ [] 0)).push _) eG at Aq;show codeAny aO A (.compStart _ 0 (.ref I) (.ref aS.objs.size) (mE F sc (aS.push (dQ [] 0)).objs.size).env) (compPost aO A E use Q (.ref aS.objs.size) (aS.push (dQ [] 0)).objs.size) {s with heap:=eG,toks:=dh};have RD:=cy.alloc .bO (dQ [] 0) rfl;have lD:=cy.gw .bO (dQ [] 0);have fD:aX.T aS.objs.size=none:=cy.w.fresh;have tD:=aF aX aS.objs.size .bO (dQ [] 0);have hT1:∀ b,b≠aS.objs.size->(aX.put aS.objs.size .bO (dQ [] 0)).T b=aX.T b:=λb hb=>bY _ _ _ hb;have kH:∀ b o,aS.get? b=some o->(aS.push (dQ [] 0)).get? b=some o:=λb o e=>aE _ e;have sH:(aS.push (dQ [] 0)).objs.size=aS.objs.size+1:=Heap.size_push ..;generalize aX.put aS.objs.size .bO (dQ [] 0)=CL at RD lD tD hT1;generalize aS.push (dQ [] 0)=H at RD kH sH As Aq ⊢;have mz:∀ b o,H.get? b=some o->eG.get? b=some o:=λb o e=>Aq.extBut b o (aL (bt e)) (aE _ e);refine ag (id As) λoC z1=>ag z1 λes z2=>ag z2 λep z3=>And.elim (λhoC z4=>And.elim (λhdC z5=>And.elim (λhkC hfC=> ?_) z5) z4) z3;refine And.elim (λlC RC=> ?_) ((RD.keeps mz).tag .nq RD.w.fresh (.inr (.inl rfl)) hoC);have tC:=aF CL H.objs.size .nq oC;have hDC:aS.objs.size≠H.objs.size:=λe=>aL (Nat.lt_succ_self _) (e.trans sH);have Q3:∀ b,b≠H.objs.size->(CL.put H.objs.size .nq oC).T b=CL.T b:=λb hb=>bY _ _ _ hb;generalize CL.put H.objs.size .nq oC=dg at lC RC tC Q3;have l2:Le aX dg:=lD.trans lC;have sY:jw dg aS.objs.size []:=⟨[],0,(Q3 _ hDC).trans tD,rfl,cy.w.gy fD⟩
 have MO:jI A qL many (c.put aS.objs.size .bO (dQ [] 0)) dg eG I r.1.2:=yT.XN l2.toji (λb o e=>mz b o (kH b o e)) (λb o e=>have hb:=aL (bt e); (Q3 b λq=>Nat.lt_asymm (bt e) (q▸sH▸Nat.lt_succ_self _)).trans (hT1 b hb)) (Heap.get?_none_of_le (aA _));have du:bQ dg (mE F sc H.objs.size) {r.2 with W:=hold r.1.1 r.2.W,cv:=List.replicate (eR sc).length none} eG:=
  ⟨RC.w,⟨RC.loc.len,RC.loc.ns.casesOn λo m t n z=>⟨o,m,t,n,z⟩,RC.loc.cells,RC.loc.vals⟩,⟨fM ..,λZ=>⟨oC,_,tC,⟨es,ep,hdC,hkC,hfC⟩,λj y v hj hv=>by
   have hv:(List.replicate (eR sc).length (none:Option V))[j]? =some (some v):=hv;rw [List.getElem?_replicate] at hv;split at hv <;> exact nomatch hv⟩⟩⟩
 have loop:=ya H.objs.size A _ dg {s with heap:=eG,toks:=dh} I aS.objs.size [] (compPost aO A E use Q (.ref aS.objs.size) H.objs.size) hA du sY ((bF _).symm▸Ar) ⟨_,aF ..⟩ MO λkJ gR lJ ld gI YU=> ?_
 ·exact codeAny_compStart_list loop (jI.self (s:={s with heap:=eG,toks:=dh}) loop MO)
 ·have up:∀ a o,aX.T a=some (.bO,o)->kJ.T a=some (.bO,o):=λa o e=>ld.bO a o (λq=>nn (fD.symm.trans (q▸e))) (l2.bO _ _ e);injection hR.w.low.up with A0 vt rX tN;have Rv:=cV.bO _ _ tN;injection Jt.give (l2.toji.trans ld.gf) (λa o e Z=>up a o e) ⟨A0,vt,vt,rX,tN,up _ _ Rv⟩ gI with IB x4 b4 v4 A9;injection YU with ws nn' US aex base;injection A9.H9 (vs:=p.1) ⟨ws,nn',b4 _ _ (.inr fD) US,dw.mono x4.gf _ _ aex,base⟩ Ar rX (λq=>nn (fD.symm.trans (q▸Rv))) (b4 _ _ (.inl ⟨_,tN⟩) (up _ _ Rv))with wh x5 e5 v5 qJ aep;injection gI.cv.ns so.ne with abN ab4 UU VN _;exact q gR lJ _ _ ⟨wh,abN,ab4,⟨⟨(cV.toji.trans l2.toji).trans (ld.gf.trans (x4.gf.trans x5.gf)),λa o e=>have h1:=cV.bO _ _ e; (e5 a λq=>nn (fD.symm.trans (q▸h1))).trans (b4 a o (.inl ⟨_,e⟩) (up a o h1))⟩,v5.trans (v4.trans (ld.vals.trans (l2.vals.trans cV.vals)))⟩,
   ⟨qJ.w,⟨qJ.loc.len,qJ.loc.ns.casesOn λo m t n z=>⟨o,m,t,n,z⟩,qJ.loc.cells,qJ.loc.vals⟩,⟨hR.cv.len,λgx=>absurd Th gx⟩⟩,aep,(e5 _ hDC.symm).trans (x4.keep _ _ _ UU eT),VN⟩
end
def oo(cs:List Expr)(env:Env):Sem Bool:=forIn cs true λc r=>if r=true then do let ok<-isTrue c env (eval c env); pure (ForInStep.yield ok)else pure (ForInStep.yield r)
section
variable{σ:St}{it ki pz:Expr}
abbrev TG(F:iR)(cs:List Expr)(σ:St)(b:Bool)(σ':St):Prop:=Gv F (oo cs F.env) σ (λZ ok=>ok=b) σ'
theorem Ft(cs:List Expr):wpAny aO A (forIn cs false λc r=>if r=true then do let ok<-isTrue c env (eval c env); pure (ForInStep.yield ok)else pure (ForInStep.yield r)) (λb s'=>b=false/\s'=s) E s:=by
 induction cs with
 | nil=>exact aj ⟨rfl,rfl⟩
 | cons c cs ih=>rw [List.forIn_cons]; exact aa (aj ih)
variable{ev eE:gr->Expr->St->Option (V×St)}(H:∀ {e σ p},ev F.k e σ=some p->GX F e σ p){r:V×St}
theorem oi.of (ek:cM F) {t:Tg} {d:Nat} {inner:Addr->Addr->Sem PySem.Fin} {f:St->Option (List V×St)} {out:List V×St} (tK:OH (λx=>iM x F.k.zd) te t)
  (hct:∀ I D,compTurn (.ListComp elt gens sc cp) d (.ref I) (.ref D) F.env=(do
   standAt p
   match<-pyNext (.ref I)with
   | none=>pure (.done .next)
   | some v=>
    letOwnedTupleGo te (.ref I) v
    assign te F.env v
    inner I D))
  (QW:∀ (I D:Addr) (σ:St) (p:List V×St),f σ=some p->pq F D (.compLoop (.ListComp elt gens sc cp) d (.ref I) (.ref D) F.env) (inner I D) σ p)
  (hx:dj bT (λv fN=>(qu Di fN t v).bind f) items σ=some out):oi F (.ListComp elt gens sc cp) d te (pT t) items σ out:=λA fg c s I D vs RR hA hR ac hl hD hS q=>
 Ef ek hA tK (hct I D) (QW I D) hS hD hR ac hl hx q
include H
theorem tg:∀ {σ:St} {p:V×St} {b:Bool},LW bT (ev F.k) true cs σ=some p->Si p.1=some b->TG F cs σ b p.2:=by
 induction cs with
 | nil=>intro σ p b h hb;obtain rfl:=ae h;obtain rfl:=ae hb;exact λA c s Q E hA hR q=>aj (q.qe hR rfl)
 | cons e r ih=>
  intro σ p b h hb;refine aJ h λu hu h2=>aJ h2 λd hd h3=> ?_;have st:=(H hu).st d (lN hd);induction d using eK with
  | true=>refine λA c s Q E hA hR q=> ?_;unfold oo;rw [List.forIn_cons];exact aa (aa (st.go hA hR q λaX cU a l R V q=>by subst V; exact aj (ih h3 hb A aX cU _ _ hA R q)))
  | false=>obtain rfl:=ae h3;obtain rfl:=ae hb;refine λA c s Q E hA hR q=> ?_;unfold oo;rw [List.forIn_cons];exact aa (aa (st.go hA hR q λaX cU a l R V q=>by subst V; exact aj (wpAny_mono (Ft r) (λb s' hb=>hb.1▸hb.2▸q.qe R rfl) λZ Z x=>x)))
theorem Im{co:Code}{u:V×St}(h:ev F.k elt σ=some u):pq F D co (do(do let _<-call (.builtin "list.append") [.ref D,<-eval elt F.env]); again co) σ ([u.1],u.2):=λA c s Q E vs hA hR ac hl q=>
 aa (aa ((H h).se A c s _ _ hA hR λaX aS dh w cV cy eS=>aa (CU (s:={s with heap:=aS,toks:=dh}) cy (ac.le cV.toLw) hl eS λdg eG dB du sY=>aj (aj (q dg eG dh (cV.toD.trans dB) du sY)))))
omit H in
theorem Fo(I D:Addr):compTurn (.ListComp elt [⟨te,it,cs,0⟩] sc cp) 0 (.ref I) (.ref D) env=(do
   standAt it.pos
   match<-pyNext (.ref I)with
   | none=>pure (.done .next)
   | some v=>
    letOwnedTupleGo te (.ref I) v
    assign te env v
    (do
     let ok<-oo cs env
     if ok then
      (do let _<-call (.builtin "list.append") [.ref D,<-eval elt env])
     again (.compLoop (.ListComp elt [⟨te,it,cs,0⟩] sc cp) 0 (.ref I) (.ref D) env))):=rfl
theorem QF{p:List V×St}(h:((LW bT (ev F.k) true cs σ).bind λc=>(Si c.1).bind λb=>bif b then(ev F.k elt c.2).bind λp=>some ([p.1],p.2)else some ([],c.2))=some p):
  pq F D (.compLoop (.ListComp elt [⟨te,it,cs,0⟩] sc cp) 0 (.ref I) (.ref D) F.env) (do
     let ok<-oo cs F.env
     if ok then
      (do let _<-call (.builtin "list.append") [.ref D,<-eval elt F.env])
     again (.compLoop (.ListComp elt [⟨te,it,cs,0⟩] sc cp) 0 (.ref I) (.ref D) F.env)) σ p:=by
 refine aJ h λu hu h2=>aJ h2 λb hb h3=> ?_;have T:=tg H hu hb;induction b using eK with
 | true=>refine aJ h3 λx hx h4=> ?_;obtain rfl:=ae h4;exact λA c s Q E vs hA hR ac hl q=>aa (T A c s _ _ hA hR λaX aS dh b cV cy hb=>by subst hb; exact Im H hx A aX {s with heap:=aS,toks:=dh} Q E vs hA cy (ac.le cV.toLw) hl λdg eG fG dB du sY=>q dg eG fG (cV.toD.trans dB) du sY)
 | false=>obtain rfl:=ae h3;exact λA c s Q E vs hA hR ac hl q=>aa (T A c s _ _ hA hR λaX aS dh b cV cy hb=>by subst hb; exact aj (q aX aS dh cV.toD cy ((bS vs).symm▸ac.le cV.toLw)))
end
section
variable{σ:St}{it ki pz:Expr}
theorem Pj(I D:Addr):compTurn (.ListComp elt [⟨te,it,[],0⟩,⟨pz,ki,[],0⟩] sc cp) 0 (.ref I) (.ref D) env=(do
   standAt it.pos
   match<-pyNext (.ref I)with
   | none=>pure (.done .next)
   | some v=>
    letOwnedTupleGo te (.ref I) v
    assign te env v
    (do
     let x<-eval ki env
     standAt ki.pos
     let x<-foldedSetIterable ki env x
     let _<-runOwn (.compStart (.ListComp elt [⟨te,it,[],0⟩,⟨pz,ki,[],0⟩] sc cp) 1 (<-holding [x] (pyIter x)) (.ref D) env) env
     again (.compLoop (.ListComp elt [⟨te,it,[],0⟩,⟨pz,ki,[],0⟩] sc cp) 0 (.ref I) (.ref D) env))):=rfl
theorem Pk(I D:Addr):compTurn (.ListComp elt [⟨te,it,[],0⟩,⟨pz,ki,[],0⟩] sc cp) 1 (.ref I) (.ref D) env=(do
   standAt ki.pos
   match<-pyNext (.ref I)with
   | none=>pure (.done .next)
   | some v=>
    letOwnedTupleGo pz (.ref I) v
    assign pz env v
    (do
     (do let _<-call (.builtin "list.append") [.ref D,<-eval elt env])
     again (.compLoop (.ListComp elt [⟨te,it,[],0⟩,⟨pz,ki,[],0⟩] sc cp) 1 (.ref I) (.ref D) env))):=rfl
theorem n6 {LJ:Comprehension} {i acc:Value}
  (h0:codeAny aO A (.compLoop (.ListComp elt [LJ,⟨pz,ki,[],0⟩] sc cp) 1 i acc env) RR s)
  (h:wpAny aO A (pyIter i) (λit' s'=>codeAny aO A (.compLoop (.ListComp elt [LJ,⟨pz,ki,[],0⟩] sc cp) 1 it' acc env) RR s') (notedBy aO A env λx s'=>RR (.error x) s') s):
  codeAny aO A (.compStart (.ListComp elt [LJ,⟨pz,ki,[],0⟩] sc cp) 1 i acc env) RR s:=by
 refine codeAny_of_tree ?_;show wpAny _ _ ((compStart (.ListComp elt [LJ,⟨pz,ki,[],0⟩] sc cp) 1 i acc env).onRaise (λx=>do noteFrame x env; standAt theWindowsPlace)) _ _ s;refine wpAny_notedAt ?_;unfold compStart;show wpAny _ _ (ask>>=_) _ _ s;refine aa (wpAny_askSetting (wpAny_ite ?_));split
 ·first
   | exact aa (aj (aj (And.intro rfl h0)))
   | exact aj (And.intro rfl h0)
 ·first
   | exact aa (wpAny_rule (aa (de (aa (wpAny_mono h (λit' s' h'=>aj (And.intro rfl h')) λZ Z x=>x)))))
   | (refine aa (wpAny_rule ?_); show wpAny _ _ (standAt _>>=_) _ _ s; exact aa (de (aa (wpAny_mono h (λit' s' h'=>aj (And.intro rfl h')) λZ Z x=>x))))
theorem Lv {r:(V×List V)×St} {p:List V×St} (hf:∀ x,foldedSetIterable ki F.env x=pure x) (hs:SS F ki pz many σ r)
  (hl:oi F (.ListComp elt [⟨te,it,[],0⟩,⟨pz,ki,[],0⟩] sc cp) 1 pz many r.1.2 {r.2 with W:=hold r.1.1 r.2.W} p):
  pq F D (.compLoop (.ListComp elt [⟨te,it,[],0⟩,⟨pz,ki,[],0⟩] sc cp) 0 (.ref I) (.ref D) F.env) (do
     let x<-eval ki F.env
     standAt ki.pos
     let x<-foldedSetIterable ki F.env x
     let _<-runOwn (.compStart (.ListComp elt [⟨te,it,[],0⟩,⟨pz,ki,[],0⟩] sc cp) 1 (<-holding [x] (pyIter x)) (.ref D) F.env) F.env
     again (.compLoop (.ListComp elt [⟨te,it,[],0⟩,⟨pz,ki,[],0⟩] sc cp) 0 (.ref I) (.ref D) F.env)) σ (p.1,{p.2 with W:=nG r.1.1 r.2.W p.2.W}):=λA c s Q E vs hA hR ac hlen q=>by
 refine aa (wpAny_mono (hs A c s (λi ke=>wpAny aO A (do
   let _<-runOwn (.compStart (.ListComp elt [⟨te,it,[],0⟩,⟨pz,ki,[],0⟩] sc cp) 1 i (.ref D) F.env) F.env
   again (.compLoop (.ListComp elt [⟨te,it,[],0⟩,⟨pz,ki,[],0⟩] sc cp) 0 (.ref I) (.ref D) F.env)) Q E ke) E hA hR λaS dh Zh S=> ?_)
  (λx cU aS=>aa (de (aa (c9 (hf x) (aa (bq aS)))))) λZ Z y=>y)
 refine aa (wpAny_runOwn ?_);injection S with aX cV cy yT Jt;obtain ⟨ws,nn',tD,S,base⟩:=id ac;have loop:codeAny aO (A.mark none) (.compLoop (.ListComp elt [⟨te,it,[],0⟩,⟨pz,ki,[],0⟩] sc cp) 1 (.ref Zh) (.ref D) F.env) (λr s'=>match r with
   | .ok f=>wpAny aO A (again (.compLoop (.ListComp elt [⟨te,it,[],0⟩,⟨pz,ki,[],0⟩] sc cp) 0 (.ref I) (.ref D) F.env)) Q E s'
   | .error e=>cameBackBy aO A F.env E e s') {s with heap:=aS,toks:=dh}:=by
  refine hl A c aX {s with heap:=aS,toks:=dh} Zh D vs _ hA cy (ac.le cV.toLw) hlen ⟨_,tD⟩ yT λdg eG fG dB du sY=> ?_;obtain ⟨TP,VS,Nf,MO,_⟩:=id sY;have up:∀ a o,a≠D->c.T a=some (.bO,o)->dg.T a=some (.bO,o):=λa o ha e=>dB.bO a o ha (cV.bO _ _ e);injection hR.w.low.up with A0 vt rX tN;injection Jt.give dB.gf (λa o e ne=>dB.bO a o (λy=>ne _ (y▸tD)) e) ((Classical.em (A0=D)).elim (λe=>⟨A0,vt,_,rX,tN,e▸Nf⟩) λe=>⟨A0,vt,vt,rX,tN,up _ _ e tN⟩) du with kJ x3 b3 v3 gI;exact aj (q kJ eG fG ⟨cV.toji.trans (dB.gf.trans x3.gf),λa o ha e=>b3 a o (.inl ⟨_,e⟩) (up a o ha e),v3.trans (dB.vals.trans cV.vals)⟩ gI ⟨TP,VS,b3 _ _ (.inl ⟨_,tD⟩) Nf,dw.mono x3.gf _ _ MO,base⟩)
 exact n6 loop (jI.self (s:={s with heap:=aS,toks:=dh}) loop yT)
def SP(F:iR)(e:Expr)(sc:Scope)(gens:List Comprehension)(σ:St)(p:List V×St):Prop:=
 ∀ (A:Around) (c:bc) (s:Shared) (E:Value->Shared->Prop) (use:Option (Value->Sem Unit)) (Q:Value->Shared->Prop) (cp:Pos),iZ F.r A->bQ c F σ s.heap->
  (∀ h' tk D C,Jr c F p.2 p.1 h' D C->compPost aO A E use Q (.ref D) C (.ok .next) {s with heap:=h',toks:=tk})->wpAny aO A (comprehension e sc F.env cp (newList []) false (firstIter gens F.env) use) Q E s
variable{ev eE:gr->Expr->St->Option (V×St)}{r:V×St}
inductive EP(F:iR)(e:Expr)(sc:Scope)(gens:List Comprehension)(σ:St):V×St->Prop
 | mk (l:List V) (σ':St) (a:firstAsync gens=false) (k:F.k.cmp=false) (h:SP F e sc gens σ (l,σ')):EP F e sc gens σ (.lst l,σ')
variable(HH:∀ F':iR,F'.r=F.r->cM F'->∀ {e σ p},ev F'.k e σ=some p->GX F' e σ p)
include HH
theorem gLc(ko:lT)(ek:cM F){t:Tg}(QO:ui F.k sc=true)(tK:rh (λx=>iM x (eR sc)) te=some t)(hit:∀ x,foldedSetIterable it F.env x=pure x)(h:dr bT cf ev eE F.k (.lc sc t it cs elt) σ=some r):
  EP F (.ListComp elt [⟨te,it,cs,0⟩] sc pos) sc [⟨te,it,cs,0⟩] σ r:=by
 refine iG h (λht h=>aJ h λu hu h2=>aJ h2 λp hp h3=>aJ h3 λg hg h4=>aJ hp λo ho h5=> ?_) λZ h=>nn h;obtain rfl:=ae h4;obtain rfl:=ae h5;have so:=vq QO;have Oi:∀ C,cM (mE F sc C):=λC=>uT ek so;show EP F _ sc _ σ (.lst o.1,{o.2 with W:=nG u.1.1 u.2.W o.2.W,cv:=σ.cv});exact .mk _ _ rfl so.cmp λA c s E use Q cp hA hR q=>yE ek QO (p:=o) hA hR hit (LM (HH F rfl ek) ko ek (Nd tK) ht hu) (rq (H6 hg)) (λC=>oi.of (Oi C) (Nd tK) (λI D=>Fo I D) (λI D σ p h=>QF (F:=mE F sc C) (HH (mE F sc C) rfl (Oi C)) h) ho) q
theorem adI(ko:lT)(ek:cM F){t t2:Tg}(QO:ui F.k sc=true)(tK:rh (λx=>iM x (eR sc)) te=some t)(WR:rh (λx=>iM x (eR sc)) pz=some t2)(hit:∀ x,foldedSetIterable it F.env x=pure x)(acU:∀ env x,foldedSetIterable ki env x=pure x)(h:dr bT cf ev eE F.k (.Wh sc t it t2 ki elt) σ=some r):
  EP F (.ListComp elt [⟨te,it,[],0⟩,⟨pz,ki,[],0⟩] sc pos) sc [⟨te,it,[],0⟩,⟨pz,ki,[],0⟩] σ r:=by
 refine iG h (λht h=>aJ h λu hu h2=>aJ h2 λp hp h3=>aJ h3 λg hg h4=>aJ hp λo ho h5=> ?_) λZ h=>nn h;obtain rfl:=ae h4;obtain rfl:=ae h5;have so:=vq QO;have Oi:∀ C,cM (mE F sc C):=λC=>uT ek so;refine fb ht λh1 h2=> ?_;show EP F _ sc _ σ (.lst o.1,{o.2 with W:=nG u.1.1 u.2.W o.2.W,cv:=σ.cv});exact .mk _ _ rfl so.cmp λA c s E use Q cp hA hR q=>yE ek QO (p:=o) hA hR hit (LM (HH F rfl ek) ko ek (Nd tK) h1 hu) (rq (H6 hg)) (λC=>oi.of (Oi C) (Nd tK) (λI D=>Pj I D) (λI D σ p h=>aJ h λw hw h6=>aJ h6 λz hz h7=>
  ae h7▸Lv (acU _) (LM (HH (mE F sc C) rfl (Oi C)) ko (Oi C) (Nd WR) h2 hw) (oi.of (Oi C) (Nd WR) (λI D=>Pk I D) (λI D σ p h=>aJ h λx hx h8=>ae h8▸Im (F:=mE F sc C) (HH (mE F sc C) rfl (Oi C)) hx) hz)) ho) q
end
structure Ze(N:Nat)(lt:Nat->Nat->Bool):Prop where
 WC:∀ i,lt i i=false
 tr:∀ i j k,i<N->j<N->k<N->lt i j=true->lt j k=true->lt i k=true
 tot:∀ i j,i<N->j<N->i≠j->lt i j=true\/lt j i=true
def j1{α:Type}(N:Nat)(lt:Nat->Nat->Bool):KasT α->(α->Prop)->Prop
 | .ret a,Q=>Q a
 | .ask i j k,Q=>i<N/\j<N/\j1 N lt (k (lt i j)) Q
theorem j1.bind{α β:Type}{N:Nat}{lt:Nat->Nat->Bool}{f:α->KasT β}{Q:β->Prop}:∀ {t:KasT α},j1 N lt t (λa=>j1 N lt (f a) Q)->j1 N lt (t.bind f) Q
 | .ret _,h=>h
 | .ask i j k,h=>⟨h.1,h.2.1,j1.bind h.2.2⟩
theorem j1.wp{α:Type}{N:Nat}{lt:Nat->Nat->Bool}{cmp:Nat->Nat->(Bool->Shared->Prop)->Shared->Prop}{s:Shared}{Q:α->Shared->Prop}(hc:∀ i j C,i<N->j<N->C (lt i j) s->cmp i j C s):∀ {t:KasT α},j1 N lt t (λa=>Q a s)->t.kasWp cmp Q s
 | .ret _,h=>h
 | .ask i j k,h=>hc i j _ h.1 h.2.1 (j1.wp hc h.2.2)
abbrev gp(p:Array Nat)(i:Nat):Nat:=p.getD i 0
theorem Cn{p q:Array Nat}(h:p[i]? =q[j]?):gp p i=gp q j:=by unfold gp;rw [gV,gV,h]
structure Good(N:Nat)(p:Array Nat):Prop where
 perm:p.Perm (List.toArray (List.range N))
section
variable{lt:Nat->Nat->Bool}{p:Array Nat}
theorem Good.size(g:Good N p):p.size=N:=by rw [g.perm.size_eq]; simp
theorem Good.lt'(g:Good N p)(hN:0<N)(i:Nat):gp p i<N:=by
 unfold gp;rw [gV];by_cases h:i<p.size
 ·rw [iC h];have:p[i]∈p.toList:=by simp
  have:=(Array.perm_iff_toList_perm.mp g.perm).mem_iff.mp this;simpa using this
 ·rw [Array.getElem?_eq_none (dZ h)]; exact hN
theorem Good.inj(g:Good N p)(hi:i<N)(hj:j<N)(h:i≠j):gp p i≠gp p j:=by
 have nd:p.toList.Nodup:=(Array.perm_iff_toList_perm.mp g.perm).nodup_iff.mpr (by simpa using List.nodup_range);have e:∀ k,k<N->p.toList[k]? =some (gp p k):=λk hk=>by
  have hk:k<p.size:=by rw [g.size]; exact hk
  unfold gp;rw [gV,iC hk];simp [hk]
 intro q;exact h ((List.getElem?_inj (eD.mp (e i hi)).1 nd).mp (by rw [e i hi,e j hj,q]))
theorem Good.start:Good N (List.toArray (List.range N)):=⟨Array.Perm.refl _⟩
theorem Good.rev(g:Good N p)(i j:Nat):Good N (kas_rev p i j):=⟨(mirror_perm _ _ _ _).trans g.perm⟩
theorem Good.bub(g:Good N p)(i j:Nat):Good N (bubble p i j):=⟨(bubble_perm _ _ _).trans g.perm⟩
def Sp(lt:Nat->Nat->Bool)(p:Array Nat)(k:Nat):Prop:=∀ i j,i<j->j<k->lt (gp p i) (gp p j)=true
def Dp(lt:Nat->Nat->Bool)(p:Array Nat)(k:Nat):Prop:=∀ i j,i<j->j<k->lt (gp p j) (gp p i)=true
variable(o:Ze N lt)
include o
theorem Sp.snoc(g:Good N p)(h1:1<=n)(hn:n<N)(h:Sp lt p n)(hl:lt (gp p (n-1)) (gp p n)=true):Sp lt p (n+1):=λi j pA hj=>by
 have hN:0<N:=az (bw n) hn;by_cases e:j<n
 ·exact h i j pA e
 ·obtain rfl:j=n:=fz (d9 hj) (dZ e);by_cases e':i=j-1
  ·rw [e']; exact hl
  ·exact o.tr _ _ _ (g.lt' hN _) (g.lt' hN _) (g.lt' hN _) (h i (j-1) (ic (Nat.le_sub_one_of_lt pA) e') (Nat.sub_lt h1 Nat.one_pos)) hl
theorem Dp.snoc(g:Good N p)(h1:1<=n)(hn:n<N)(h:Dp lt p n)(hl:lt (gp p n) (gp p (n-1))=true):Dp lt p (n+1):=λi j pA hj=>by
 have hN:0<N:=az (bw n) hn;by_cases e:j<n
 ·exact h i j pA e
 ·obtain rfl:j=n:=fz (d9 hj) (dZ e);by_cases e':i=j-1
  ·rw [e']; exact hl
  ·exact o.tr _ _ _ (g.lt' hN _) (g.lt' hN _) (g.lt' hN _) hl (h i (j-1) (ic (Nat.le_sub_one_of_lt pA) e') (Nat.sub_lt h1 Nat.one_pos))
theorem vI(g:Good N p)(hi:i<N)(hj:j<N)(gx:i≠j)(h:lt (gp p i) (gp p j)=false):lt (gp p j) (gp p i)=true:=by
 have hN:0<N:=az (bw i) hi;rcases o.tot _ _ (g.lt' hN i) (g.lt' hN j) (g.inj hi hj gx)with h' | h'
 ·rw [h] at h'; exact Bool.noConfusion h'
 ·exact h'
theorem I4(g:Good N p){Q:Nat->Prop}(f:Nat):∀ n,1<=n->n+f<=N->Sp lt p n->(∀ m,n<=m->m<=N->Sp lt p m->(m=n+f\/(m<N/\lt (gp p m) (gp p (m-1))=true))->Q m)->j1 N lt (kas_asc p f n) Q:=by
 induction f with
 | zero=>exact λn h1 hn h q=>q n (aA _) hn h (.inl rfl)
 | succ f ih=>
  intro n h1 hn h q;have EJ:n<N:=ax (gA (cN f)) hn;have hN:0<N:=di h1 EJ;refine ⟨g.lt' hN _,g.lt' hN _,?_⟩;induction e:lt (p.getD n 0) (p.getD (n-1) 0)using eK with
  | true=>exact q n (aA _) (bV EJ) h (.inr ⟨EJ,e⟩)
  | false=>have l1:=Nat.sub_lt h1 Nat.one_pos;have:=vI o g (i:=n) (j:=n-1) EJ (di l1 EJ) (dM l1) e;exact ih (n+1) (cR 1 n) (af (bW (cF n f)) hn) (h.snoc o g h1 EJ this) λm h2 h3 h4 h5=>q m (bV h2) h3 h4 (h5.imp (λe=>e.trans (cF n f)) id)
theorem Mb(g:Good N p){Q:Array Nat×Nat×Nat->Prop}(f:Nat):∀ n,1<=n->n+f<=N->Dp lt p n->(∀ m,n<=m->m<=N->Dp lt p m->Q (p,m,0))->j1 N lt (kas_desc f p n 0) Q:=by
 induction f with
 | zero=>exact λn h1 hn h q=>q n (aA _) hn h
 | succ f ih=>
  intro n h1 hn h q;have EJ:n<N:=ax (gA (cN f)) hn;have hN:0<N:=di h1 EJ;refine ⟨g.lt' hN _,g.lt' hN _,?_⟩;induction e:lt (p.getD n 0) (p.getD (n-1) 0)using eK with
  | true=>exact ih (n+1) (cR 1 n) (af (bW (cF n f)) hn) (h.snoc o g h1 EJ e) λm h2 h3 h4=>q m (bV h2) h3 h4
  | false=>have l1:=Nat.sub_lt h1 Nat.one_pos;have:=vI o g (i:=n) (j:=n-1) EJ (di l1 EJ) (dM l1) e;refine ⟨g.lt' hN _,g.lt' hN _,?_⟩;have this:lt (p.getD (n-1) 0) (p.getD n 0)=true:=this;rw [this];exact q n (aA _) (bV EJ) h
omit o in
theorem Dp.rev(g:Good N p){m:Nat}(hm:m<=N)(h:Dp lt p m):Sp lt (kas_rev p 0 m) m:=λi j pA hj=>by
 have e:∀ k,k<m->gp (kas_rev p 0 m) k=gp p (m-1-k):=λk hk=>Cn (by
  have:=getElem?_mirror_all (xs:=p) (i:=0) (j:=m) (by rw [g.size]; exact hm) k;rw [dm ⟨bw _,hk⟩,bF] at this;exact this)
 rw [e i (di pA hj),e j hj];exact h _ _ (Nat.sub_lt_sub_left (ax pA (Nat.le_sub_one_of_lt hj)) pA) (az (Nat.sub_le _ _) (Nat.sub_lt (az (bw j) hj) Nat.one_pos))
theorem J7(g:Good N p){m:Nat}{Q:Nat×Array Nat->Prop}(h1:1<=m)(hm:m<=N)(h:Dp lt p m)(q:∀ n p',1<=n->n<=N->Good N p'->Sp lt p' n->Q (n,p')):j1 N lt (kas_tail3 m N p) Q:=by unfold kas_tail3;exact j1.bind (I4 o (g.rev 0 m) _ m h1 (bW (gK hm)) (h.rev g hm) λn h2 h3 h4 Z=>q n _ (af h1 h2) h3 (g.rev 0 m) h4)
theorem IF(g:Good N p)(hN:2<=N){Q:Nat×Array Nat->Prop}(q:∀ n p',1<=n->n<=N->Good N p'->Sp lt p' n->Q (n,p')):j1 N lt (kas_count N p) Q:=by
 have hN1:=gK (bV hN);have hN0:=di Nat.one_pos hN;unfold kas_count;refine j1.bind (I4 o g _ 1 (aA _) (bW hN1) (λi j pA hj=>(fy i (ax pA (d9 hj))).elim) λn h1 h2 h3 h4=> ?_);by_cases e:(n==N)=true
 ·rw [dm e]; exact q n p h1 h2 g h3
 ·rw [cb e];by_cases e1:n>1
  ·rw [dm e1];refine ⟨g.lt' hN0 _,g.lt' hN0 _,?_⟩;have:lt (p.getD 0 0) (p.getD (n-1) 0)=true:=h3 0 (n-1) (Nat.sub_pos_of_lt e1) (Nat.sub_lt h1 Nat.one_pos);rw [this];exact q n p h1 h2 g h3
  ·rw [cb e1];obtain rfl:n=1:=fz (dZ e1) h1;have e2:lt (gp p 1) (gp p 0)=true:=h4.elim (λh4=>absurd (aD.mpr (h4.trans hN1)) e) λh4=>h4.2;unfold kas_descPart;refine j1.bind (Mb o g _ 2 ∅ (bW (gK hN)) (λi j pA hj=> ?_) λm h5 h6 h7=> ?_)
   ·obtain rfl:j=1:=fz (d9 hj) (az (bw i) pA);obtain rfl:i=0:=Nat.le_zero.mp (d9 pA);exact e2
   ·simp only [eM,if_false];exact J7 o g (bV h5) h6 h7 q
omit o in
theorem XA{l r:Nat}(h:l<r):(l+r) / 2<r:=by omega
omit o in
theorem Xz{l r:Nat}(h:l<=r):l<=(l+r) / 2:=by omega
theorem GC(g:Good N p){k:Nat}(hk:k<N)(hs:Sp lt p k){Q:Nat->Prop}(f:Nat):∀ (l r:Nat),l<=r->r<=k->r<=l+f->(∀ i,i<l->lt (gp p i) (gp p k)=true)->(∀ i,r<=i->i<k->lt (gp p k) (gp p i)=true)->
  (∀ l',l'<=k->(∀ i,i<l'->lt (gp p i) (gp p k)=true)->(∀ i,l'<=i->i<k->lt (gp p k) (gp p i)=true)->Q l')->j1 N lt (kas_place p k f l r) Q:=by
 induction f with
 | zero=>exact λl r h1 h2 h3 hl hr q=>q l (af h1 h2) hl λi hi QX=>hr i (af h3 hi) QX
 | succ f ih=>
  intro l r h1 h2 h3 hl hr q;have hN:0<N:=az (bw k) hk;unfold kas_place;by_cases e:l≥r
  ·rw [dm e]; exact q l (af h1 h2) hl λi hi QX=>hr i (af e hi) QX
  ·rw [cb e];refine ⟨g.lt' hN _,g.lt' hN _,?_⟩;have hm:=XA (Nat.lt_of_not_le e);have Xk:=Xz h1;have Xi:=ax hm h2;generalize (l+r) / 2=m at hm Xk Xi ⊢;induction e2:lt (p.getD k 0) (p.getD m 0)using eK with
   | true=>
    refine ih l m Xk (bV Xi) (d9 (ax hm h3)) hl (λi hi QX=> ?_) q;by_cases e3:i=m
    ·rw [e3]; exact e2
    ·exact o.tr _ _ _ (g.lt' hN _) (g.lt' hN _) (g.lt' hN _) e2 (hs _ i (ic hi (Ne.symm e3)) QX)
   | false=>
    have:=vI o g (i:=k) (j:=m) hk (di Xi hk) (dM Xi) e2;refine ih (m+1) r hm h2 (af h3 (af (bG Xk _) (bW (cF m f).symm))) (λi hi=> ?_) hr q;by_cases e3:i=m
    ·rw [e3]; exact this
    ·exact o.tr _ _ _ (g.lt' hN _) (g.lt' hN _) (g.lt' hN _) (hs i _ (ic (d9 hi) e3) Xi) this
theorem Sp.bub(g:Good N p){k l:Nat}(hk:k<N)(hl:l<=k)(hs:Sp lt p k)(h1:∀ i,i<l->lt (gp p i) (gp p k)=true)(h2:∀ i,l<=i->i<k->lt (gp p k) (gp p i)=true):Sp lt (bubble p k (k-l)) (k+1):=λi j pA hj=>by
 have e:∀ i,gp (bubble p k (k-l)) i=if i=l then gp p k else if l<i/\i<=k then gp p (i-1)else gp p i:=λi=>by
  have:=getElem?_bubble (xs:=p) (src:=k) (by rw [g.size]; exact hk) (k-l) (Nat.sub_le k l) i;rw [Nat.sub_sub_self hl] at this;by_cases a:i=l
  ·rw [dm a] at this ⊢; exact Cn this
  ·rw [cb a] at this ⊢;by_cases b:l<i/\i<=k
   ·rw [dm b] at this ⊢; exact Cn this
   ·rw [cb b] at this ⊢; exact Cn this
 have JA:=d9 hj;have QT:=ax (Nat.sub_lt (az (bw i) pA) Nat.one_pos) JA;rw [e i,e j];by_cases a:i=l
 ·subst a;rw [dm rfl,cb (dM pA),dm ⟨pA,JA⟩];exact h2 _ (Nat.le_sub_one_of_lt pA) QT
 ·rw [cb a];by_cases b:j=l
  ·subst b;rw [dm rfl,cb λq=>Nat.lt_asymm q.1 pA];exact h1 i pA
  ·rw [cb b];by_cases c:l<i/\i<=k
   ·rw [dm c,dm ⟨di c.1 pA,JA⟩];exact hs _ _ (Nat.sub_lt_sub_right (az (bw l) c.1) pA) QT
   ·rw [cb c];by_cases d:l<j/\j<=k
    ·rw [dm d];exact hs _ _ (ax (ic (dZ λq=>c ⟨q,af (bV pA) JA⟩) a) (Nat.le_sub_one_of_lt d.1)) QT
    ·rw [cb d];exact hs _ _ pA (ax (ic (dZ λq=>d ⟨q,JA⟩) b) hl)
theorem Sd{Q:Array Nat->Prop}(f:Nat):∀ (p:Array Nat) (k:Nat),Good N p->Sp lt p k->k+f=N->(∀ p',Good N p'->Sp lt p' N->Q p')->j1 N lt (kas_bin f p k) Q:=by
 induction f with
 | zero=>exact λp k g hs hk q=>q p g ((show k=N from hk)▸hs)
 | succ f ih=>intro p k g hs hk q;have hkN:k<N:=hk▸gA (cN f);refine j1.bind (GC o g hkN hs k 0 k (bw k) (aA _) (bW (bF k).symm) (λi hi=>absurd hi (fy i)) (λi hi QX=>absurd hi (Nat.not_le_of_lt QX)) λl hl h1 h2=> ?_);exact ih _ (k+1) (g.bub _ _) (Sp.bub o g hkN hl hs h1 h2) ((cF k f).trans hk) q
theorem BA(hN:2<=N){Q:Array Nat->Prop}(q:∀ p',Good N p'->Sp lt p' N->Q p'):j1 N lt (kas_sort N) Q:=by
 unfold kas_sort;refine j1.bind (IF o Good.start hN λn p' h1 h2 g hs=> ?_);dsimp only;by_cases e:n<N
 ·rw [dm e,Nat.max_eq_left h1];exact Sd o _ p' n g hs (gK h2) q
 ·rw [cb e];obtain rfl:n=N:=fz h2 (dZ e);exact q p' g hs
end
theorem I0(h:b=true)(x y:α):(bif b then x else y)=x:=h▸rfl
theorem YN(h:b=false)(x y:α):(bif b then x else y)=y:=h▸rfl
structure Tt{α:Type}(lt:α->α->Bool):Prop where
 WC:∀ a,lt a a=false
 tr:∀ a b c,lt a b=true->lt b c=true->lt a c=true
 tot:∀ a b,a≠b->lt a b=true\/lt b a=true
abbrev OK(lt:α->α->Bool)(l:List α):Prop:=l.Pairwise (λa b=>lt a b=true)
section
variable{lt:α->α->Bool}(o:Tt lt)
include o
theorem ro{l:List α}:∀ {m:List α},l.Perm m->OK lt l->OK lt m->l=m:=by
 induction l with
 | nil=>exact λh Z Z=>(List.nil_perm.mp h).symm
 | cons a l ih=>
  intro m h h1 h2;rcases m with _ | ⟨b,m⟩
  ·exact absurd h.length_eq (Nat.succ_ne_zero _)
  have h1:=fU.mp h1;have h2:=fU.mp h2;have uE:a=b:=(aH.mp (h.mem_iff.mp aq)).elim id λha=>(aH.mp (h.mem_iff.mpr aq)).elim Eq.symm λhb=>
   (Bool.noConfusion ((o.WC a).symm.trans (o.tr _ _ _ (h1.1 b hb) (h2.1 a ha))))
  subst uE;exact av (a::·) (ih (List.Perm.cons_inv h) h1.2 h2.2)
omit o in
theorem uB(x:α)(l:List α):(DN lt x l).Perm (x::l):=by
 induction l with
 | nil=>exact List.Perm.refl _
 | cons y r ih=>
  show(bif lt x y then x::y::r else y::DN lt x r).Perm _;induction lt x y
  ·exact (ih.cons y).trans (List.Perm.swap x y r)
  ·exact List.Perm.refl _
omit o in
theorem jU(l:List α):(jj lt l).Perm l:=by
 induction l with
 | nil=>exact List.Perm.refl _
 | cons x r ih=>exact (uB x (jj lt r)).trans (ih.cons x)
theorem xU(x:α){l:List α}:x ∉ l->OK lt l->OK lt (DN lt x l):=by
 induction l with
 | nil=>exact λZ Z=>List.pairwise_singleton _ _
 | cons y r ih=>
  intro hx h;have hx:=not_or.mp λq=>hx (aH.mpr q);have h:=fU.mp h;show OK lt (bif lt x y then x::y::r else y::DN lt x r);cases hl:lt x y
  ·have hl:lt y x=true:=(o.tot x y hx.1).elim (λq=>(Bool.noConfusion (hl.symm.trans q))) id;exact fU.mpr ⟨λz hz=>(aH.mp ((uB (lt:=lt) x r).mem_iff.mp hz)).elim (λe=>e▸hl) (h.1 z),ih hx.2 h.2⟩
  ·exact fU.mpr ⟨λz hz=>(aH.mp hz).elim (λe=>e▸hl) λhz=>o.tr _ _ _ hl (h.1 z hz),fU.mpr h⟩
theorem kT{l:List α}:l.Nodup->OK lt (jj lt l):=by
 induction l with
 | nil=>exact λZ=>List.Pairwise.nil
 | cons x r ih=>intro h;have h:=bj.mp h;exact xU o x (λhm=>h.1 ((jU r).mem_iff.mp hm)) (ih h.2)
end
theorem GK:Tt λa b:Int=>decide (a<b):=⟨λa=>aT (Int.lt_irrefl a),λa b c h h'=>ak (Int.lt_trans (cE h) (cE h')),λa b h=>(Int.lt_or_gt_of_ne h).imp ak ak⟩
theorem nR{a b:Int}{r t:List Int}(h:a=b):uu (a::r) (b::t)=uu r t:=by subst h;show(bif decide (a<a)then true else bif decide (a<a)then false else uu r t)=_;rw [aT (Int.lt_irrefl a)]; rfl
theorem mn{a b:Int}{r t:List Int}(h:a<b):uu (a::r) (b::t)=true:=I0 (ak h) _ _
theorem Hc{a b:Int}{r t:List Int}(h:b<a):uu (a::r) (b::t)=false:=(YN (aT (Int.lt_asymm h)) _ _).trans (I0 (ak h) _ _)
inductive LtC(a b:Int)(r t:List Int):Prop
 | lt (h:a<b)
 | eq (h:a=b) (h':uu r t=true)
theorem xF{a b:Int}{r t:List Int}(h:uu (a::r) (b::t)=true):LtC a b r t:=by
 rcases Int.lt_trichotomy a b with q | q | q
 ·exact .lt q
 ·exact .eq q ((nR q).symm.trans h)
 ·exact (Bool.noConfusion ((Hc q).symm.trans h))
theorem K4(a:List Int):uu a []=false:=by induction a using lh <;> rfl
theorem GJ:Tt uu where
 WC a:=by
  induction a with
  | nil=>rfl
  | cons x r ih=>exact (nR rfl).trans ih
 tr a:=by
  induction a with
  | nil=>
   intro b c h1 h2;rcases c with _ | ⟨c,cs⟩
   ·exact (Bool.noConfusion ((K4 b).symm.trans h2))
   ·rfl
  | cons a as ih=>
   intro b c h1 h2;rcases b with _ | ⟨b,bs⟩
   ·exact (Bool.noConfusion h1)
   rcases c with _ | ⟨c,cs⟩
   ·exact (Bool.noConfusion h2)
   induction xF h1 with
   | lt h3=>induction xF h2 with
    | lt h4=>exact mn (Int.lt_trans h3 h4)
    | eq h4 _=>exact mn (h4▸h3)
   | eq h3 h5=>induction xF h2 with
    | lt h4=>exact mn (h3▸h4)
    | eq h4 h6=>exact (nR (h3.trans h4)).trans (ih bs cs h5 h6)
 tot a:=by
  induction a with
  | nil=>
   intro b h;rcases b with _ | ⟨b,bs⟩
   ·exact absurd rfl h
   ·exact .inl rfl
  | cons a as ih=>
   intro b h;rcases b with _ | ⟨b,bs⟩
   ·exact .inr rfl
   rcases Int.lt_trichotomy a b with q | q | q
   ·exact .inl (mn q)
   ·subst q; rw [nR rfl,nR rfl]; exact ih bs λe=>h (e▸rfl)
   ·exact .inr (mn q)
theorem lq(d:α){l:List α}(hi:i<l.length):l[i]? =some (l.getD i d):=by rw [cJ,aP hi]; rfl
theorem BR{lt:α->α->Bool}(d:α)(o:Tt lt){l:List α}(nd:l.Nodup):Ze l.length (λi j=>lt (l.getD i d) (l.getD j d)):=
 ⟨λi=>o.WC _,λi j k Z Z Z h1 h2=>o.tr _ _ _ h1 h2,λi j hi hj gx=>o.tot _ _ λe=>gx ((List.getElem?_inj hi nd).mp ((lq d hi).trans (e▸(lq d hj).symm)))⟩
theorem r3(d:α)(l:List α):(List.range l.length).map (λi=>l.getD i d)=l:=by
 refine List.ext_getElem? λi=> ?_;rw [bB];by_cases hi:i<l.length
 ·rw [List.getElem?_range hi,lq d hi]; rfl
 ·rw [ij (iP▸dZ hi),ij (dZ hi)]; rfl
theorem xd {lt:α->α->Bool} (d:α) (o:Tt lt) {l:List α} (nd:l.Nodup) {p:Array Nat}
  (g:Good l.length p) (hs:Sp (λi j=>lt (l.getD i d) (l.getD j d)) p l.length):p.toList.map (λi=>l.getD i d)=jj lt l:=by
 refine ro o ?_ ?_ (kT o nd)
 ·have h1:=(Array.perm_iff_toList_perm.mp g.perm).map λi=>l.getD i d;rw [show(List.toArray (List.range l.length)).toList=List.range l.length from rfl,r3] at h1;exact h1.trans (jU l).symm
 ·refine br.mpr (List.pairwise_iff_getElem.mpr λi j hi hj pA=> ?_);have e:∀ k (hk:k<p.toList.length),gp p k=p.toList[k]:=λk hk=>by
   unfold gp;rw [gV,<-Array.getElem?_toList,aP hk]; rfl
  rw [<-e i hi,<-e j hj];exact hs i j pA (g.size▸Array.length_toList▸hj)
def tupI(t:List Int):V:=.tup (t.map V.int)
inductive yV(l l':List V):Prop
 | si (is:List Int) (e:l=is.map V.int) (nd:is.Nodup) (e':l'=(jj (λa b=>decide (a<b)) is).map V.int)
 | st (ts:List (List Int)) (e:l=ts.map tupI) (nd:ts.Nodup) (k:Nat) (hk:k≠0) (hl:∀ t∈ts,t.length=k) (e':l'=(jj uu ts).map tupI)
theorem zg{l l':List V}(h:nu l=some l'):yV l l':=by
 unfold nu at h;rcases hi:dG l with _ | is
 ·rw [hi] at h;refine aJ h λts ht h2=>iG h2 (λe h3=> ?_) λZ h=>nn h;have hl:l=ts.map tupI:=rM (λ{v b} hv=>aJ hv λu hu h4=>(sV hu).trans (av V.tup (jv h4))) ht;obtain rfl:=ae h3;refine fb e λe1 e2=> ?_;rcases ts with _ | ⟨t,r⟩
  ·exact .st [] hl dR 1 ∅ (λZ q=>(eX q)) rfl
  ·have a:=aK.mp e1;exact .st _ hl (cE e2) t.length (bne_iff_ne.mp (aW (a t aq)).2) (λu hu=>aD.mp (aW (a u hu)).1) rfl
 ·rw [hi] at h;exact iG h (λe h=>.si is (jv hi) (cE e) (ae h).symm) λZ h=>nn h
theorem qi{lt:α->α->Bool}{l:List α}(h:l.length<2):jj lt l=l:=by
 rcases l with _ | ⟨a,_ | _⟩
 ·rfl
 ·rfl
 ·exact absurd h (Nat.not_lt.mpr (cR _ _))
theorem yV.short{l l':List V}(h:yV l l')(hl:l.length<2):l'=l:=by
 induction h with
 | si is e nd e'=>rw [e,ao] at hl; rw [e',e,qi hl]
 | st ts e nd k hk hlen e'=>rw [e,ao] at hl; rw [e',e,qi hl]
theorem mJ{l:List V}(S:dw c l vs)(hi:i<l.length):VR c (l.getD i .none) (vs.getD i Value.none):=(nh S (lq V.none hi)).casesOn λv hv a=>by
 rw [cJ (l:=vs),hv]; exact a
theorem Jg{l:List V}(S:dw c l vs){idx:List Nat}:(∀ i∈idx,i<l.length)->dw c (idx.map λi=>l.getD i .none) (idx.map λi=>vs.getD i Value.none):=by
 induction idx with
 | nil=>exact λZ=>rfl
 | cons i idx ih=>exact λh=>have⟨a,b⟩:=ah.mp h; ⟨_,_,mJ S a,ih b⟩
theorem iF{f:α->β}{l:List α}{d:α}{d':β}(hi:i<l.length):(l.map f).getD i d'=f (l.getD i d):=by rw [cJ,bB,lq d hi]; rfl
theorem Good.idx{p:Array Nat}(g:Good N p):∀ i∈p.toList,i<N:=λi hi=>ft.mp ((Array.perm_iff_toList_perm.mp g.perm).mem_iff.mp hi)
theorem Aj{xs:List Int}:∀ {ys:List Int} {vs ws:List Value} {i:Nat},dw c (xs.map V.int) vs->dw c (ys.map V.int) ws->xs.length=ys.length->C (uu xs ys) s->KatLex pw gD A b false C (vs.zip ws) i s:=by
 induction xs with
 | nil=>
  intro ys vs ws i h1 h2 hl q;rcases ys with _ | _
  ·obtain rfl:=h1; obtain rfl:=h2; exact kat_nil q
  ·exact (Nat.noConfusion hl)
 | cons x xs ih=>
  intro ys vs ws i h1 h2 hl q;rcases ys with _ | ⟨y,ys⟩
  ·exact (Nat.noConfusion hl)
  injection h1 with v vs V1 S1;injection h2 with w ws V2 S2;injection V1 with t;injection V2 with u;refine kat_cons (PySem.SeqAt.EqAt.int_int x t y u pw gD _ _ ?_);by_cases e:x=y
  ·subst e;rw [aG];exact kat_yes (ih S1 S2 (Nat.succ.inj hl) (nR rfl▸q))
  ·have e2:uu (x::xs) (y::ys)=decide (x<y):=(Int.lt_or_gt_of_ne e).elim (λh=>(mn h).trans (ak h).symm) λh=>(Hc h).trans (aT (Int.lt_asymm h)).symm;rw [e2] at q;rw [aI.mpr e];refine kat_no ?_;induction hb:(b&&i==0)using eK with
   | true=>exact oneLt_int q
   | false=>exact kat_one _ _ (PyProof.Rows.lt_int q)
theorem Mv(S:dw c (is.map V.int) vs)(hi:i<is.length)(hj:j<is.length)(q:C (decide (is.getD i 0<is.getD j 0)) s):kas_ask pw gD A oneType' vs i j C s:=by have h1:=mJ S (i:=i) (ao (α:=Int) V.int▸hi);have h2:=mJ S (i:=j) (ao (α:=Int) V.int▸hj);rw [iF (d:=0) hi] at h1;rw [iF (d:=0) hj] at h2;unfold kas_ask;rw [keyLt'_oneType];generalize vs.getD i Value.none=v at h1;generalize vs.getD j Value.none=w at h2;induction h1 with | mk t=>induction h2 with | mk u=>exact oneLt_int q
theorem Mu (hold:∀ a t o,c.T a=some (t,o)->s.heap.get? a=some o) {k:Nat} (hl:∀ t∈ts,t.length=k) (S:dw c (ts.map tupI) vs) (hi:i<ts.length) (hj:j<ts.length)
  (q:C (uu (ts.getD i []) (ts.getD j [])) s):kas_ask pw gD A (tuples' b) vs i j C s:=by
 have h1:=mJ S (i:=i) (ao (α:=List Int) tupI▸hi);have h2:=mJ S (i:=j) (ao (α:=List Int) tupI▸hj);rw [iF (d:=[]) hi] at h1;rw [iF (d:=[]) hj] at h2;have l1:=hl _ (cH (lq [] hi));have l2:=hl _ (cH (lq [] hj));unfold kas_ask;generalize vs.getD i Value.none=v at h1;generalize vs.getD j Value.none=w at h2;induction h1 with | mk a xs n t S1=>induction h2 with | mk a' ys n' t' S2=>
 refine kat_lt (hold _ _ _ t) rfl (hold _ _ _ t') rfl ?_;have a1:=aY S1;have a2:=aY S2;rw [ao] at a1 a2;rw [aM,aM,<-a1,<-a2,l1,l2,aT (eM k)];exact Aj S1 S2 (l1.trans l2.symm) q
inductive aet(h:Heap)(vs:List Value)(n:Nat):Prop
 | mk (fs:List Value) (k:KatTups h vs fs) (l:fs.length=n) (a:∀ v∈fs,∃ i t,v=.int i t)
theorem Ln(hold:∀ a t o,c.T a=some (t,o)->h.get? a=some o){k:Nat}(hk:k≠0):∀ {vs:List Value},(∀ t∈ts,t.length=k)->dw c (ts.map tupI) vs->aet h vs ts.length:=by
 induction ts with
 | nil=>exact λ{vs} Z S=>by obtain rfl:=S; exact ⟨[],KatTups.nil,rfl,λZ q=>(eX q)⟩
 | cons t ts ih=>
  intro vs hl S;refine And.elim (λjt hl=> ?_) (ah.mp hl);injection S with v vs V1 S1;injection V1 with a xs n ta S2;injection ih hl S1 with fs h1 h2 h3;rcases t with _ | ⟨i,t⟩
  ·exact absurd jt.symm hk
  injection S2 with w xs W1 _;induction W1 with | mk u=>exact ⟨.int i u::fs,KatTups.cons (hold _ _ _ ta) rfl rfl rfl h1,av (· +1) h2,ah.mpr ⟨⟨_,_,rfl⟩,h3⟩⟩
section
variable{σ:St}{l l':List V}{v:V}
theorem vJ:Value.type "list" ≠Value.type "dict" :=by decide
theorem Qg{o:Obj}(h:o.cls=.type "list"):D≠sysModules\/BK gG.gN=true\/o.cls≠ .type "dict" :=.inr (.inr (h▸vJ))
theorem Kd (hD:s.heap.get? D=some (dQ vs n)) (h2:vs.length<2) (hold:∀ b o,h.get? b=some o->s.heap.get? b=some o) (Q5:∀ b o,h.get? b=some o->b<D)
  (q:∀ h' e,(∀ b o,h.get? b=some o->h'.get? b=some o)->h'.get? D=some (dQ vs e)->ED (.done (.ret .none)) {s with heap:=h'}):wpAny aO A (Builtin.«list.sort» ⟨[.ref D],[]⟩) ED E s:=by
 have h2':vs.toArray.size<2:=aM (α:=Value)▸h2;have hz:vs.toArray.size<=sizeLine:=af (bV h2') ∅;rw [list_sort_plain];refine aa (listItems_at hD rfl (aa (listUpdate_at hD rfl ?_ hz (bw _))));obtain ⟨e1,Tb⟩:∃ e1,(s.heap.update D (Obj.mapSeq λZ=>(#[]:Array Value))).get? D=some (dQ [] e1):=⟨_,get?_update_seq hD (λZ=> #[])⟩
 have k1:∀ b o,h.get? b=some o->(s.heap.update D (Obj.mapSeq λZ=>(#[]:Array Value))).get? b=some o:=λb o e=>(Heap.get?_update_ne _ _ _ _ (aL (Q5 b o e))).trans (hold b o e);generalize s.heap.update D (Obj.mapSeq λZ=>(#[]:Array Value))=h1 at Tb k1 ⊢;refine aa (seqEpoch_at Tb rfl (aa (wpAny_newTuple (aa (wpAny_newList (bq ?_) (bw _))) hz)));have Z3:=aE (seqObj "list" #[] 0) (aE (seqObj "tuple" vs.toArray 0) Tb);have k6:∀ b o,h.get? b=some o->((h1.push (seqObj "tuple" vs.toArray 0)).push (seqObj "list" #[] 0)).get? b=some o:=λb o e=>aE _ (aE _ (k1 b o e));show wpAny aO A _ ED E {s with heap:=(h1.push (seqObj "tuple" vs.toArray 0)).push (seqObj "list" #[] 0)};generalize (h1.push (seqObj "tuple" vs.toArray 0)).push (seqObj "list" #[] 0)=h3 at Z3 k6 ⊢;dsimp only;rw [dm h2',dm h2'];refine aa (aj ?_);rw [StateT.run_pure];refine aa (aj ?_);dsimp only;refine aa (seqEpoch_at Z3 rfl ?_);have eA:Array.map (λx=>x.2) (arrOf (SortSt.mk' general' (vs.toArray.zip vs.toArray) #[] 7 none))=vs.toArray:=by show Array.map (λx=>x.2) (vs.toArray.zip vs.toArray)=_;apply Array.toList_inj.mp;rw [Array.toList_map,Array.toList_zip,List.map_snd_zip (aA _)]
 refine aa (listUpdate_at Z3 rfl ?_ (bw _) (by show(Array.map _ (arrOf _)).size<=_; rw [eA]; exact bz hz));rw [cb (by rw [bne_self_eq_false]; exact cS),eA];exact aj (q _ _ (λb o e=>(Heap.get?_update_ne _ _ _ _ (aL (Q5 b o e))).trans (k6 b o e)) (get?_update_seq Z3 (λZ=>vs.toArray)))
theorem xK(h:2<=vs.length)(hI:IntsAre vs is):keyKind' vs.toArray=pure oneType':=by
 induction vs using lh with
 | nil=>exact absurd h ∅
 | cons a r=>induction r using lh with
  | nil=>exact absurd h (Nat.not_succ_le_self 1)
  | cons b r=>exact keyKind_ints hI
theorem FI (hR:bQ c F σ h) (keep:∀ b o,h.get? b=some o->s.heap.get? b=some o) (hD:s.heap.get? D=some (dQ vs n)) (Q5:∀ b o,h.get? b=some o->b<D) (S:dw c l vs) (yg:l.length<64) (hv:yV l l')
  (q:∀ c' h',Le c c'->bQ c' F σ h'->VR c' (.lst l') (.ref D)->ED (.done (.ret .none)) {s with heap:=h'}):wpAny aO A (Builtin.«list.sort» ⟨[.ref D],[]⟩) ED E s:=by
 have hlen:=aY S;have h5:l.length<=100000:=af (bV yg) ∅;by_cases h2:l.length<2
 ·rw [hv.short h2] at q;refine Kd hD (hlen▸h2) keep Q5 λh' e kp hD'=> ?_;have T:=(hR.keeps kp).tag .gN (a:=D) (o:=dQ vs e) (by
   rcases e:c.T D with _ | p
   ·rfl
   ·exact absurd (Q5 _ _ (hR.w.hold _ p.1 p.2 e)) (eM _)) (Qg rfl) hD'
  exact q _ _ T.1 T.2 ⟨D,vs,e,aF ..,dw.mono T.1.toji _ _ S,h5⟩
 ·have Q4:2<=l.length:=dZ h2;injection hR.Fi with h1 m news Fm N _ _ kk;have hL:F.L<D:=Fm.ns.elim λo h=>h.elim λZ h=>h.elim λZ h=>Q5 _ _ h.1;have Cf:∀ p∈news,p.1<D:=λp hp=>Q5 _ _ (N p hp).1;refine kat_list_sort (Fm.kept keep) (N.grown keep) hD (dM hL) (Heap.get?_none_of_le (af Fm.above (bV hL))) (λp hp=>aL (Cf p hp)) (hlen▸Q4) (hlen▸yg) λe1 h' F' N'=> ?_;injection kk h' D _ F' N' Cf (.inr vJ)with c' le R' _;have S':=dw.mono le.toji _ _ S;have fin:∀ (p:Array Nat),Good l.length p->p.toList.map (λi=>l.getD i .none)=l'->KasFin h1 F.L m D e1 (p.toList.map λi=>vs.getD i Value.none) (λs3=>ED (.done (.ret .none)) s3) {s with heap:=h'}:=λp g e=>
   KasFin.intro F' N' (.head λp hp=>aL (Cf p hp)) λqq cc F'' N''=>(kk qq D _ F'' N'' Cf (.inr vJ)).casesOn λEi Wc JJ t=>
    q _ qq Wc JJ ⟨D,_,cc,t,e▸dw.mono Wc.toji _ _ (Jg S g.idx),by rw [<-e,ao,Array.length_toList,g.size]; exact h5⟩
  induction hv with
  | si is el nd el'=>subst el;have hI:=j9 S;have ekk:keyKind' vs.toArray=pure oneType':=xK (hlen▸Q4) hI;rw [ekk];have o:=BR 0 GK nd;rw [ao] at Q4 fin;refine aj (j1.wp (N:=is.length) (λi j C hi hj hq=>Mv S hi hj hq) (hlen▸(ao (as:=is) V.int).symm▸BA o Q4 λp g sp=>fin p g ?_));rw [el',<-xd (0:Int) GK nd g sp,aU];exact List.map_congr_left λi hi=>iF (g.idx i hi)
  | st ts el nd k hk hl el'=>subst el;rw [ao] at Q4 fin;injection Ln (h:=h') R'.w.hold hk hl S' with fs t1 t2 t3;refine kat_kind (M:=aO) (T:=.type "int") t1 (t2▸ax Nat.two_pos Q4) (λv hv=>(t3 v hv).elim λi h=>h.elim λt e=>e▸Looks.now) ∅ ?_;have o:=BR [] GJ nd;refine j1.wp (N:=ts.length) (λi j C hi hj hq=>Mu (s:={s with heap:=h'}) R'.w.hold hl S' hi hj hq) (hlen▸(ao (as:=ts) tupI).symm▸BA o Q4 λp g sp=>fin p g ?_);rw [el',<-xd ([]:List Int) GJ nd g sp,aU];exact List.map_congr_left λi hi=>iF (g.idx i hi)
theorem rp {a:Value} (hR:bQ c F σ h) (S:dw c l vs) (yg:l.length<64) (hv:yV l l')
  (ac7:∀ {B:Around} {R:List Value->Shared->Prop} {E':Value->Shared->Prop},B.handled=A.handled->(∀ h' tk,(∀ b o,h.get? b=some o->h'.get? b=some o)->R vs {s with heap:=h',toks:=tk})->wpAny aO B (collect a) R E' s)
  (q:jP F c σ s (.lst l') Q):wpAny aO A (call (.builtin "sorted") [a]) Q E s:=
 Calls.call_function_entry kind_sorted plain_sorted entry_sorted (args_sorted1 _) (aa (m:=checkCount "sorted" 1 1 _) (aj (aa (ac7 rfl λh1 tk k1=>
  have Z2:(h1.push (dQ vs 0)).get? h1.objs.size=some (dQ vs 0):=aR _ rfl
  aa (wpAny_newList (aa (bq (bJ slot_list_sort ⟨_,Z2,rfl⟩ entry_list_sort (FI (s:={s with heap:=h1.push (dQ vs 0),toks:=tk}) hR (λb o e=>aE _ (k1 b o e)) Z2 (λb o e=>bt (k1 b o e)) S yg hv λc' h' le R' V'=>⟨_,rfl,aj ⟨_,rfl,q c' h' tk _ le R' V'⟩⟩) (args_list_sort _)))) (aY S▸af (bV yg) ∅))))))
theorem Lm{acc:Array Value}(h1:acc.size=es.length)(h2:∀ (i:Nat) (v:Value),acc[i]? =some v->∃ e:DictEntry,es[i]? =some e/\v=e.key):acc.toList=es.map (·.key):=by
 refine List.ext_getElem? λi=> ?_;rw [bB,Array.getElem?_toList];rcases hi:acc[i]? with _ | v
 ·rw [ij (h1▸Array.getElem?_eq_none_iff.mp hi)]; rfl
 ·exact (h2 i v hi).elim λe he=>by rw [he.1,he.2]; rfl
theorem Kc(hA:iZ F.r A)(hR:bQ c F σ s.heap)(h:jN σ.W 6 as=some v)(V:dw c as ws)(q:jP F c σ s v Q):wpAny aO A (call (.builtin "sorted") ws) Q E s:=by
 refine aJ h λx hx h2=>iG h2 (λZ h=>nn h) λhd h3=>aJ h3 λl hl h4=>iG h4 (λe h5=> ?_) λZ h=>nn h;have yg:=cE e;injection eo h5 with l' hv;have C:=zg hv;injection lL hx V with w V1;induction x using lH with
 | lst m=>obtain rfl:=ae hl;injection V1 with a vs n t S b;exact rp hR S yg C (λ{B R E'} hB hq=>collect_list (dJ hR t) (hq _ s.toks λb o e=>(Heap.get?_update_ne _ _ _ _ (aL (bt e))).trans (aE _ e)) (g7 S b)) q
 | glob n=>injection eo hl with d hw;induction V1;injection hR.w.jx _ _ (iu hw)with es ep t D kn hb;exact rp hR (pj D) yg C (λ{B R E'} hB hq=>kdu_collect (Wo (n:=ep) (es:=es) (jT hR.w t rfl)) (hB.trans hA.handled) (hR.w.hold _ _ _ t) (fE D▸af hb ∅) λh' tk acc hk nT=>Lm nT.1 nT.2▸hq h' tk hk) q
 | df=>exact (Bool.noConfusion hd)
 | _=>exact nn hl
variable{ev:gr->Expr->St->Option (V×St)}(H:∀ {e σ p},ev F.k e σ=some p->GX F e σ p)
include H
theorem Rm (ko:lT) (ek:cM F) {es:List Expr} {as:List V×St} (hg:fR F.k x=true) (hn:gH x qI=some n) (Tn:n<12) (hs:es.all notStar=true)
  (ha:su bT (ev F.k) es σ=some as) (hv:jN as.2.W n as.1=some v):GX F (.Call (.Name x p) es [] pos) σ (v,as.2):=by
 refine .of (λA c s Q E hA hR q=>ko.glob.casesOn λmg mb g1 g2 Z g4 Z Z Z=> ?_) rfl;have e:yY mg mb x (sQ n):=by
  have:=g4 x n hn;induction this with
  | blt n _ e=>exact e
  | fn n h _ _=>exact absurd Tn (Nat.not_lt.mpr (af ∅ h))
  | cls k _ _=>exact absurd Tn (Nat.not_lt.mpr (af ∅ (aB 90 k)))
 rw [ea];refine aa (nE ek hR hg (lB hn) g1 g2 e (eB (Pp:=λZ=>True) hs (λh Z=>gm ?_ h) ((qF H hs ha).go hA hR q λaX cU ws l R V q=>⟨trivial,?_⟩)))
 ·exact (by decide+kernel:∀ n,n<12->Hy (sQ n)=false) n Tn
 show wpAny aO A (call (sQ n) ws) Q E cU;by_cases h6:n=6
 ·subst h6; exact Kc hA R hv V q
 by_cases h8:n=8
 ·subst h8;exact aJ hv λa h1 h2=>aJ h2 λl hl h3=>aJ h3 λps hp h4=>(lL h1 V).casesOn λw V=>yv (l:=[]) hA R hl hp h4 V q
 ·exact uY hA R h6 h8 hv V q
end
section
variable{σ:St}
inductive Y7(c:bc)(F:iR)(σ:St)(h':Heap)(i:Nat)(lv':LV):Prop
 | mk (c':bc) (l:Le c c') (R:bQ c' F {σ with loc:=σ.loc.set i (some lv')} h')
theorem bQ.zB (R:bQ c F σ h) {lv lv':LV} {o:Obj} (hl:σ.loc[i]? =some (some lv)) (hv:c.vals i=some (.ref a)) (ta:c.T a=some (.own i,o)) (hc:o'.cls=o.cls) (hs:Heap.SameBut a h h') (ho:h'.get? a=some o')
  (m:ji c (c.put a (.own i) o')->CZ (c.put a (.own i) o') i lv' (.ref a)):Y7 c F σ h' i lv':=
 have x:Ch c (c.put a (.own i) o') (λt=>t=.own i):=Ch.put ta eT
 ⟨_,x.le eT rfl,⟨R.w.low.vy ta eT (.inr ⟨rfl,hc⟩),my R.w.hold hs ho,λb q e=>(x.le eT rfl).bO _ _ (R.w.base b q e),R.w.len,λj M e=>(R.w.jx j M e).ch x (R.w.lt e) eT eT⟩,R.loc.reset x rfl hl λv NW Z=>ae (hv.symm.trans NW)▸m x.gf,R.cv.ch x eT⟩
theorem xg{key:Value}{Q:Unit->Shared->Prop}(ho:s.heap.get? d=some (b9 es n))(h:wpAny aO A.in1 (dictSet d key w) (λZ s=>Q () s) E s):wpAny aO A (setItem (.ref d) key w) Q E s:=by
 have hT:s.TypeIs (.ref d) "dict" :=⟨_,ho,rfl⟩
 unfold setItem
 try with_reducible refine bq ?_
 refine aa (wpAny_sequenceKey hT ∅ (aa (dA (name:=Str.ofString "__setitem__") hT slot_dict_setitem (bJ slot_dict_setitem hT entry_dict_setitem ?_ (args_dict_setitem _ _ _)))));show wpAny _ _ (Builtin.Dict.notOrdered "__setitem__" ⟨[.ref d,key,w],[]⟩>>=_) _ _ s;refine aa (eH hT ?_);show wpAny _ _ (dictSet d key w>>=_) _ _ s;exact aa (wpAny_mono h (λZ s' hq=>aj ⟨.none,rfl,aj hq⟩) λZ Z x=>x)
theorem qj (hu:A.in1.units<cLine) (hold:∀ a t o,c.T a=some (t,o)->s.heap.get? a=some o) {v:V} {key:Value} {Q:Unit->Shared->Prop}
  (ho:s.heap.get? d=some (b9 es n)) (D:iV c l es) (hn:pS l) (hk:ju k l=true) (hs:gS l=true) (hv:VR c k key) (hx:VR c v w)
  (q:∀ h' tk,qg c d (gq k v l) s.heap h'->Q () {s with heap:=h',toks:=tk}):wpAny aO A (setItem (.ref d) key w) Q E s:=
 xg ho (yu hold hu ho D hn hk hs hv hx q)
theorem zC {ns:List Str} {l:List V} {t:Tok} {Q:Unit->Shared->Prop} (ho:s.heap.get? d=some (b9 es n)) (hk:pK es) (hf:lO c ns l es) (hn:ns.Nodup) (hx:ns[j]? =some x) (hj:j<l.length)
  (q:∀ tk,Q () {s with heap:=s.heap.update d (Obj.mapDict λes=>es.modify j λe=>{e with val:=w}),toks:=tk}):wpAny aO A (setItem (.ref d) (.str x t) w) Q E s:=by
 refine xg ho ?_;injection s9 hf hn hx (aP hj)with d' _ h0 _ _;unfold dictSet
 try with_reducible refine bq ?_
 refine aa (wpAny_pyHash_str ?_);unfold dictSetHashed
 try with_reducible refine bq ?_
 refine aa (FV (s:={s with toks:=s.toks+1}) ho hk ?_);rw [h0];exact aa (wpAny_rule (aa (wpAny_updateDict ho rfl (wpAny_point (q (s.toks+1))))))
theorem yB{v:V}(hs:gS l=true):(gq k v l).length<=100000:=af (mD k v l) (cE hs)
theorem zD (hA:iZ F.r A) (hR:bQ c F σ s.heap) {o v:V} {a key:Value} {Q:Unit->Shared->Prop} (h:Dh σ.W o k v=some W') (Vo:VR c o a) (Vk:VR c k key) (Vv:VR c v w)
  (q:∀ c' h' tk,Le c c'->bQ c' F {σ with W:=W'} h'->Q () {s with heap:=h',toks:=tk}):wpAny aO A (setItem a key w) Q E s:=by
 refine aJ h λn hn h2=> ?_;obtain rfl:=CT hn;induction Vo;rcases hw:σ.W[n]? with _ | M
 ·rw [hw] at h2; exact nn h2
 rw [hw] at h2;induction M using Mine.aV.casesOn with
 | dict l=>injection eC h2 with e;refine fb e λe1 e2=> ?_;injection hR.w.jx _ _ hw with es ep t D kn hb;exact qj hA.u1 hR.w.hold (hR.w.hold _ _ _ t) D kn e1 e2 Vk Vv λh' tk hh=>(hR.U5 hw t (yB e2) hh).casesOn λc' l1 R1=>q _ h' tk l1 R1
 | sd ks vs=>
  injection eo h2 with zi h3;induction k using lH with
  | Jw sk=>
   refine aJ h3 λj hj h4=> ?_;injection eC h4 with e;have hjl:=cE e;injection hR.w.jx _ _ hw with es ep t Fe sk' nd;injection Vk with tk;have ho:=hR.w.hold _ _ _ t;refine zC ho sk' Fe nd (sj hj) hjl λlX=> ?_;have e:=(yA es ep (λes=>es.modify j λe=>{e with val:=w})).trans (by rw [List.modify_toArray]);have pW:=(cZ _ ho (by rw [e]; rfl)).trans (av some e);have hsk:pK (es.modify j λe=>{e with val:=w}):=λe he=>by
    refine ag (List.mem_iff_getElem?.mp he) λi hi=> ?_;rw [List.getElem?_modify] at hi;refine ag (bN.mp hi) λe0 z1=>And.elim (λh0 h1=> ?_) z1;refine ag (sk' e0 (cH h0)) λy z1=>ag z1 λtk z2=>And.elim (λk1 k2=> ?_) z2;split at h1 <;> (subst h1; exact ⟨y,tk,k1,k2⟩)
   exact (hR.setG (g:=false) (M':=.sd ks (vs.set j v)) hw t (o':=b9 (es.modify j λe=>{e with val:=w}) ep) rfl (dz ..) pW λlv=>⟨_,ep,aF ..,CV (lO.mono lv _ _ _ Fe) (VR.mono lv _ _ Vv),hsk,nd⟩).casesOn λc' l1 R1=>q _ _ lX l1 R1
  | _=>exact nn h3
 | _=>exact nn h2
end
def qO:Expr->Bool
 | .ListComp .. =>false
 | .SetComp .. =>false
 | .DictComp .. =>false
 | _=>true
def HA:Expr->Bool
 | .Call .. =>true
 | _=>false
section
variable{σ:St}{o j:Expr}{r:Out×St}
theorem ue{t:Option Expr}(h:qO e=true):swapsWith e t line env=pure false:=by induction e using ny <;> first | rfl | exact (Bool.noConfusion h)
theorem zo{a:Str}:swapsWith e (some (.Attribute o a p)) line env=pure false:=by induction e using ny <;> rfl
theorem ud{i:Expr}:swapsWith e (some (.Subscript o i p)) line env=pure false:=by induction e using ny <;> rfl
theorem pF{es:List Expr}{a:Nat}:swapsWith e (some (.Tuple es a p)) line env=pure false:=by induction e using ny <;> rfl
theorem rV(ek:cM F):interactive F.env=false:=by unfold interactive; rw [ek.kind]; rfl
theorem GU{v:V}(V:VR c v w)(h:GV v=true):Hy w=false:=by
 induction v using lH with
 | none=>obtain rfl:=V; rfl
 | bool b=>obtain rfl:=V; rfl
 | int i=>induction V; rfl
 | bytes b=>induction V; rfl
 | _=>exact (Bool.noConfusion h)
theorem vA{l:List V}(h:zX σ i=some l):σ.loc[i]? =some (some (.ol l)):=(Hg h).elim λlv h=>by
 obtain ⟨h,e⟩:=h;induction lv using Mine.LV.casesOn with
 | ol m=>exact ae e▸h
 | _=>exact nn e
theorem zY(h:Qd σ i=some l):σ.loc[i]? =some (some (.od l)):=(Hg h).elim λlv h=>by
 obtain ⟨h,e⟩:=h;induction lv using Mine.LV.casesOn with
 | od m=>exact ae e▸h
 | _=>exact nn e
theorem vk{x:Option α}(h:x.isSome=true):∃ a,x=some a:=f6.mp h
theorem BY (ek:cM F) {n:Str} {lv:LV} (hR:bQ c F σ s.heap) (hx:eP F.k n=some i) (hl:σ.loc[i]? =some (some lv)) (hd:fQ n=true)
  (q:∀ v,c.vals i=some v->CZ c i lv v->Q v s):wpAny aO A (eval (.Name n p) F.env) Q E s:=
 wpAny_Name (BX ek hR ((Bw hx).casesOn λhc b=>b.casesOn (λe=>.loc e hc) λe=>.cell e (.inl hc)) hl q) (jm hd)
inductive EC(σ:St)(i:Nat)(lv:LV):Out×St->Prop
 | mk (σ':St) (h:zA σ i lv=some σ'):EC σ i lv (.ez,σ')
theorem pM{lv:LV}(h:vv bT i lv σ=some r):EC σ i lv r:=(eY h).casesOn λσ' h1 h2=>ae h2▸⟨σ',h1⟩
theorem rk (ek:cM F) {n:Str} {lv:LV} {Q:Flow->Shared->Prop} (hx:eP F.k n=some i) (hs:EC σ i lv r) (hR:bQ c F σ s.heap) (l:Lw c₀ c) (lr:CZ c i lv w)
  (q:∀ c' h' tk fl,Lw c₀ c'->bQ c' F r.2 h'->Zr c' r.1 fl->Q fl {s with heap:=h',toks:=tk}):wpAny aO A (storeName F.env n w) (λZ s=>Q .next s) E s:=by
 induction hs with | mk σ' hs=>exact vi ek hx hs hR lr λc' h' tk x R=>q c' h' tk _ (l.trans (x.lw rn)) R rfl
variable{ev eE:gr->Expr->St->Option (V×St)}(H:∀ {e σ p},ev F.k e σ=some p->GX F e σ p)(HL:∀ {elt gens sc pos σ p},ev F.k (.ListComp elt gens sc pos) σ=some p->EP F (.ListComp elt gens sc pos) sc gens σ p){ex sr:List Stmt->St->Option (Out×St)}
theorem EX{x:Option α}{a:α}(h:(bif b then x else bT.fail)=some a):b=true/\x=some a:=iG h (λh1 h2=>⟨h1,h2⟩) λZ h=>nn h
theorem xR(h:HA e=true):qO e=true:=by induction e using ny <;> first | rfl | exact (Bool.noConfusion h)
include H
theorem aaE(ek:cM F)(hc:HA e=true)(h:gu bT (ev F.k) (eE F.k) F.k ex sr (.exp e) σ=some r):SX F (.Expr e pos) σ r:=by
 refine (eY h).casesOn λp hp h2=> ?_;obtain ⟨h3,h4⟩:=EX h2;obtain rfl:=ae h4;exact λA c s Q E hA hR q=>wpAny_Expr ((H hp).se A c s _ _ hA hR λc' h' tk w l R V=>by
  have:=GU V h3;induction w <;> first | exact q c' h' tk _ l.toLw R rfl | exact (Bool.noConfusion this)) (rV ek) (ue (xR hc))
theorem BJ (ek:cM F) {n:Str} {id:String} {a:Expr} {K3 l:List V} {u:V×St} (sl:Slot "list" (et f) id) (ty:typeOf (.builtin id)=pure (.type "method_descriptor")) (hx:eP F.k n=some i) (hd:fQ n=true) (hs:notStar a=true) (j7:(ap.endLine==cp.line)=true) (h0:zX σ i=some K3) (hu:ev F.k a σ=some u) (hl:zX u.2 i=some l)
  (hA:iZ F.r A) (hR:bQ c F σ s.heap) (q:∀ aX aS tk d vs m w,Le c aX->bQ aX F u.2 aS->aX.vals i=some (.ref d)->aX.T d=some (.own i,dQ vs m)->dw aX l vs->VR aX u.1 w->wpAny aO A (call (.builtin id) [.ref d,w]) Q E {s with heap:=aS,toks:=tk}):
  wpAny aO A (eval (.Call (.Attribute (.Name n p) (et f) ap) [a] [] cp) F.env) Q E s:=by
 rw [ir rfl];have pV: [a].all notStar=true:=by rw [List.all_cons,hs]; rfl
 refine aa (BY ek hR hx (vA h0) hd λw hw lr=>aa (de (ip pV (show 1<30 by decide) j7 λpl=> ?_)));injection lr with d vs m td S hb;refine getMethod_builtin ⟨_,hR.w.hold _ _ _ td,rfl⟩ PySem.F.plainAttrs_list sl ty (λa e=>Value.ref.inj e▸⟨_,hR.w.hold _ _ _ td,rfl⟩) ?_;have ha:su bT (ev F.k) [a] σ=some ([u.1],u.2):=by rw [Cy]; rw [hu]; rfl
 refine eB (Pp:=λZ=>True) pV (λh Z=>gm rfl h) (qF H pV ha A c _ _ _ hA hR λaX aS dh ws cV cy eS=>⟨trivial,?_⟩);have NU:aX.vals i=some (.ref d):=cV.vals▸hw;injection cy.loc.vals i _ (vA hl)with w' QM lr;obtain rfl:=ae (NU.symm.trans QM);obtain ⟨d',zi,m',ZH,S',DP⟩:=lr;exact (lL rfl eS).casesOn (motive:=λws Z=>wpAny aO A (call (.builtin id) ([.ref d]++ws)) Q E _) λw V=>q aX aS dh d zi m' w cV cy NU ZH S' V
omit H in
theorem Oc{f:List V->Option (List V)}(h:yj bT i f σ=some r):∃ l m,zX σ i=some l/\f l=some m/\EC σ i (.ol m) r:=(eY h).casesOn λl h1 h2=>(eY h2).casesOn λm h3 h4=>⟨l,m,h1,h3,pM h4⟩
omit H in
theorem ru{lv lv':LV}(hs:EC σ i lv' r)(o:Y7 c F σ h' i lv'){Q:Flow->Shared->Prop}(l:Lw c₀ c)(q:∀ c' h' tk fl,Lw c₀ c'->bQ c' F r.2 h'->Zr c' r.1 fl->Q fl {s with heap:=h',toks:=tk}):Q .next {s with heap:=h',toks:=tk}:=by injection hs with σ' hs;injection eC hs with _;exact o.casesOn λc' l' R'=>q c' h' tk _ (l.trans l'.toLw) R' rfl
theorem aaG(ek:cM F){n:Str}(hx:eP F.k n=some i)(hd:fQ n=true)(hs:notStar e=true)(j7:(ap.endLine==cp.line)=true)(h:gu bT (ev F.k) (eE F.k) F.k ex sr (.app i e) σ=some r):
  SX F (.Expr (.Call (.Attribute (.Name n p) (et 61) ap) [e] [] cp) pos) σ r:=λA c s Q E hA hR q=>by
 obtain ⟨h0,h⟩:=EX h;obtain ⟨K3,h0⟩:=vk h0;refine (eY h).casesOn λu hu h2=> ?_;obtain ⟨l,m,hl,hm,HG⟩:=Oc h2;injection eC hm with za;refine wpAny_Expr (BJ H ek slot_list_append PySem.F.type_list_append hx hd hs j7 h0 hu hl hA hR λaX aS tk d vs k w cV cy hw td S V=> ?_) (rV ek) rfl;refine wpAny_list_append_plain (items:=vs.toArray) ⟨k,cy.w.hold _ _ _ td⟩ (λh' N0 pV=> ?_) (by rw [aM,<-aY S]; exact af (bV (cE za)) ∅);obtain ⟨n',pW⟩:=N0;rw [List.push_toArray] at pW;exact ru (lv:=.ol l) HG (cy.zB (lv':=.ol (l++ [u.1])) (vA hl) hw td (o':=dQ (vs++ [w]) n') rfl pV pW λlv=>⟨d,_,n',aF ..,eZ (dw.mono lv _ _ S) ⟨_,[],VR.mono lv _ _ V,rfl⟩,by rw [aQ]; exact cE za⟩) cV.toLw q
theorem aaD(ek:cM F){n:Str}(hx:eP F.k n=some i)(hd:fQ n=true)(hs:notStar e=true)(j7:(ap.endLine==cp.line)=true)(h:gu bT (ev F.k) (eE F.k) F.k ex sr (.ext i e) σ=some r):
  SX F (.Expr (.Call (.Attribute (.Name n p) (et 62) ap) [e] [] cp) pos) σ r:=λA c s Q E hA hR q=>by
 obtain ⟨h0,h⟩:=EX h;obtain ⟨K3,h0⟩:=vk h0;refine (eY h).casesOn λu hu h2=>(eY h2).casesOn λx hx2 h3=> ?_;obtain ⟨l,m,hl,hm,HG⟩:=Oc h3;injection eC hm with za;refine wpAny_Expr (BJ H ek PySem.F.slot_list_extend PySem.F.type_list_extend hx hd hs j7 h0 hu hl hA hR λaX aS tk d vs k w cV cy hw td S V=> ?_) (rV ek) rfl;rw [kP hx2] at V;injection V with b Na n2 tb S2 _;have ho:=cy.w.hold _ _ _ td;have z:vs.toArray.size+Na.toArray.size<=sizeLine:=fits za ((aY S).trans aM.symm) ((aY S2).trans aM.symm) ∅;refine call_meets (s:={s with heap:=aS,toks:=tk}) PySem.F.slot_list_extend ⟨_,ho,rfl⟩ PySem.F.entry_list_extend (PySem.F.args_list_extend_2 _ _) (PySem.AutoSeq1.list_extend_list_list_0 d vs.toArray k b Na.toArray n2 (extend_door z) (af (aB _ _) z) (bz z)) ⟨ho,cy.w.hold _ _ _ tb,?_⟩;obtain ⟨n',pW⟩:∃ n',(aS.update d (Obj.mapSeq λx=>x++Na.toArray)).get? d=some (dQ (vs++Na) n'):=⟨_,(get?_update_seq ho (λx=>x++Na.toArray)).trans (by rw [List.append_toArray])⟩
 exact ru (lv:=.ol l) (s:={s with heap:=aS}) HG (cy.zB (lv':=.ol (l++x)) (vA hl) hw td (o':=dQ (vs++Na) n') rfl (dz ..) pW λlv=>⟨d,_,n',aF ..,eZ (dw.mono lv _ _ S) (dw.mono lv _ _ S2),LQ za⟩) cV.toLw q
end
section
variable{σ:St}{o j:Expr}{r:Out×St}
theorem We{C:Addr}{res:List V}{c₀:bc}(Th:F.k.zd=[])(R:Jr c F σ res h' D C)(q:∀ Ei qq,Le c Ei->bQ Ei F σ qq->VR Ei (.lst res) (.ref D)->Q (.ref D) {s with heap:=qq,toks:=tk}):compPost aO A E none Q (.ref D) C (.ok .next) {s with heap:=h',toks:=tk}:=
 R.casesOn λc' o m l R V hC n=>⟨m,n.ns (R.w.hold _ _ _ hC),λqq hs=>have⟨l',R'⟩:=R.Yq hC Th hs; q _ qq (l.trans l') R' (VR.mono l'.toji _ _ V)⟩
theorem EP.se{p:V×St}(ek:cM F)(h:EP F (.ListComp elt gens sc pos) sc gens σ p):GX F (.ListComp elt gens sc pos) σ p:=by injection h with l σ' hfa hk h;refine .of (λA c s Q E hA hR q=> ?_) rfl;rw [eval_ListComp,hfa];exact h A c s E none Q _ hA hR λh' tk D C R=>We (c₀:=c) (ek.YL hk) R λEi qq l' R' V'=>q Ei qq tk _ l' R' V'
variable{ev eE:gr->Expr->St->Option (V×St)}{ex sr:List Stmt->St->Option (Out×St)}
theorem aej(ek:cM F){lp:Pos}{n:Str}{u:V×St}(h:EP F (.ListComp elt gens sc lp) sc gens σ u)(hx:eP F.k n=some i)(hs:EC u.2 i (.v u.1) r):SX F (.Assign [.Name n p] (.ListComp elt gens sc lp) pos) σ r:=λA c s Q E hA hR q=>by
 induction hsw:(F.env.blockKind== .function&&F.env.kindOf n==some .local&&p.line==lp.line&& !(sc.names.any λ(m,q)=>m==n&&(q== .local||q== .cell)))using eK with
 | false=>
  have e:swapsWith (.ListComp elt gens sc lp) (some (.Name n p)) pos.line F.env=pure false:=by rw [<-hsw]; rfl
  exact wpAny_Assign_Name ((h.se ek).se A c s _ _ hA hR λaX aS dh w cV cy eS=>rk (s:={s with heap:=aS,toks:=dh}) ek hx hs cy cV.toLw eS q) e
 | true=>
  have e:swapsWith (.ListComp elt gens sc lp) (some (.Name n p)) pos.line F.env=pure true:=by rw [<-hsw]; rfl
  injection h with l σ' hfa hk h;rw [exec_Assign_Name_used _ _ _ _ e];refine aa (de (aa ?_));show wpAny _ A (do let _<-comprehension (.ListComp elt gens sc lp) sc F.env (firstIterPos gens lp) (newList []) (firstAsync gens) (firstIter gens F.env) (some (assign (.Name n p) F.env))) _ _ s;rw [hfa];refine aa (wpAny_mono (h A c s E (some (assign (.Name n p) F.env)) (λZ s'=>Q .next s') _ hA hR λaS tk D C R=> ?_) (λZ s' hq=>aj (aj hq)) λZ Z e=>e);injection R with aX o m cV cy eS hC hn;injection hs with agw hs;show wpAny aO A (assign (.Name n p) F.env (.ref D)) _ E _;refine wpAny_assign_Name (vi (s:={s with heap:=aS,toks:=tk}) ek hx hs cy eS λdg eG fG TA du=> ?_);have N5:dg.T C=some (.nq,o):=TA.keep _ _ _ hC (Nu rfl rfl);exact ⟨m,hn.ns (du.w.hold _ _ _ N5),λgR uC=>have⟨kh,gI⟩:=du.Yq N5 (ek.YL hk) uC; q _ gR fG _ ((cV.toLw.trans (TA.lw rn)).trans kh.toLw) gI rfl⟩
inductive Y6(σ:St)(o:Option (List aV)):Out×St->Prop
 | mk (W:List aV) (h:o=some W):Y6 σ o (.ez,{σ with W:=W})
theorem zS{o:Option (List aV)}(h:Dr bT o σ=some r):Y6 σ o r:=aJ h λW h1 h2=>ae h2▸⟨W,h1⟩
variable(H:∀ {e σ p},ev F.k e σ=some p->GX F e σ p)(HL:∀ {elt gens sc pos σ p},ev F.k (.ListComp elt gens sc pos) σ=some p->EP F (.ListComp elt gens sc pos) sc gens σ p)
theorem I2{k:gr}(h:qO e=false)(hb:vw k e≠ .bad):∃ elt gens sc pos,e=.ListComp elt gens sc pos:=by
 induction e using ny with
 | ListComp a b c d=>exact ⟨a,b,c,d,rfl⟩
 | SetComp=>exact absurd rfl hb
 | DictComp=>exact absurd rfl hb
 | _=>exact (Bool.noConfusion h)
include H HL
theorem TC(ek:cM F)(hb:∀ {e σ p},ev F.k e σ=some p->vw F.k e≠ .bad){n:Str}(hx:eP F.k n=some i)(h:gu bT (ev F.k) (eE F.k) F.k ex sr (.Es i e) σ=some r):SX F (.Assign [.Name n p] e pos) σ r:=by
 refine aJ h λu hu h2=> ?_;have hs:=pM h2;induction hc:qO e using eK with
 | true=>exact λA c s Q E hA hR q=>wpAny_Assign_Name ((H hu).se A c s _ _ hA hR λaX aS dh w cV cy eS=>rk (s:={s with heap:=aS,toks:=dh}) ek hx hs cy cV.toLw eS q) (ue hc)
 | false=>refine ag (I2 hc (hb hu)) λelt z1=>ag z1 λgens z2=>ag z2 λsc z3=>ag z3 λlp z4=> ?_;obtain rfl:=z4;exact aej ek (HL hu) hx hs
omit HL
theorem TK(ek:cM F){n:Str}{pl:Pos}{es:List Expr}(hx:eP F.k n=some i)(hn:(es.all notStar&&decide (es.length<=100))=true)(h:gu bT (ev F.k) (eE F.k) F.k ex sr (.Mz i es) σ=some r):SX F (.Assign [.Name n p] (.List es pl) pos) σ r:=λA c s Q E hA hR q=>by
 refine aJ h λu hu h2=> ?_;have b:u.1.length<=100000:=af (qX hu▸cE (aW hn).2) ∅;exact wpAny_Assign_Name (PySem.wpAny_List (qF H (aW hn).1 hu A c s _ _ hA hR λaX aS dh ws cV cy eS=>⟨g7 eS b,have dB:=cy.gw (.own i) (dQ ws 0)
  rk (s:={s with heap:=aS.push (dQ ws 0),toks:=dh}) ek hx (pM h2) (cy.alloc (.own i) (dQ ws 0) rfl) (cV.trans dB).toLw ⟨_,ws,0,aF ..,dw.mono dB.toji _ _ eS,b⟩ q⟩)) rfl
omit H in
theorem TM(ek:cM F){n:Str}{pl:Pos}(hx:eP F.k n=some i)(h:gu bT (ev F.k) (eE F.k) F.k ex sr (.MA i) σ=some r):SX F (.Assign [.Name n p] (.Dict [] [] pl) pos) σ r:=λA c s Q E hA hR q=>
 wpAny_Assign_Name (wpAny_Dict_empty (rk (s:={s with heap:=s.heap.push (b9 [] 0)}) ek hx (pM h) (hR.alloc (.own i) (b9 [] 0) rfl) (hR.gw (.own i) (b9 [] 0)).toLw ⟨_,[],0,aF ..,rfl,List.Pairwise.nil,bw _⟩ q)) rfl
theorem TH(ek:cM F){n:Str}{xn zQ zP sp:Pos}{kk:Nat}(hx:eP F.k n=some i)(h:gu bT (ev F.k) (eE F.k) F.k ex sr (.Mx i e) σ=some r):
  SX F (.Assign [.Name n p] (.Subscript e (.Slice none none (some (.UnaryOp .USub (.Constant (.int 1) kk zQ) zP)) xn) sp) pos) σ r:=λA c s Q E hA hR q=>by
 refine aJ h λu hu h2=>aJ h2 λl hl h3=> ?_;have se:SE F (.Subscript e (.Slice none none (some (.UnaryOp .USub (.Constant (.int 1) kk zQ) zP)) xn) sp) σ (.glob u.2.W.length) {u.2 with W:=u.2.W++ [.list l.reverse]}:=λA c s Q E hA hR q=>Vm H hA hR hu hl q λaX cU vs cy S b q=>jP.glob q (cy.Ny (M:=.list l.reverse) rfl λc' lv t=>⟨vs,0,t,dw.mono lv _ _ S,b⟩);exact wpAny_Assign_Name (se A c s _ _ hA hR λaX aS dh w cV cy eS=>rk (s:={s with heap:=aS,toks:=dh}) ek hx (pM h3) cy cV.toLw eS q) rfl
theorem TN(ko:lT)(h:gu bT (ev F.k) (eE F.k) F.k ex sr (.MB o f e) σ=some r):SX F (.Assign [.Attribute o (et f) p] e pos) σ r:=λA c s Q E hA hR q=>by
 refine aJ h λu hu h2=>aJ h2 λv hv h3=> ?_;injection zS h3 with W hW;exact plainObj_wpAny_Assign_Attribute ((H hu).se A c s _ _ hA hR λaX aS dh w cV cy eS=>(H hv).se A aX {s with heap:=aS,toks:=dh} _ _ hA cy λdg eG fG a dB du fh=>
  rv (s:={s with heap:=eG,toks:=fG}) ko du hW fh (VR.mono dB.toji _ _ eS) λc' h' tk l R=>q c' h' tk _ ((cV.trans dB).trans l).toLw R rfl) zo
theorem M0{u v w:V×St}(hu:ev F.k e σ=some u)(hv:ev F.k o u.2=some v)(hw:ev F.k j v.2=some w)(hW:Dh w.2.W v.1 w.1 u.1=some W):SX F (.Assign [.Subscript o j p] e pos) σ (.ez,{w.2 with W:=W}):=λA c s Q E hA hR q=>
 wpAny_Assign_Subscript ((H hu).se A c s _ _ hA hR λaX aS dh w cV cy eS=>(H hv).se A aX {s with heap:=aS,toks:=dh} _ _ hA cy λdg eG fG a dB du fh=>(H hw).se A dg {s with heap:=eG,toks:=fG} _ _ hA du λkJ gR lJ key kh gI s8=>
  zD (s:={s with heap:=gR,toks:=lJ}) hA gI hW (VR.mono kh.toji _ _ fh) s8 (VR.mono (dB.trans kh).toji _ _ eS) λc' h' tk l R=>q c' h' tk _ (((cV.trans dB).trans kh).trans l).toLw R rfl) ud
theorem TJ(ek:cM F){n:Str}{sp:Pos}(hx:eP F.k n=some i)(hd:fQ n=true)(h:gu bT (ev F.k) (eE F.k) F.k ex sr (.My i (.Name n p) j e) σ=some r):SX F (.Assign [.Subscript (.Name n p) j sp] e pos) σ r:=by
 refine aJ h λu hu h2=>iG h2 (λh0 h3=> ?_) λZ h3=>aJ h3 λv hv h4=>aJ h4 λw hw h5=> ?_
 ·refine aJ h3 λw hw h4=>aJ h4 λl hl h5=>aJ h5 λZ hg h6=> ?_;refine ag (vk h0) λK3 h0=> ?_;refine fb (H6 hg) λhk HF=> ?_;have HG:=pM h6;refine λA c s Q E hA hR q=>wpAny_Assign_Subscript ((H hu).se A c s _ _ hA hR λaX aS dh x cV cy eS=>BY (s:={s with heap:=aS,toks:=dh}) ek cy hx (zY h0) hd λy hy lr=>(H hw).se A aX {s with heap:=aS,toks:=dh} _ _ hA cy λdg eG fG key dB du fh=> ?_) ud;injection lr with d es m td D kn hb;have NT:dg.vals i=some (.ref d):=dB.vals▸hy;injection du.loc.vals i _ (zY hl)with w' QM lr;obtain rfl:=ae (NT.symm.trans QM);obtain ⟨d',JF,m',ZH,D',kn',DP⟩:=lr;refine qj (s:={s with heap:=eG,toks:=fG}) hA.u1 du.w.hold (du.w.hold _ _ _ ZH) D' kn' hk HF fh (VR.mono dB.toji _ _ eS) λh' tk hh=> ?_;refine ag hh λYm z1=>ag z1 λn2 z2=>And.elim (λwI z3=>And.elim (λD2 z4=>And.elim (λZS WY=> ?_) z4) z3) z2;exact ru (lv:=.od l) HG (du.zB (lv':=.od (gq w.1 u.1 l)) (zY hl) NT ZH (o':=b9 Ym n2) rfl WY wI λlv=>⟨d,Ym,n2,aF ..,iV.mono lv _ _ D2,ZS,yB HF⟩) (cV.trans dB).toLw q
 ·induction zS h5 with | mk W hW=>exact M0 H hu hv hw hW
theorem aaz(ek:cM F){is:List Nat}{es:List Expr}{a:Nat}(ht:wV e=none)(tK:vF (pO (eP F.k)) es=some is)(h:gu bT (ev F.k) (eE F.k) F.k ex sr (.ZE is e) σ=some r):SX F (.Assign [.Tuple es a p] e pos) σ r:=by refine aJ h λu hu h2=>aJ h2 λσ' hs h3=> ?_;obtain rfl:=ae h3;refine λA c s Q E hA hR q=>wpAny_Assign_stores ((H hu).se A c s _ _ hA hR λaX aS dh w cV cy eS=> ?_) (show swapsWith e (some (.Tuple es a p)) pos.line F.env=pure false from pF) (by induction e using ny <;> first | rfl | exact nn ht.symm);show wpAny _ _ (assign (.Tuple es a p) F.env w) _ _ _;exact sU (s:={s with heap:=aS,toks:=dh}) (t:=.many is) (UZ ek) hA (.many _ _ _ _ tK) cy (.val eS) hs λc' h' tk x' R'=>q c' h' tk _ (cV.toLw.trans x') R' rfl
variable(HX:∀ {b σ p},ex b σ=some p->OL F b σ p)
include HX
theorem aaB{xs ys:List Stmt}(h:gu bT (ev F.k) (eE F.k) F.k ex sr (.ite e xs ys) σ=some r):SX F (.If e xs ys pos) σ r:=by
 refine aJ h λu hu h2=>aJ h2 λb hb h3=> ?_;have st:=(H hu).st b (lN hb);refine λA c s Q E hA hR q=>wpAny_If (st A c s _ _ hA hR λaX aS dh b' cV cy hb=> ?_);subst hb;induction b' using eK with
 | true=>exact HX h3 A aX {s with heap:=aS,toks:=dh} _ _ hA cy λc' h' tk fl l R F=>q c' h' tk fl (cV.toLw.trans l) R F
 | false=>exact HX h3 A aX {s with heap:=aS,toks:=dh} _ _ hA cy λc' h' tk fl l R F=>q c' h' tk fl (cV.toLw.trans l) R F
inductive WhI(F:iR)(s:Shared)(c:bc)(f:Mine.St->Option (V×Mine.St))(g:Mine.St->Option (Out×Mine.St))(r:Out×Mine.St)(n:Nat):Shared->Prop
 | mk (aX:bc) (cg:Mine.St) (aS:Heap) (tk:Nat) (l:Lw c aX) (R:bQ aX F cg aS) (h:nF bT f g n cg=some r):WhI F s c f g r n {s with heap:=aS,toks:=tk}
theorem aay{bs:List Stmt}(hq:sr bs=ex bs)(he:eE F.k e=ev F.k e)(h:gu bT (ev F.k) (eE F.k) F.k ex sr (.ZC e bs) σ=some r):SX F (.While e bs [] pos) σ r:=λA c s Q E hA hR q=>by
 refine wpAny_While (codeAny_whileLoop (WhI F s c (ev F.k e) (ex bs) r) ?_ 64 ⟨c,σ,s.heap,s.toks,Lw.refl c,hR,h⟩);intro m s' hI;injection hI with aX cg aS dh cV cy hw;induction m using oF with
 | zero=>exact nn hw
 | succ m=>
  refine aJ hw λu hu h2=>aJ h2 λb hb h3=> ?_;refine (H hu).st b (lN hb) A aX {s with heap:=aS,toks:=dh} _ _ hA cy λdg eG fG b' dB du DP=> ?_;subst DP;have dB:=cV.trans dB.toLw;induction b' using eK with
  | false=>obtain rfl:=ae h3;exact wpAny_execs_nil (q dg eG fG _ dB du rfl)
  | true=>
   refine aJ h3 λv hg h4=>HX hg A dg {s with heap:=eG,toks:=fG} _ _ hA du λkJ gR lJ fl kh gI Zo=> ?_;obtain ⟨P8,MX⟩:=v;induction P8 using Mine.Out.casesOn with
   | ez=>obtain rfl:=Zo;exact ⟨m,Nat.lt_succ_self _,kJ,MX,gR,lJ,dB.trans kh,gI,h4⟩
   | ret x=>obtain rfl:=ae h4;induction Zo with | mk w V=>exact q kJ gR lJ _ (dB.trans kh) gI ⟨w,V⟩
theorem aaC(ko:lT)(ek:cM F){t:Tg}{it:Expr}{bs:List Stmt}(hq:sr bs=ex bs)(tK:rh (eP F.k) te=some t)(hf:∀ x,foldedSetIterable it F.env x=pure x)(h:gu bT (ev F.k) (eE F.k) F.k ex sr (.for t it bs) σ=some r):SX F (.For te it bs [] pos) σ r:=by
 refine And.elim (λht h=> ?_) (EX h);refine aJ h λu hu h2=>aJ h2 λv hv h3=> ?_;obtain rfl:=ae h3;refine λA c s Q E hA hR q=>wpAny_For (LM H ko ek (Nd tK) ht hu A c s _ _ hA hR λaS dh I S=> ?_) hf;injection S with aX cV cy yT Jt;refine Ib (s:={s with heap:=aS,toks:=dh}) ek hA (Nd tK) (λσ p h=>HX h) yT cy hv λdg eG fG fl dB du Zp=> ?_;have up:∀ a o,c.T a=some (.bO,o)->dg.T a=some (.bO,o):=λa o e=>dB.bO _ _ (cV.bO _ _ e);injection hR.w.low.up with A0 vt rX tN;injection Jt.give dB.toji (λa o e Z=>dB.bO a o e) ⟨A0,vt,vt,rX,tN,up _ _ tN⟩ du with kJ x3 b3 v3 gI;refine q kJ eG fG fl ⟨(cV.toji.trans dB.toji).trans x3.gf,λa o e=>b3 a o (.inl ⟨_,e⟩) (up a o e)⟩ gI ?_;obtain ⟨abO,fN⟩:=v;induction abO using Mine.Out.casesOn with
 | ez=>exact Zp
 | ret x=>induction Zp with | mk w V=>exact ⟨w,VR.mono x3.gf _ _ V⟩
omit HX
theorem aaA(h:gu bT (ev F.k) (eE F.k) F.k ex sr (.ret e) σ=some r):SX F (.Return (some e) pos) σ r:=by refine aJ h λu hu h2=> ?_;obtain rfl:=ae h2;exact λA c s Q E hA hR q=>wpAny_Return_some ((H hu).se A c s _ _ hA hR λc' h' tk w l R V=>q c' h' tk _ l.toLw R ⟨w,V⟩)
omit H
theorem TB(h:gu bT (ev F.k) (eE F.k) F.k ex sr .Kr σ=some r):SX F (.Return none pos) σ r:=by obtain rfl:=ae h;exact λA c s Q E hA hR q=>wpAny_Return_none (q c s.heap s.toks _ (Lw.refl c) hR ⟨.none,rfl⟩)
theorem aaF{st:Stmt->St->Option (Out×St)}(h:∀ {s σ p},st s σ=some p->SX F s σ p){b:List Stmt}:∀ {σ:St} {p:Out×St},Tq bT st b σ=some p->OL F b σ p:=by
 induction b with
 | nil=>intro σ p e;obtain rfl:=ae e;exact λA c s Q E hA hR q=>wpAny_execs_nil (q c s.heap s.toks .next (Lw.refl c) hR rfl)
 | cons t b ih=>
  intro σ p e;refine aJ e λu hu h2=> ?_;have X:=h hu;obtain ⟨o,σ'⟩:=u;induction o using Mine.Out.casesOn with
  | ez=>exact λA c s Q E hA hR q=>fP (X A c s _ _ hA hR λaX aS dh fl cV cy SJ=>by
    obtain rfl:=SJ;exact ih h2 A aX {s with heap:=aS,toks:=dh} _ _ hA cy λc' h' tk fl l R F=>q c' h' tk fl (cV.trans l) R F)
  | ret v=>
   obtain rfl:=ae h2;exact λA c s Q E hA hR q=>fP (X A c s _ _ hA hR λaX aS dh fl cV cy SJ=>by
    induction SJ with | mk w V=>exact q aX aS dh _ cV cy ⟨w,V⟩)
end
section
variable{σ σ':St}{aS:Heap}
inductive tT(c₀ c:bc):LV->Value->Prop
 | v (x:V) (w:Value) (V:VR c x w):tT c₀ c (.v x) w
 | ol (l:List V) (a:Addr) (vs:List Value) (n:Nat) (t:c.T a=some (.bO,dQ vs n)) (S:dw c l vs) (b:l.length<=100000) (f:∀ o,c₀.T a≠some (.bO,o)):tT c₀ c (.ol l) (.ref a)
 | od (l:List (V×V)) (a:Addr) (es:List DictEntry) (n:Nat) (t:c.T a=some (.bO,b9 es n)) (D:iV c l es) (kn:pS l) (b:l.length<=100000) (f:∀ o,c₀.T a≠some (.bO,o)) (hs:a≠sysModules):tT c₀ c (.od l) (.ref a)
def jY:LV->Bool
 | .v _=>false
 | .ol _=>true
 | .od _=>true
inductive iX(c₀ c:bc):List LV->List Value->Prop
 | nil:iX c₀ c [] []
 | cons {l:LV} {ls:List LV} {w:Value} {ws:List Value} (h:tT c₀ c l w) (t:iX c₀ c ls ws):iX c₀ c (l::ls) (w::ws)
theorem tT.mono{lv:LV}(l:ji c c')(hb:jY lv=true->∀ a o,c.T a=some (.bO,o)->c'.T a=some (.bO,o))(h:tT c₀ c lv w):tT c₀ c' lv w:=by
 induction h with
 | v x w V=>exact .v x w (VR.mono l _ _ V)
 | ol m a vs n t S b f=>exact .ol m a vs n (hb rfl _ _ t) (dw.mono l _ _ S) b f
 | od m a es n t D kn b f hs=>exact .od m a es n (hb rfl _ _ t) (iV.mono l _ _ D) kn b f hs
theorem iX.mono(l:ji c c')(h:iX c₀ c ls ws):(ls.any jY=true->∀ a o,c.T a=some (.bO,o)->c'.T a=some (.bO,o))->iX c₀ c' ls ws:=by
 induction h with
 | nil=>exact λZ=>.nil
 | cons h t ih=>exact λhb=>.cons (h.mono l λho=>hb (by rw [List.any_cons,ho]; rfl)) (ih λho=>hb (by rw [List.any_cons,ho,Bool.or_true]))
theorem iX.length(h:iX c₀ c ls ws):ls.length=ws.length:=by
 induction h with
 | nil=>rfl
 | cons _ _ ih=>exact av (· +1) ih
theorem iX.append{ms:List LV}{us:List Value}(h:iX c₀ c ls ws)(h':iX c₀ c ms us):iX c₀ c (ls++ms) (ws++us):=by
 induction h with
 | nil=>exact h'
 | cons h _ ih=>exact .cons h ih
theorem iX.reverse(h:iX c₀ c ls ws):iX c₀ c ls.reverse ws.reverse:=by
 induction h with
 | nil=>exact .nil
 | cons h _ ih=>rw [List.reverse_cons,List.reverse_cons]; exact ih.append (.cons h .nil)
inductive Zm(c₀ c:bc)(F:iR)(σ:St)(h:Heap)(i:Nat)(lv:LV)(w:Value):Prop
 | mk (c':bc) (l:ji c c') (lw:Lw c₀ c') (same:jY lv=false->c'=c) (R:bQ c' F σ h) (r:CZ c' i lv w)
theorem bQ.give(tf:dp c₀ A3 aS)(l:Lw c₀ c)(R:bQ c F σ h){lv:LV}(hp:tT c₀ c lv w):Zm c₀ c F σ h i lv w:=by
 have key:∀ (a:Addr) (o:Obj),c.T a=some (.bO,o)->(∀ o,c₀.T a≠some (.bO,o))->(o.cls=.type "dict" ->a≠sysModules)->ji c (c.put a (.own i) o)/\Lw c₀ (c.put a (.own i) o)/\bQ (c.put a (.own i) o) F σ h:=by
  intro a o t f hs;have x:Ch c (c.put a (.own i) o) (λu=>u=.bO):=Ch.put t eT;have lw:Lw c₀ (c.put a (.own i) o):=⟨l.toji.trans x.gf,λb o' e=>(bY _ _ _ λq:b=a=>f o' (q▸e)).trans (l.bO b o' e)⟩
  exact ⟨x.gf,lw,⟨⟨tf.low.up.casesOn λb o' hb e=>⟨b,o',hb,lw.bO _ _ e⟩,λt' o' e hc=>(cm e).elim (λq=>absurd q.1.symm (hs (q.2.2▸hc))) λq=>R.w.low.sys t' o' q.2 hc⟩,λb u q e=>(cm e).elim (λq=>q.1▸q.2.2▸R.w.hold _ _ _ t) λq=>R.w.hold _ _ _ q.2,λb o' e=>lw.bO _ _ (tf.base b o' e),R.w.len,λm M e=>(R.w.jx m M e).ch x (R.w.lt e) eT eT⟩,
   R.loc.ch x rfl eT (λZ=>eT) (λZ=>eT),R.cv.ch x eT⟩
 induction hp with
 | v x w V=>exact ⟨c,ji.refl c,l,λZ=>rfl,R,V⟩
 | ol m a vs n t S b f=>refine And.elim (λlv z1=>And.elim (λlw R'=> ?_) z1) (key a _ t f λq=>absurd q vJ);exact ⟨_,lv,lw,(λq=>Bool.noConfusion q),R',⟨a,vs,n,aF ..,dw.mono lv _ _ S,b⟩⟩
 | od m a es n t D kn b f hs=>refine And.elim (λlv z1=>And.elim (λlw R'=> ?_) z1) (key a _ t f λZ=>hs);exact ⟨_,lv,lw,(λq=>Bool.noConfusion q),R',⟨a,es,n,aF ..,iV.mono lv _ _ D,kn,b⟩⟩
inductive A7:Expr->Nat->Prop
 | ol (p:Pos):A7 (.List [] p) 5
 | od (p:Pos):A7 (.Dict [] [] p) 6
theorem Fx(h:Nat.ble 5 (lQ e)=true):A7 e (lQ e):=by
 induction e using ny with
 | List es p=>
  rcases es with _ | ⟨a,r⟩
  ·exact .ol p
  ·exact (Bool.noConfusion h)
 | Dict ks vs p=>
  rcases ks with _ | ⟨a,r⟩
  ·rcases vs with _ | ⟨b,r⟩
   ·exact .od p
   ·exact (Bool.noConfusion h)
  ·exact (Bool.noConfusion h)
 | _=>exact (Bool.noConfusion h)
inductive Sz:Expr->Prop
 | mk (p:Pos):Sz (.List [] p)
inductive SA:Expr->Prop
 | mk (p:Pos):SA (.Dict [] [] p)
theorem A7.ol'(h:A7 e n)(q:n=5):Sz e:=h.casesOn (motive:=λe n Z=>n=5->Sz e) (λp Z=>⟨p⟩) (λp q=>(absurd (q) ∅)) q
theorem A7.od'(h:A7 e n)(q:n=6):SA e:=h.casesOn (motive:=λe n Z=>n=6->SA e) (λp q=>(absurd (q) ∅)) (λp Z=>⟨p⟩) q
variable{ev eE:gr->Expr->St->Option (V×St)}(H:∀ {e σ p},ev F.k e σ=some p->GX F e σ p)
abbrev OM(F:iR)(c₀ c:bc)(s:Shared)(σ:St)(P:bc->α->Prop)(Q:α->Shared->Prop):Prop:=∀ c' h' tk w,Le c c'->bQ c' F σ h'->P c' w->Q w {s with heap:=h',toks:=tk}
include H
theorem VA{p:LV×St}(h:LU bT (ev F.k) (RA F.k e) σ=some p):jY p.1=GI F.k e/\∀ {A:Around} {c₀ c:bc} {s:Shared} {Q:Value->Shared->Prop} {E:Value->Shared->Prop},iZ F.r A->Lw c₀ c->bQ c F σ s.heap->OM F c₀ c s p.2 (λc w=>tT c₀ c p.1 w) Q->wpAny aO A (eval e F.env) Q E s:=by
 unfold RA at h;unfold GI;induction h5:lQ e==5 using eK with
 | true=>rw [h5] at h;obtain rfl:=ae h;have q:=aD.mp h5;induction (Fx (by rw [q]; rfl)).ol' q;refine ⟨rfl,λhA l hR q=>PySem.wpAny_List (eO ⟨bw _,?_⟩)⟩;exact q _ _ _ _ (hR.gw .bO (dQ [] 0)) (hR.alloc .bO (dQ [] 0) rfl) (.ol [] _ [] 0 (aF ..) rfl (bw _) λo e=>nn (hR.w.fresh.symm.trans (l.bO _ _ e)))
 | false=>
  rw [h5] at h;induction h6:lQ e==6 using eK with
  | true=>
   rw [h6] at h;have q:=aD.mp h6;induction (Fx (by rw [q]; rfl)).od' q;induction hw:F.k.jx using eK with
   | true=>rw [hw] at h;obtain rfl:=ae h;exact ⟨rfl,λhA l hR q=>SE.C7 _ _ _ _ _ hA hR λc' h' tk w l R V=>q c' h' tk w l R (.v _ _ V)⟩
   | false=>rw [hw] at h;obtain rfl:=ae h;refine ⟨rfl,λhA l hR q=>wpAny_Dict_empty ?_⟩;exact q _ _ _ _ (hR.gw .bO (b9 [] 0)) (hR.alloc .bO (b9 [] 0) rfl) (.od [] _ [] 0 (aF ..) rfl List.Pairwise.nil (bw _) (λo e=>nn (hR.w.fresh.symm.trans (l.bO _ _ e))) hR.w.j8)
  | false=>rw [h6] at h;refine aJ h λu hu h2=> ?_;obtain rfl:=ae h2;exact ⟨rfl,λhA l hR q=>(H hu).se _ _ _ _ _ hA hR λc' h' tk w l R V=>q c' h' tk w l R (.v _ _ V)⟩
theorem Vz{es:List Expr}:∀ {σ:St} {p:List LV×St},es.all notStar=true->Ii bT (ev F.k) F.k es σ=some p->p.1.countP jY=es.countP (GI F.k)/\p.1.length=es.length/\∀ {A:Around} {c₀ c:bc} {s:Shared} {Q:List Value->Shared->Prop} {E:Value->Shared->Prop},iZ F.r A->Lw c₀ c->bQ c F σ s.heap->OM F c₀ c s p.2 (λc ws=>iX c₀ c p.1 ws) Q->wpAny aO A (spliced (backTo pos (starEach es F.env))) Q E s:=by
 induction es with
 | nil=>intro σ p _ h;obtain rfl:=ae h;exact ⟨rfl,rfl,λhA l hR q=>eO (q _ _ _ _ (Le.refl _) hR .nil)⟩
 | cons e r ih=>intro σ p n h;refine aJ h λu hu h2=>aJ h2 λv hv h3=> ?_;obtain rfl:=ae h3;refine And.elim (λo1 w1=> ?_) (VA H hu);refine And.elim (λo2 z1=>And.elim (λl2 w2=> ?_) z1) (ih (aW n).2 hv);refine ⟨by rw [List.countP_cons,List.countP_cons,o1,o2],av (· +1) l2,λhA l hR q=>wpAny_items_cons (w1 hA l hR λaX aS dh a cV cy eS=>w2 hA (l.trans cV.toLw) cy λdg eG fG as dB du fh=>q dg eG fG _ (cV.trans dB) du (.cons (eS.mono dB.toji λZ=>dB.bO) fh)) (oq (aW n).1)⟩
end
section
set_option backward.match.sparseCases true
def Qr(ts:List Expr):Nat:=(ts.head?.map (·.pos.line)).getD 0
def VT(env:Env)(ln:Nat):Expr->Option Str
 | .Name id pos=>if env.kindOf id==some .local&&pos.line==ln then some id else none
 | _=>none
def jf(env:Env)(ts:List Expr):List Str:=ts.filterMap (VT env (Qr ts))
inductive SwS(env:Env)(ts:List Expr)(t:Sem (Option (List Str))):Prop
 | no (e:t=pure none)
 | yes (e:t=pure (some (jf env ts))) (n:(jf env ts).length=ts.length) (d:(jf env ts).eraseDups.length=(jf env ts).length)
theorem zq{ts vs:List Expr}{a b:Nat}{q:Pos}(hc:(vs.all (foldedForSure 8)|| !(vs.all (constantsAlone 8)))=true):SwS env ts (swappedStores [.Tuple ts a p] (.Tuple vs b q) env):=by
 by_cases h1:(!(ts.length==2||ts.length==3)||vs.length != ts.length||env.blockKind != ScopeKind.function)=true
 ·exact .no (dm h1)
 by_cases h2:(vs.any λ| .Starred .. =>true | _=>false)=true
 ·exact .no ((cb h1).trans (dm h2))
 by_cases h3:((jf env ts).length != ts.length||(jf env ts).eraseDups.length != (jf env ts).length)=true
 ·exact .no ((cb h1).trans ((cb h2).trans (dm h3)))
 by_cases h4:vs.all (foldedForSure 8)=true
 ·exact .no ((cb h1).trans ((cb h2).trans ((cb h3).trans (dm h4))))
 have h5:¬ (vs.all (constantsAlone 8)=true):=λq=>by rw [q,eF.mpr h4] at hc; exact (Bool.noConfusion hc)
 refine And.elim (λa b=> ?_) (Bool.or_eq_false_iff.mp (eF.mpr h3));exact .yes ((cb h1).trans ((cb h2).trans ((cb h3).trans ((cb h4).trans (cb h5))))) (bne_eq_false_iff_eq.mp a) (bne_eq_false_iff_eq.mp b)
theorem vU:∀ {l:List Str},l.length<=n->l.eraseDups.length<=l.length:=by
 induction n with
 | zero=>exact λ{l} h=>by rw [gB.mp (Nat.le_zero.mp h)]; exact aA _
 | succ n ih=>
  intro l h;rcases l with _ | ⟨a,l⟩
  ·exact aA _
  ·rw [List.eraseDups_cons];have h1:=dx (λb=> !b==a) l;exact cC (af (ih (af h1 (dN h))) h1)
theorem nO{l:List Str}:l.eraseDups.length=l.length->l.Nodup:=by
 induction l with
 | nil=>exact λZ=>dR
 | cons a l ih=>intro h;rw [List.eraseDups_cons] at h;have h:=Nat.succ.inj h;have h1:=dx (λb=> !b==a) l;have h2:=vU (aA (l.filter λb=> !b==a).length);have h4:=List.length_filter_eq_length_iff.mp (fz h1 (h▸h2));rw [List.filter_eq_self.mpr h4] at h;exact bj.mpr ⟨(λhm=>by have:=h4 a hm; rw [aG] at this; exact (Bool.noConfusion this)),ih h⟩
theorem Rp{f:α->Option β}{l:List α}:(l.filterMap f).length=l.length->l.map f=(l.filterMap f).map some:=by
 induction l with
 | nil=>exact λZ=>rfl
 | cons a l ih=>
  intro h;rcases e:f a with _ | b
  ·rw [List.filterMap_cons,e] at h;exact absurd (h▸List.length_filterMap_le f l) (Nat.not_succ_le_self _)
  ·rw [List.filterMap_cons,e] at h ⊢;rw [bu,e,bu,ih (Nat.succ.inj h)]
def lY:List (Nat×LV)->List (Option LV)->List (Option LV)
 | [],l=>l
 | p::ps,l=>lY ps (l.set p.1 (some p.2))
theorem zy{lv:LV}:∀ {l:List (Option LV)},(∀ p∈ps,p.1≠i)->lY ps (l.set i (some lv))=(lY ps l).set i (some lv):=by
 induction ps with
 | nil=>exact λZ=>rfl
 | cons p ps ih=>intro l h;refine And.elim (λa b=> ?_) (ah.mp h);exact (av (lY ps) (List.set_comm _ _ a.symm)).trans (ih b)
theorem vo{qs:List (Nat×LV)}:∀ {l:List (Option LV)},lY (ps++qs) l=lY qs (lY ps l):=by
 induction ps with
 | nil=>exact λ{l}=>rfl
 | cons p ps ih=>exact ih
theorem tE:∀ {l:List (Option LV)},(ps.map (·.1)).Nodup->lY ps.reverse l=lY ps l:=by
 induction ps with
 | nil=>exact λZ=>rfl
 | cons p ps ih=>intro l h;refine And.elim (λa b=> ?_) (bj.mp h);rw [List.reverse_cons,vo,ih b];exact (zy λq hq e=>a (ba.mpr ⟨q,hq,e⟩)).symm
inductive hY(k:gr)(n:Nat):List Str->List (Nat×LV)->Prop
 | nil:hY k n [] []
 | cons {x:Str} {xs:List Str} {p:Nat×LV} {ps:List (Nat×LV)} (hx:eP k x=some p.1) (hl:p.1<n) (t:hY k n xs ps):hY k n (x::xs) (p::ps)
section
variable{σ σ':St}{aS:Heap}{k:gr}{xs ys:List Str}{qs:List (Nat×LV)}
theorem hY.append(h:hY k n xs ps)(h':hY k n ys qs):hY k n (xs++ys) (ps++qs):=by
 induction h with
 | nil=>exact h'
 | cons a b t ih=>exact .cons a b ih
theorem hY.reverse(h:hY k n xs ps):hY k n xs.reverse ps.reverse:=by
 induction h with
 | nil=>exact .nil
 | cons a b t ih=>rw [List.reverse_cons,List.reverse_cons]; exact ih.append (.cons a b .nil)
theorem hY.mem(h:hY k n xs ps)(hx:eP k x=some i):i∈ps.map (·.1)->x∈xs:=by
 induction h with
 | nil=>exact λq=>(eX q)
 | cons a b t ih=>
  intro q;rcases aH.mp q with e | q
  ·refine (Bw hx).casesOn λZ d e1=>(Bw a).casesOn λZ d' e2=> ?_;rw [e] at e1;exact aH.mpr (.inl (av Prod.fst (ae (e1.symm.trans e2))))
  ·exact aw _ (ih q)
theorem hY.nodup(h:hY k n xs ps):xs.Nodup->(ps.map (·.1)).Nodup:=by
 induction h with
 | nil=>exact λZ=>dR
 | cons a b t ih=>exact λhn=>have⟨x,y⟩:=bj.mp hn; bj.mpr ⟨λhm=>x (t.mem a hm),ih y⟩
theorem BN (ek:cM F) (tf:dp c₀ A3 aS) {lv:LV} {Q:Unit->Shared->Prop} (hx:eP F.k x=some i) (hs:zA σ i lv=some σ') (l:Lw c₀ c) (hR:bQ c F σ s.heap) (hp:tT c₀ c lv w)
  (q:∀ c' h' tk,ji c c'->Lw c₀ c'->(jY lv=false->∀ a o,c.T a=some (.bO,o)->c'.T a=some (.bO,o))->bQ c' F σ' h'->Q () {s with heap:=h',toks:=tk}):wpAny aO A (storeName F.env x w) Q E s:=
 (bQ.give tf l hR (i:=i) hp).casesOn λc' lv' lw same R' lr=>vi ek hx hs R' lr λEi qq tk y JJ=>q Ei qq tk (lv'.trans y.gf) (lw.trans (y.lw rn)) (λho a o e=>(y.lw rn).bO a o (same ho▸e)) JJ
theorem xt{lv:LV}(h:(lv::ls).countP jY<=1):ls.countP jY<=1/\(jY lv=true->ls.any jY=false):=by rw [List.countP_cons] at h;refine ⟨af (aB _ _) h,λe=> ?_⟩;rw [dm e] at h;exact List.any_eq_false.mpr (List.countP_eq_zero.mp (Nat.le_zero.mp (dN h)))
theorem OA{lv:LV}(h:jY lv=true->b=false)(hb:b=true):jY lv=false:=by
 cases e:jY lv
 ·rfl
 ·exact (Bool.noConfusion ((h e).symm.trans hb))
theorem FE(ek:cM F)(tf:dp c₀ A3 aS){Q:Unit->Shared->Prop}(h:hY F.k n xs ps):∀ {c:bc} {σ:St} {s:Shared} {ws:List Value},σ.loc.length=n->(ps.map (·.2)).countP jY<=1->Lw c₀ c->bQ c F σ s.heap->iX c₀ c (ps.map (·.2)) ws->
  (∀ c' h' tk,Lw c₀ c'->bQ c' F {σ with loc:=lY ps σ.loc} h'->Q () {s with heap:=h',toks:=tk})->wpAny aO A (assignInOrder (xs.map λn=>bindName F.env n) ws) Q E s:=by
 induction h with
 | nil=>intro c σ s ws hn ho l hR hp q;cases hp;exact wpAny_assignInOrder_none (q c s.heap s.toks l hR)
 | @cons x xs p ps hx hl t ih=>
  intro c σ s ws hn ho l hR hp q;refine And.elim (λwI Cd=> ?_) (xt ho);cases hp with | @cons _ _ w ws p1 p2=>
  show wpAny _ _ (do holding ws (bindName F.env x w); assignInOrder _ ws) _ _ _;have hs:zA σ p.1 p.2=some {σ with loc:=σ.loc.set p.1 (some p.2)}:=I0 (ak (hn▸hl)) _ _;exact aa (bq (wpAny_bindName (BN ek tf hx hs l hR p1 λc' h' tk lv' lw hb R'=>ih (σ:={σ with loc:=σ.loc.set p.1 (some p.2)}) (s:={s with heap:=h',toks:=tk}) ((iI ..).trans hn) wI lw R' (p2.mono lv' λha=>hb (OA Cd ha)) q)))
inductive Ts(k:gr):Expr->Tv->Prop
 | nm (x:Str) (p:Pos) (i:Nat) (h:eP k x=some i):Ts k (.Name x p) (.v i)
 | at(o:Expr) (f:Nat) (p:Pos):Ts k (.Attribute o (et f) p) (.a o f)
 | bad (e:Expr):Ts k e .bad
theorem mG(h:iM x tQ=some f):x=et f:=by unfold et;rw [mw h]; rfl
theorem tvS(k:gr)(e:Expr):Ts k e (Fl k e):=by
 induction e using ny with
 | Name x p=>
  show Ts k _ (match eP k x with | some i=>.v i | none=>.bad);rcases h:eP k x with _ | i
  ·exact .bad _
  ·exact .nm x p i h
 | Attribute o x p=>
  show Ts k _ (match iM x tQ with | some f=>.a o f | none=>.bad);rcases h:iM x tQ with _ | f
  ·exact .bad _
  ·rw [mG h]; exact .at o f p
 | _=>exact .bad _
variable{ev eE:gr->Expr->St->Option (V×St)}
theorem Gq{es:List Expr}:∀ {ls:List LV} {σ:St},rC bT (ev F.k) F.k es ls σ=some σ'->(assignEach es F.env).length=es.length/\(assignEach es F.env).findIdx? (·.1)=none:=by
 induction es with
 | nil=>exact λZ=>⟨rfl,rfl⟩
 | cons e r ih=>
  intro ls σ h;rcases ls with _ | ⟨lv,ls⟩
  ·exact nn h
  refine aJ h λcg h1 h2=> ?_;refine And.elim (λa b=> ?_) (ih h2);have e1:assignEach (e::r) F.env=(false,assign e F.env)::assignEach r F.env:=by
   have:=tvS F.k e;generalize Fl F.k e=t at this h1;induction this with
   | bad e=>exact nn h1
   | _=>rfl
  rw [e1,dq,b];exact ⟨av (· +1) a,rfl⟩
theorem Dq{ln:Nat}{es:List Expr}:∀ {ls:List LV} {σ:St} {xs:List Str},rC bT (ev F.k) F.k es ls σ=some σ'->es.map (VT F.env ln)=xs.map some->∃ ps:List (Nat×LV),hY F.k σ.loc.length xs ps/\ps.map (·.2)=ls/\σ'={σ with loc:=lY ps σ.loc}:=by
 induction es with
 | nil=>
  intro ls σ xs h hx;rcases ls with _ | _
  ·rcases xs with _ | _
   ·exact ⟨[],.nil,rfl,(ae h).symm⟩
   ·exact (zNc hx)
  ·exact nn h
 | cons e r ih=>
  intro ls σ xs h hx;rcases ls with _ | ⟨lv,ls⟩
  ·exact nn h
  rcases xs with _ | ⟨x,xs⟩
  ·exact (ZA hx)
  refine And.elim (λhx0 hx1=> ?_) (cQ hx);refine aJ h λcg h1 h2=> ?_;have:=tvS F.k e;generalize Fl F.k e=t at this h1;induction this with
  | bad e=>exact nn h1
  | «at» o f p=>exact nn hx0
  | nm y p i hi=>
   injection eC h1 with jt;have e:y=x:=by
    by_cases hq:(F.env.kindOf y==some .local&&p.line==ln)=true
    ·exact ae ((dm hq).symm.trans hx0)
    ·exact nn ((cb hq).symm.trans hx0)
   subst e;refine ag (ih h2 hx1) λps z1=>And.elim (λh3 z2=>And.elim (λh4 h5=> ?_) z2) z1;have:(σ.loc.set i (some lv)).length=σ.loc.length:=iI;exact ⟨(i,lv)::ps,.cons hi (cE jt) (this▸h3),av (lv::·) h4,h5⟩
variable(H:∀ {e σ p},ev F.k e σ=some p->GX F e σ p)
include H
theorem FF(ko:lT)(ek:cM F)(hA:iZ F.r A)(tf:dp c₀ A3 aS){Q:Unit->Shared->Prop}{es:List Expr}:∀ {ls:List LV} {σ:St} {c:bc} {s:Shared} {ws:List Value},rC bT (ev F.k) F.k es ls σ=some σ'->ls.countP jY<=1->Lw c₀ c->bQ c F σ s.heap->iX c₀ c ls ws->
  (∀ c' h' tk,Lw c₀ c'->bQ c' F σ' h'->Q () {s with heap:=h',toks:=tk})->wpAny aO A (assignInOrder ((assignEach es F.env).map (·.2)) ws) Q E s:=by
 induction es with
 | nil=>
  intro ls σ c s ws h ho l hR hp q;rcases ls with _ | _
  ·cases hp;obtain rfl:=ae h;exact wpAny_assignInOrder_none (q c s.heap s.toks l hR)
  ·exact nn h
 | cons e r ih=>
  intro ls σ c s ws h ho l hR hp q;rcases ls with _ | ⟨lv,ls⟩
  ·exact nn h
  refine And.elim (λwI Cd=> ?_) (xt ho);cases hp with | @cons _ _ w ws p1 p2=>
  refine aJ h λcg h1 h2=> ?_;have:=tvS F.k e;generalize Fl F.k e=t at this h1;induction this with
  | bad e=>exact nn h1
  | nm y p i hi=>show wpAny _ _ (do holding ws (assign (.Name y p) F.env w); assignInOrder ((assignEach r F.env).map (·.2)) ws) _ _ _;exact aa (bq (wpAny_assign_Name (BN ek tf hi h1 l hR p1 λc' h' tk lv' lw hb R'=>ih (s:={s with heap:=h',toks:=tk}) h2 wI lw R' (p2.mono lv' λha=>hb (OA Cd ha)) q)))
  | «at» o f p=>
   show wpAny _ _ (do holding ws (assign (.Attribute o (et f) p) F.env w); assignInOrder ((assignEach r F.env).map (·.2)) ws) _ _ _;rw [arm_assign_Attribute];refine aJ h1 λx hx h3=>aJ h3 λu hu h4=>aJ h4 λW hW h5=> ?_;obtain rfl:=ae h5;induction p1 with
   | v y w V=>obtain rfl:=ae hx;refine aa (bq (aa (bq ((H hu).se A c s _ _ hA hR λc' h' tk a l' R' V'=>aa (de (aa (bq (rv (s:={s with heap:=h',toks:=tk}) ko R' hW V' (VR.mono l'.toji _ _ V) λEi qq lX l'' JJ=>PyProof.Rows.wpAny_release' ?_))))))));have ll:=l'.trans l'';exact ih (s:={s with heap:=qq,toks:=lX}) h2 wI (l.trans ll.toLw) JJ (p2.mono ll.toji λZ=>ll.bO) q
   | _=>exact nn hx
theorem TF (ko:lT) (ek:cM F) {ex sr:List Stmt->St->Option (Out×St)} {ts vs:List Expr} {a b:Nat} {zO:Pos} {r:Out×St} (hl:ts.length=vs.length) (ho:vs.countP (GI F.k)<=1) (adw:vs.length<=100) (hc:(vs.all (foldedForSure 8)|| !(vs.all (constantsAlone 8)))=true) (hs:vs.all notStar=true)
  (h:gu bT (ev F.k) (eE F.k) F.k ex sr (.Mw ts vs) σ=some r):SX F (.Assign [.Tuple ts a p] (.Tuple vs b zO) pos) σ r:=by
 refine aJ h λu hu h2=>aJ h2 λσ' hp h3=> ?_;obtain rfl:=ae h3;refine And.elim (λo1 z1=>And.elim (λl1 w1=> ?_) z1) (Vz H (pos:=zO) hs hu);have ho:=o1▸ho;intro A c s Q E hA hR q;have val:∀ {Q':Value->Shared->Prop},(∀ aX aS tk T ws,Le c aX->bQ aX F u.2 aS->iX c aX u.1 ws->aS.IsTuple T (List.toArray ws)->Q' (.ref T) {s with heap:=aS,toks:=tk})->wpAny aO A (eval (.Tuple vs b zO) F.env) Q' E s:=λhq=>
  PySem.wpAny_Tuple (w1 hA (Lw.refl c) hR λaX aS dh ws cV cy eS=>⟨eS.length▸l1.symm▸af adw ∅,hq aX _ dh _ ws cV (cy.push _) eS ⟨_,aR _ rfl,rfl,0,rfl⟩⟩)
 have tup:∀ {aX:bc} {aS h':Heap},bQ aX F u.2 aS->Heap.ExtBut aS.objs.size aS h'->bQ aX F u.2 h':=λcy hk=>cy.heap λa t o e=>hk a o (λy=>nn (cy.w.fresh.symm.trans (y▸e))) (cy.w.hold a t o e);induction zq (env:=F.env) (ts:=ts) (a:=a) (b:=b) (p:=p) (q:=zO) hc with
 | no hw=>refine wpAny_Assign_stores (val λaX aS tk T ws cV cy eS hT=> ?_) (show swapsWith (.Tuple vs b zO) (some (.Tuple ts a p)) pos.line F.env=pure false from pF) hw;show wpAny _ _ (assign (.Tuple ts a p) F.env (.ref T)) _ _ _;refine And.elim (λe1 e2=> ?_) (Gq hp);exact wpAny_assign_Tuple hA.handled hT (by rw [e1,hl,<-l1,eS.length,aM]) e2 λh' hk=>FF H ko ek hA hR.w (s:={s with heap:=h',toks:=tk}) hp ho cV.toLw (tup cy hk) eS λc' qq lX l' JJ=>q c' qq lX _ l' JJ rfl
 | yes hw hn hd=>
  refine ag (Dq hp (Rp hn)) λps z1=>And.elim (λn1 z2=>And.elim (λn2 z3=> ?_) z2) z1;obtain rfl:=z3;have nd:=n1.nodup (nO hd);rw [exec_Assign_arm];refine aa (de ?_);rw [show swapsWithSole [.Tuple ts a p] (.Tuple vs b zO) pos.line F.env=pure false from(pF:swapsWith (.Tuple vs b zO) (some (.Tuple ts a p)) pos.line F.env=pure false)];refine aa (aj (cW rfl (aa (val λaX aS tk T ws cV cy eS hT=> ?_))));rw [hw];refine aa (aj ?_);show wpAny aO A (do
   rule "assign.swapped-stores"
   let items<-unpackItems (.ref T) (jf F.env ts).length none
   assignInOrder ((jf F.env ts).reverse.map λn=>bindName F.env n) items.reverse
   pure Flow.next) Q E _
  rw [show(jf F.env ts).length=(List.toArray ws).size by rw [hn,hl,<-l1,eS.length,aM]];refine aa (wpAny_rule (aa (wpAny_unpackItems_tuple hA.handled hT λh' hk=>aa (FE ek hR.w n1.reverse (σ:=u.2) (s:={s with heap:=h',toks:=tk}) rfl (by rw [List.map_reverse,n2,List.countP_reverse]; exact ho) cV.toLw (tup cy hk) (by rw [List.map_reverse,n2]; exact eS.reverse) λc' qq lX l' JJ=>aj ?_))));rw [tE nd] at JJ;exact q c' qq lX _ l' JJ rfl
end
end
theorem FJ(h:iM x Pz=some f):x=jG f:=by unfold jG; rw [mw h]; rfl
theorem DK(h:qS e=true):∃ k p,e=.Constant .none k p:=by
 induction e using ny with
 | Constant c k p=>
  induction c using PySem.Const.casesOn with
  | none=>exact ⟨k,p,rfl⟩
  | _=>exact (Bool.noConfusion h)
 | _=>exact (Bool.noConfusion h)
inductive M1:Expr->Prop
 | mk (k:Nat) (p q:Pos):M1 (.UnaryOp .USub (.Constant (.int 1) k p) q)
theorem Hz(h:Lq e=true):M1 e:=by
 induction e using ny with
 | UnaryOp o e q=>
  induction o using PySem.UnaryOp.casesOn with
  | USub=>
   induction e using ny with
   | Constant c k p=>
    induction c using PySem.Const.casesOn with
    | int i=>rw [show i=1 from cE h]; exact .mk k p q
    | _=>exact (Bool.noConfusion h)
   | _=>exact (Bool.noConfusion h)
  | _=>exact (Bool.noConfusion h)
 | _=>exact (Bool.noConfusion h)
theorem qU{it:Expr}(h:jb it=true)(env:Env)(x:Value):foldedSetIterable it env x=pure x:=by
 induction it using ny with
 | Set=>exact (Bool.noConfusion h)
 | _=>rfl
theorem Ay{a b:Nat}(h:b<=a):Nat.blt a b=false:=eF.mpr λq=>absurd (bH q) (Nat.not_le_of_gt (fk h))
theorem Hb{a b:Nat}(h:a<b):Nat.blt a b=true:=Nat.ble_eq_true_of_le h
section
variable{σ:St}{a:Expr}{ev eE:gr->Expr->St->Option (V×St)}{r:V×St}
section
variable{k:gr}
theorem kN{v:Vw}(h:dr bT cf ev eE k (jO b v) σ=some r):b=true/\dr bT cf ev eE k v σ=some r:=by
 induction b
 ·exact nn h
 ·exact ⟨rfl,h⟩
theorem ma{o:Option α}{f:α->Vw}(h:dr bT cf ev eE k (oB o f) σ=some r):∃ a,o=some a/\dr bT cf ev eE k (f a) σ=some r:=by
 rcases o with _ | a
 ·exact nn h
 ·exact ⟨a,rfl,h⟩
end
theorem Rf{c:Const}{kk:Nat}(h:dr bT cf ev eE F.k (ve c) σ=some r):GX F (.Constant c kk pos) σ r:=by
 induction c using PySem.Const.casesOn with
 | none=>exact ae h▸ .of SE.none rfl
 | bool b=>exact ae h▸ .of SE.bool rfl
 | int i=>exact ae h▸ .of SE.int rfl
 | str s=>have⟨n,e,h⟩:=ma h; rw [FJ e]; exact ae h▸ .of SE.str rfl
 | bytes b=>have⟨e,h⟩:=kN h; exact ae h▸ .of (SE.RZ (rq e)) rfl
 | _=>exact nn h
theorem XY(ko:lT)(ek:cM F)(h:dr bT cf ev eE F.k (E9 F.k x) σ=some r):GX F (.Name x pos) σ r:=by
 refine And.elim (λhd h=> ?_) (kN h);rcases ej:iM x F.k.zd with _ | j
 ·rw [ej] at h;rcases ei:rf F.k x with _ | i
  ·rw [ei] at h;refine And.elim (λhg h=> ?_) (kN h);refine ag (ma h) λi z1=>And.elim (λhi h=> ?_) z1;exact ae h▸ .of (SE.gi ko ek hg hd hi) rfl
  ·rw [ei] at h;exact .of (SE.var ek ei hd h) rfl
 ·rw [ej] at h;exact aJ h λv hv h2=>ae h2▸ .of (SE.cv ek ej hd hv) rfl
variable(H:∀ {e σ p},ev F.k e σ=some p->GX F e σ p)
include H
theorem XX(h:dr bT cf ev eE F.k (.S4 e) σ=some r):GX F (.UnaryOp .USub e pos) σ r:=
 aJ h λu hu h2=>aJ h2 λi hi h3=>ae h3▸ .of (SE.S4 (fJ hi▸(H hu).se)) rfl
theorem gUn{o:UnaryOp}(h:dr bT cf ev eE F.k (vw F.k (.UnaryOp o e pos)) σ=some r):GX F (.UnaryOp o e pos) σ r:=by
 induction o using PySem.UnaryOp.casesOn with
 | Not=>exact aJ h λu hu h2=>aJ h2 λb hb h3=>ae h3▸⟨SE.GP (lN hb▸(H hu).se),λb' q=>V.bool.inj q▸ST.GP ((H hu).st b (lN hb))⟩
 | USub=>
  induction e using ny with
  | Constant c k p=>
   induction c using PySem.Const.casesOn with
   | int i=>exact ae h▸ .of SE.neg rfl
   | _=>exact XX H h
  | _=>exact XX H h
 | _=>exact nn h
theorem gEq{b:Expr}(ng:Bool)(h:dr bT cf ev eE F.k (J0 ng a b) σ=some r):GX F (.Compare a [LX ng] [b] pos) σ r:=by
 unfold J0 at h;induction h6:lQ b==6 using eK with
 | true=>rw [h6] at h;have q:=aD.mp h6;induction (Fx (by rw [q]; rfl)).od' q;exact adN H h
 | false=>
  rw [h6] at h;induction h5:lQ b==5 using eK with
  | true=>rw [h5] at h;have q:=aD.mp h5;induction (Fx (by rw [q]; rfl)).ol' q;exact adM H h
  | false=>rw [h5] at h;refine And.elim (λhs h=> ?_) (kN h);exact X6 H hs h
theorem X5{b:Expr}{o:CmpOp}(h:dr bT cf ev eE F.k (Fc o a b) σ=some r):GX F (.Compare a [o] [b] pos) σ r:=by
 have n:∀ {ng},dr bT cf ev eE F.k (jO (qS b) (.S6 ng a)) σ=some r->GX F (.Compare a [Wx ng] [b] pos) σ r:=λh=>by
  refine And.elim (λhb h=> ?_) (kN h);refine ag (DK hb) λk z1=>ag z1 λp z2=> ?_;obtain rfl:=z2;exact adL H h
 have g:∀ {o},dr bT cf ev eE F.k (jO (jb b) (.cmp o a b)) σ=some r->GX F (.Compare a [o] [b] pos) σ r:=λh=>have⟨hs,h⟩:=kN h; X6 H hs h;induction o using PySem.CmpOp.casesOn with
 | Is=>exact n (ng:=false) h
 | IsNot=>exact n (ng:=true) h
 | Eq=>exact gEq H false h
 | NotEq=>exact gEq H true h
 | _=>exact g h
theorem H8{os:List CmpOp}{bs:List Expr}(h:dr bT cf ev eE F.k (M9 a os bs) σ=some r):GX F (.Compare a os bs pos) σ r:=by
 rcases os with _ | ⟨o,_ | ⟨p,_ | ⟨_,_⟩⟩⟩
 ·exact nn h
 ·rcases bs with _ | ⟨b,_ | ⟨_,_⟩⟩
  ·exact nn h
  ·exact X5 H h
  ·exact nn h
 ·rcases bs with _ | ⟨b,_ | ⟨d,_ | ⟨_,_⟩⟩⟩
  ·exact nn h
  ·exact nn h
  ·have⟨hs,h⟩:=kN h;exact X4 H (aW hs).2 h
  ·exact nn h
 ·exact nn h
theorem XT{s:Expr}(h:dr bT cf ev eE F.k (M8 a s) σ=some r):GX F (.Subscript a s pos) σ r:=by
 induction s using ny with
 | Slice lo hi st p=>
  rcases st with _ | e
  ·exact adE H h
  ·rcases lo with _ | _
   ·rcases hi with _ | _
    ·have⟨hm,h⟩:=kN h;induction Hz hm;exact adF H h
    ·exact nn h
   ·exact nn h
 | Dict ks vs p=>
  refine Rd H ?_ h;rcases ks with _ | _
  ·rcases vs with _ | _ <;> rfl
  ·rfl
 | List es p=>exact Rd H (by rcases es with _ | _ <;> rfl) h
 | _=>exact Rd H rfl h
theorem X3{vs:List Expr}(h:dr bT cf ev eE F.k (Fb ks vs) σ=some r):GX F (.Dict ks vs pos) σ r:=by
 rcases ks with _ | ⟨k,ks⟩
 ·have⟨he,h⟩:=kN h;rw [List.isEmpty_iff.mp he];exact ae h▸ .of SE.C7 rfl
 ·have⟨hc,h⟩:=kN h;induction hs:Hx (k::ks)using eK with
  | true=>rw [hs] at h; exact XS H (List.cons_ne_nil _ _) hc h
  | false=>rw [hs] at h; exact adP H (List.cons_ne_nil _ _) hc h
variable(ko:lT)(hc:fu F.r cf)(ek:cM F)
include ko hc ek
theorem Rh{es:List Expr}(hg:fR F.k x=true)(hn:gH x qI=some n)(hs:es.all notStar=true)(h:dr bT cf ev eE F.k (.call n es) σ=some r):GX F (.Call (.Name x p) es [] pos) σ r:=by
 refine aJ h λu hu h=> ?_;unfold CO at h;refine ko.glob.casesOn λmg mb Z Z Z call Z Z Z=> ?_;have gn:=call x n hn;induction gn with
 | blt n Tn _=>rw [Hb (ax Tn ∅)] at h;exact aJ h λv hv h=>ae h▸Rm H ko ek hg hn Tn hs hu hv
 | fn n h1 h2 _=>rw [Ay (af ∅ h1),Hb (az h2 ∅)] at h;exact Rk H ko hc ek hg hn h1 h2 hs hu h
 | cls k hk _=>rw [Ay (af ∅ (aB 90 k)),Ay (aB 90 k),Nat.add_sub_cancel_left] at h;have h:(bif Nat.blt (90+k) 92 then NH bT cf k u.1 u.2 else V6 bT cf k u.1 u.2)=some r:=h;exact iG h (λZ h=>Ri H ko hc ek hg hn hk hs hu h) λZ h=>Rj H ko hc ek hg hn hk hs hu h
theorem adG{o:Expr}{es:List Expr}(hs:es.all notStar=true)(hl:es.length<30)(j7:(ap.endLine==pos.line)=true)(DO:gP o=true)(h:dr bT cf ev eE F.k (.ZQ o f es) σ=some r):GX F (.Call (.Attribute o (et f) ap) es [] pos) σ r:=by
 refine aJ h λt ht h=>aJ h λd hd h=>aJ h λu hu h=> ?_;unfold NF at hd;rcases ec:CN t.2.W t.1 with _ | c
 ·rw [ec] at hd;injection eo hd with b hb;exact aJ h λZ e h=>aJ h λw hw h=>ae h▸X0 H hs hl j7 DO ht hu hb (bmC (by
   refine (eC e).casesOn λe=> ?_;rcases eb:wm u.2.W t.1 with _ | b'
   ·rw [eb] at e; exact (Bool.noConfusion e)
   ·rw [eb] at e; rw [show b'=b from aD.mp e]) hw)
 ·rw [ec] at hd;injection eo hd with m hm;exact XZ H ko hc hs hl j7 DO ht hu ec hm h
theorem X7{f:Expr}(hk:lS F.r cf){es:List Expr}{DD:List Keyword}(h:dr bT cf ev eE F.k (Fd F.k pos f es DD) σ=some r):GX F (.Call f es DD pos) σ r:=by
 induction f using ny with
 | Name x p=>
  refine And.elim (λhg h=> ?_) (kN h);rcases DD with _ | ⟨⟨arg,e,kp⟩,_ | ⟨_,_⟩⟩
  ·have⟨hs,h⟩:=kN h;refine ag (ma h) λn z1=>And.elim (λhn h=> ?_) z1;exact Rh H ko hc ek hg hn (aW hs).1 h
  ·rcases arg with _ | g
   ·exact nn h
   ·have⟨hs,k⟩:=kN h;refine fb hs λhs h3=> ?_;refine fb hs λh1 h2=> ?_;rw [List.isEmpty_iff.mp h1,gb.mp h2,gb.mp h3];exact adJ H ko hk ek (gb.mp h2▸hg) k
  ·rcases arg with _ | g <;> exact nn h
 | Attribute o n ap=>refine And.elim (λhs h=> ?_) (kN h);refine ag (ma h) λf z1=>And.elim (λhf h=> ?_) z1;refine fb hs λhs h5=> ?_;refine fb hs λhs h4=> ?_;refine fb hs λhs h3=> ?_;refine fb hs λh1 h2=> ?_;rw [List.isEmpty_iff.mp h1,mG hf];exact adG H ko hc ek h4 (cE h5) h3 h2 h
 | _=>exact nn h
omit H hc in
theorem H7(HH:∀ F',F'.r=F.r->cM F'->∀ {e σ p},ev F'.k e σ=some p->GX F' e σ p)(h:dr bT cf ev eE F.k (UI F.k sc elt gens) σ=some r):EP F (.ListComp elt gens sc pos) sc gens σ r:=by
 rcases gens with _ | ⟨⟨te,it,cs,ia⟩,_ | ⟨⟨pz,ki,cs2,ib⟩,_ | ⟨_,_⟩⟩⟩
 ·exact nn h
 ·have⟨hs,k⟩:=kN h;refine ag (ma k) λt z1=>And.elim (λht k=> ?_) z1;refine fb hs λhs h3=> ?_;refine fb hs λh1 h2=> ?_;rw [show ia=0 from aD.mp h1];exact gLc HH ko ek h2 ht (qU h3 _) k
 ·rcases cs with _ | ⟨_,_⟩
  ·rcases cs2 with _ | ⟨_,_⟩
   ·have⟨hs,k⟩:=kN h;refine ag (ma k) λt z1=>And.elim (λht k=> ?_) z1;refine ag (ma k) λt2 z1=>And.elim (λht2 k=> ?_) z1;refine fb hs λhs h5=> ?_;refine fb hs λhs h4=> ?_;refine fb hs λhs h3=> ?_;refine fb hs λh1 h2=> ?_;rw [show ia=0 from aD.mp h1,show ib=0 from aD.mp h2];exact adI HH ko ek h3 ht ht2 (qU h4 _) (qU h5) k
   ·exact nn h
  ·rcases cs2 with _ | ⟨_,_⟩ <;> exact nn h
 ·rcases cs with _ | ⟨_,_⟩ <;> rcases cs2 with _ | ⟨_,_⟩ <;> exact nn h
omit H in
theorem XU(HH:∀ F',F'.r=F.r->cM F'->∀ {e σ p},ev F'.k e σ=some p->GX F' e σ p)(hk:lS F.r cf)(h:dr bT cf ev eE F.k (vw F.k e) σ=some r):GX F e σ r:=by
 have H:∀ {e σ p},ev F.k e σ=some p->GX F e σ p:=HH F rfl ek;induction e using ny with
 | Constant c k p=>exact Rf h
 | Name x p=>exact XY ko ek h
 | UnaryOp o e p=>exact gUn H h
 | BinOp a o b p=>exact adR H h
 | Compare a os bs p=>exact H8 H h
 | BoolOp o es p=>refine And.elim (λhb h=> ?_) (kN h);induction o using PySem.BoolOp.casesOn <;> exact adQ H hb h
 | IfExp c a b p=>exact adK H h
 | Attribute o n p=>refine And.elim (λhb h=> ?_) (kN h);refine ag (ma h) λf z1=>And.elim (λhf h=> ?_) z1;rw [mG hf];exact X8 H ko hb h
 | Subscript o s p=>exact XT H h
 | Tuple es k p=>have⟨hb,h⟩:=kN h; exact adC H hb h
 | List es p=>have⟨hb,h⟩:=kN h; exact adH H hb h
 | Dict ks vs p=>exact X3 H h
 | Call f es DD p=>exact X7 H ko hc ek hk h
 | ListComp elt gens sc p=>exact (H7 ko ek HH h).se ek
 | _=>exact nn h
end
section
variable{m:Nat}(ko:lT)(hc:fu m cf)(hk:lS m cf)
include ko hc hk
theorem kF:∀ F,F.r=m->cM F->∀ {e σ p},i7 cf n F.k e σ=some p->GX F e σ p:=by
 induction n with
 | zero=>exact λF Z Z {e σ p} h=>nn h
 | succ n ih=>intro F hr ek e σ p h;subst hr;exact XU ko hc ek ih hk h
theorem Rz(hr:F.r=m)(ek:cM F){σ:St}{p:V×St}(h:i7 cf n F.k (.ListComp elt gens sc pos) σ=some p):EP F (.ListComp elt gens sc pos) sc gens σ p:=by
 induction n using oF with
 | zero=>exact nn h
 | succ n=>subst hr;exact H7 ko ek (kF ko hc hk) h
omit ko hc hk in
theorem LS{k:gr}{σ:St}{p:V×St}(h:i7 cf n k e σ=some p):vw k e≠ .bad:=by
 induction n using oF with
 | zero=>exact nn h
 | succ n=>exact λq=>by unfold i7 at h; rw [q] at h; exact nn h
end
theorem Qb{es:List Expr}{a:Expr}(h:Qc es=some a):es=[a]:=by
 rcases es with _ | ⟨b,_ | ⟨_,_⟩⟩
 ·exact nn h
 ·rw [ae h]
 ·exact nn h
theorem YQ(h:apx f=some b):f=bif b then 61 else 62:=by
 unfold apx at h;refine iG h (λq h=> ?_) λZ h=>iG h (λq h=> ?_) λZ h=>nn h
 ·rw [<-ae h]; exact Nat.eq_of_beq_eq_true q
 ·rw [<-ae h]; exact Nat.eq_of_beq_eq_true q
theorem Hh{es:List Expr}(h:listOf e=some es):∃ p,e=.List es p:=by
 induction e using ny with
 | List y p=>exact ⟨p,av (λz=>PySem.Expr.List z p) (ae h)⟩
 | _=>exact nn h
theorem Kq{q:Expr×Expr}(h:Gh e=some q):∃ p p',e=.Subscript q.1 (.Slice none none (some q.2) p) p':=by
 induction e using ny with
 | Subscript o s p'=>
  induction s using ny with
  | Slice lo hi st p=>
   rcases lo with _ | _
   ·rcases hi with _ | _
    ·rcases st with _ | e
     ·exact nn h
     ·rw [<-ae h]; exact ⟨p,p',rfl⟩
    ·exact nn h
   ·exact nn h
  | _=>exact nn h
 | _=>exact nn h
section
variable{σ:St}{o:Expr}{m:Nat}{ex:List Stmt->St->Option (Out×St)}{r:Out×St}
section
variable{k:gr}{ev evq:Expr->St->Option (V×St)}
theorem zG{v:Sv}(h:gu bT ev evq k ex ex (xj b v) σ=some r):b=true/\gu bT ev evq k ex ex v σ=some r:=by
 induction b
 ·exact nn h
 ·exact ⟨rfl,h⟩
theorem rI{o:Option α}{f:α->Sv}(h:gu bT ev evq k ex ex (uo o f) σ=some r):∃ a,o=some a/\gu bT ev evq k ex ex (f a) σ=some r:=by
 rcases o with _ | a
 ·exact nn h
 ·exact ⟨a,rfl,h⟩
end
variable(hr:F.r=m)(ek:cM F)(ko:lT)(hc:fu m cf)(hk:lS m cf)(HX:∀ {b σ p},ex b σ=some p->OL F b σ p)
abbrev OJ(cf:CF)(n:Nat)(F:iR)(ex:List Stmt->St->Option (Out×St))(v:Sv)(σ:St)(r:Out×St):Prop:=gu bT (i7 cf n F.k) (i7 cf n F.k) F.k ex ex v σ=some r
include hr ek ko hc hk
theorem adO(h:OJ cf n F ex (FC F.k e) σ r):SX F (.Expr e pos) σ r:=by
 have H:∀ {e σ p},i7 cf n F.k e σ=some p->GX F e σ p:=kF ko hc hk F hr ek;have d:∀ {f es ks p},OJ cf n F ex (.exp (.Call f es ks p)) σ r->SX F (.Expr (.Call f es ks p) pos) σ r:=λh=>aaE (eE:=i7 cf n) H ek rfl h;induction e using ny with
 | Call f es ks p=>
  induction f using ny with
  | Attribute o x ap=>
   rcases ks with _ | ⟨_,_⟩
   ·have h:OJ cf n F ex (zt F.k (.Call (.Attribute o x ap) es [] p) p o x ap es) σ r:=h;unfold zt at h;rcases hq:(iM x tQ).bind λf=>(apx f).bind λb=>(mh o).bind λy=>(Qc es).map λa=>(b,y,a)with _ | q
    ·rw [hq] at h; exact d h
    ·rw [hq] at h;refine aJ hq λf hi hq=>aJ hq λb hb hq=>aJ hq λy hy hq=> ?_;injection eo hq with a ha;refine ag (mf hy) λnp z1=> ?_;obtain rfl:=z1;obtain rfl:=Qb ha;refine And.elim (λhs h=> ?_) (zG h);refine ag (rI h) λi z1=>And.elim (λhy h=> ?_) z1;refine fb hs λhs h3=> ?_;refine fb hs λh1 h2=> ?_;rw [mG hi,YQ hb];cases b
     ·exact aaD (eE:=i7 cf n) H ek hy h2 h3 h1 h
     ·exact aaG (eE:=i7 cf n) H ek hy h2 h3 h1 h
   ·exact d h
  | _=>exact d h
 | _=>exact nn h
theorem X9(hx:eP F.k x=some i)(h:OJ cf n F ex (zr F.k i e) σ r):SX F (.Assign [.Name x p] e pos) σ r:=by
 have H:∀ {e σ p},i7 cf n F.k e σ=some p->GX F e σ p:=kF ko hc hk F hr ek;have d:OJ cf n F ex (.Es i e) σ r->SX F (.Assign [.Name x p] e pos) σ r:=λh=>TC (eE:=i7 cf n) H (Rz ko hc hk hr ek) ek LS hx h;unfold zr at h;induction h6:lQ e==6 using eK with
 | true=>rw [h6] at h;have q:=aD.mp h6;induction (Fx (by rw [q]; rfl)).od' q;exact TM (ev:=i7 cf n) (eE:=i7 cf n) ek hx h
 | false=>
  rw [h6] at h;rcases hl:listOf e with _ | es
  ·rw [hl] at h;cases hw:F.k.jx with
   | true=>
    rw [hw] at h;rcases hv:Gh e with _ | ⟨o',e'⟩
    ·rw [hv] at h; exact d h
    ·rw [hv] at h;refine And.elim (λhm h=> ?_) (zG h);refine ag (Kq hv) λp1 z1=>ag z1 λp2 z2=> ?_;obtain rfl:=z2;have hm:Lq e'=true:=hm;induction Hz hm;exact TH (eE:=i7 cf n) H ek hx h
   | false=>rw [hw] at h; exact d h
  ·rw [hl] at h;refine ag (Hh hl) λlp z1=> ?_;obtain rfl:=z1;refine And.elim (λhs h=> ?_) (zG h);exact TK (eE:=i7 cf n) H ek hx hs h
theorem adS{t:Expr}(h:OJ cf n F ex (Ng F.k t e) σ r):SX F (.Assign [t] e pos) σ r:=by
 have H:∀ {e σ p},i7 cf n F.k e σ=some p->GX F e σ p:=kF ko hc hk F hr ek;induction t using ny with
 | Name x p=>have⟨i,hx,h⟩:=rI h; exact X9 hr ek ko hc hk hx h
 | Attribute o x p=>have⟨f,hf,h⟩:=rI h; rw [mG hf]; exact TN (eE:=i7 cf n) H ko h
 | Subscript o j p=>
  refine And.elim (λhs h=> ?_) (zG h);rcases ho:(mh o).bind λx=>(eP F.k x).map λi=>(x,i)with _ | q
  ·rw [ho] at h;exact aJ h λu hu h=>aJ h λv hv h=>aJ h λw hw h=>(zS h).casesOn λW hW=>M0 H hu hv hw hW
  ·rw [ho] at h;refine And.elim (λhd h=> ?_) (zG h);refine aJ ho λx hx h2=> ?_;injection eo h2 with i hi;refine ag (mf hx) λnp z1=> ?_;obtain rfl:=z1;exact TJ (eE:=i7 cf n) H ek hi hd h
 | Tuple ts a p=>
  have h:OJ cf n F ex (FA F.k ts e) σ r:=h;unfold FA at h;rcases hv:wV e with _ | vs
  ·rw [hv] at h;refine ag (rI h) λis z1=>And.elim (λhi h=> ?_) z1;exact aaz (eE:=i7 cf n) H ek hv hi h
  ·rw [hv] at h;refine ag (Bp hv) λb z1=>ag z1 λq z2=> ?_;obtain rfl:=z2;refine And.elim (λhs h=> ?_) (zG h);refine fb hs λhs h5=> ?_;refine fb hs λhs h4=> ?_;refine fb hs λhs h3=> ?_;refine fb hs λh1 h2=> ?_;exact TF (eE:=i7 cf n) H ko ek (aD.mp h1) (cE h2) (cE h3) h4 h5 h
 | _=>exact nn h
include HX
theorem adD{s:Stmt}(h:OJ cf n F ex (sv F.k s) σ r):SX F s σ r:=by
 have H:∀ {e σ p},i7 cf n F.k e σ=some p->GX F e σ p:=kF ko hc hk F hr ek;induction s using PySem.Stmt.casesOn with
 | Expr e p=>exact adO hr ek ko hc hk h
 | Assign ts v p=>
  rcases ts with _ | ⟨t,_ | ⟨_,_⟩⟩
  ·exact nn h
  ·exact adS hr ek ko hc hk h
  ·exact nn h
 | If c a b p=>exact aaB (eE:=i7 cf n) H HX h
 | While c b els p=>
  rcases els with _ | _
  ·exact aay (eE:=i7 cf n) H HX rfl rfl h
  ·exact nn h
 | For t it b els p=>
  rcases els with _ | _
  ·have⟨hs,h⟩:=zG h;refine ag (rI h) λt z1=>And.elim (λht h=> ?_) z1;exact aaC (eE:=i7 cf n) H HX ko ek rfl ht (qU hs _) h
  ·exact nn h
 | Return e p=>
  rcases e with _ | e
  ·exact TB (ev:=i7 cf n) (eE:=i7 cf n) h
  ·exact aaA (eE:=i7 cf n) H h
 | _=>exact nn h
omit HX in
theorem oU{d:Nat}:∀ {b:List Stmt} {σ:St} {p:Out×St},yo cf F.k d b σ=some p->OL F b σ p:=by
 induction d with
 | zero=>exact λh=>nn h
 | succ d ih=>exact λh=>aaF (λh=>adD hr ek ko hc hk ih h) h
end
theorem R9{m:Nat}(ko:lT)(hc:fu m cf)(hk:lS m cf):wF m cf:=λF σ b p hr ek Z h=>oU hr ek ko hc hk h
inductive Bc:Prop
 | mk (f:Fn) (o:Obj) (fd:FuncData) (hf:fn 86=some f) (ho:cT.lookup (pB 86)=some o) (X:px f o fd) (np:f.np=12)
  (b:∀ (s:Shared) (self a:Value),cT.In s.heap->∃ pre post,(∀ c,dw c [.int 16,.int 32,.int 32] pre)/\(∀ c,dw c [.int 4,.int 4,.int 2,.int 128,.int 192,.int 160,.int 128] post)/\
   BindsTo s fd ⟨[self],[(et 32,a)]⟩ (((f.k.vn.take f.np).map (·.1)).zip (self::pre++a::post)))
inductive Zz(m kf:Nat)(as:List V)(W:List aV)(p:V×List aV):Prop
 | mk (f:Fn) (σ:St) (u:Out×St) (hf:fn kf=some f) (vP:enter f as W=some σ) (hu:yo (ai m) f.k sN f.body σ=some u) (hl:vM bT kf W.length (KP u.1) u.2.W=some p)
theorem YC{m:Nat}{p:V×List aV}(h:ai (m+1) kf as W=some p):Zz m kf as W p:=by refine aJ h λf hf h2=> ?_;refine aJ h2 λσ vP h3=> ?_;refine aJ h3 λu hu h4=> ?_;exact ⟨f,σ,u,hf,vP,hu,h4⟩
theorem Qv(ko:lT){m:Nat}(hB:wF m (ai m))(hK:Bc):lS (m+1) (ai (m+1)):=λA c s W S x self a p R hA hR h V1 V2 q=>by
 injection hK with f o fd hf ho X Tc lM;injection YC h with f' σ u QZ vP hu h4;obtain rfl:=ae (hf.symm.trans QZ);have hz:f.tO.drop (f.tO.length-(f.np-(S::kU x).length))=[]:=by rw [Tc]; exact List.drop_eq_nil_iff.mpr (aA _)
 unfold enter at vP;rw [hz,bS] at vP;refine And.elim (λhl vP=> ?_) (EX vP);obtain rfl:=ae vP;refine ag (lM s self a (hR.ie ko.ie)) λpre z1=>ag z1 λpost z2=>And.elim (λh1 z3=>And.elim (λh2 hb=> ?_) z3) z2;have v:dw c ([S]++ [.int 16,.int 32,.int 32]++([x]++ [.int 4,.int 4,.int 2,.int 128,.int 192,.int 160,.int 128])) ([self]++pre++([a]++post)):=
  eZ (eZ ⟨self,[],V1,rfl⟩ (h1 c)) (eZ ⟨a,[],V2,rfl⟩ (h2 c))
 exact sI ko hB ho X hA hR (all:=S::kU x) (aD.mp hl) hb v hu h4 q
theorem UO(ko:lT)(hF:∀ k f,fn k=some f->k≠76->SK k f)(hK:Bc)(m:Nat):fu m (ai m)/\lS m (ai m):=by
 induction m with
 | zero=>exact ⟨(λA c s W kf as vs p R JD hA hR h V q=>nn h),(λA c s W S x self a p R hA hR h V1 V2 q=>nn h)⟩
 | succ m ih=>have hB:=R9 ko ih.1 ih.2;exact ⟨AU ko hB hF,Qv ko hB hK⟩
end
section
variable{α:Type}{a:Nat}{e:Nat×Nat×α}{f:V->St->Option (List V×St)}{W:List aV}{n m:Nat}{D:List (V×V)}{s:Int}{l tx:Nat}{wu:Int}{k:Nat}{v:V}{y:Option V}{cf:CF}{β γ:Type}{i j:Nat}{W':List aV}{ps:List V}{gY l':Int}{loc:List (Option LV)}{cs:List V}{bs:List Bool}{L N:Nat}{x8 x9:Option LV}{x7:aV}{σ:St}{mo kB:Int}{mx:Nat}{us:Int}{x6:Option LV}{xO:List V}{b8:Int}{ts:List Int}{OD:List (V×V)}{iT iS i4:Option LV}{Wr:List aV}{jA:V}{iQ:Option LV}
abbrev By:=List UInt8
variable{x:By}{g:Nat->Option By}{B M:List (Nat×By)}
abbrev En:=Nat×Nat×By
variable{F:List En}
def Tr:Nat->Type
 | 0=>Option (Nat×Nat×By)
 | l+1=>Option (Nat×Nat×List (Tr l))
variable{t:Tr l}{ow:Tr (l+1)}{T:Tr L}{c:List (Tr l)}
def bC(q:Nat):Nat->Nat
 | 0=>1
 | _+1=>(q*53+15) / 16
def jz(q:Nat):Nat->Nat
 | 0=>4
 | _+1=>q*53
def dH:(l:Nat)->Tr l->Nat
 | 0,t=>match(t:Option (Nat×Nat×By))with
  | none=>0
  | some _=>1
 | l+1,t=>match(t:Option (Nat×Nat×List (Tr l)))with
  | none=>0
  | some p=>(p.2.2.map (dH l)).sum
def key(a c:Int):V:=.tup [.int 0,.int a,.int c]
def PV(k:V)(s l b f:Int):V:=.inst 1 [.tup [k],.int 8,.int l,.int s,.int s,
 .int 0,.int 0,.int b,.int f,.tup [.int 0,.int 0,.int 0,.int 0],.int 0]
abbrev P(c s l b a f:Int):V:=PV (key a c) s l b f
def dE:(l:Nat)->Tr l->Option (Nat×Nat)
 | 0,t=>(t:Option (Nat×Nat×By)).map λp=>(p.1,p.2.1)
 | l+1,t=>(t:Option (Nat×Nat×List (Tr l))).map λp=>(p.1,p.2.1)
def KC(c s l f:Int)(o:Option (Nat×Nat)):V:=match o with
 | none=>.none
 | some p=>P c s l p.1 p.2 f
def ptr(q l:Nat)(t:Tr l):V:=KC (bC q l) (jz q l) l (dH l t) (dE l t)
def bI(n:Int)(i:Nat):Int:=n / 256 ^ i % 256
def uI(n:Int):UInt8:=UInt8.ofNat n.toNat
def pbL(a0 a1 a2 a3 c0 c1 l0 s0 s1 b0 b1 b2 b3 f0 f1 f2:UInt8):By:=[1,0,a0,a1,a2,a3,c0,c1,
 0,0,0,0,0,0,0,0,0,0,0,0,0,0,8,l0,s0,s1,s0,s1,0,b0,b1,b2,b3,f0,f1,f2,0,0,0,0,0,0,0,0,0,0,0,0,0,0,0,0,0]
def pb(c s l b a f:Int):By:=pbL (uI (bI a 0)) (uI (bI a 1)) (uI (bI a 2)) (uI (bI a 3)) (uI (bI c 0)) (uI (bI c 1)) (uI l) (uI (bI s 0)) (uI (bI s 1))
 (uI (bI b 0)) (uI (bI b 1)) (uI (bI b 2)) (uI (bI b 3)) (uI (bI f 0)) (uI (bI f 1)) (uI (bI f 2))
def pbH(c s l f:Int)(o:Option (Nat×Nat)):By:=match o with
 | none=>List.replicate 53 0
 | some p=>pb c s l p.1 p.2 f
def qm(q l:Nat)(t:Tr l):By:=pbH (bC q l) (jz q l) l (dH l t) (dE l t)
def ents(q:Nat):(l:Nat)->Tr l->List En
 | 0,t=>match(t:Option (Nat×Nat×By))with
  | none=>[]
  | some p=>[(p.2.1,1,p.2.2)]
 | l+1,t=>match(t:Option (Nat×Nat×List (Tr l)))with
  | none=>[]
  | some p=>(p.2.1,bC q (l+1),p.2.2.flatMap (qm q l))::p.2.2.flatMap (ents q l)
def enc(e:En):V×V:=(key e.1 e.2.1,.bytes e.2.2)
abbrev Gn:=Nat×Nat×Int
def D3(e:Gn):V×V:=(key e.1 e.2.1,.int e.2.2)
structure HS where
 H:List En
 G:List Gn
 next:Nat
 wn:Int
 ku:Int
 kb:Int
 kf:Int
variable{h h':HS}
structure WE where
 w0:aV
 w4:aV
 w6:aV
 w7:aV
 w8:aV
 w9:aV
variable{E:WE}
def i6(E:WE)(D G:List (V×V))(nx wn ku kb kf:Int)(tl:List aV):List aV:=
 E.w0:: .inst 4 [.int 16,.glob 2,.glob 3,.int nx,.int wn]:: .dict D:: .dict G::E.w4::
  .inst 5 [.glob 1,.int ku,.int kb,.int kf]::E.w6::E.w7::E.w8::E.w9::tl
abbrev bM(E:WE)(h:HS)(tl:List aV):List aV:=i6 E (h.H.map enc) (h.G.map D3) h.next h.wn h.ku h.kb h.kf tl
section
def mr(a c:Nat)(e:Nat×Nat×α):Bool:=e.1==a&&e.2.1==c
def BU(a c:Nat)(H:List (Nat×Nat×α)):Option α:=(H.find? (mr a c)).map (·.2.2)
def nK(a c:Nat)(x:α):List (Nat×Nat×α)->List (Nat×Nat×α)
 | []=>[(a,c,x)]
 | e::r=>bif mr a c e then(e.1,e.2.1,x)::r else e::nK a c x r
theorem Gx{c:Nat}{x:α}{r:List (Nat×Nat×α)}:nK a c x (e::r)=bif mr a c e then(e.1,e.2.1,x)::r else e::nK a c x r:=rfl
def yx(a c:Nat):List (Nat×Nat×α)->List (Nat×Nat×α)
 | []=>[]
 | e::r=>bif mr a c e then r else e::yx a c r
theorem RM{c:Nat}{r:List (Nat×Nat×α)}:yx a c (e::r)=bif mr a c e then r else e::yx a c r:=rfl
theorem rU{c:Nat}:mr a c e=true<->e.1=a/\e.2.1=c:=by unfold mr; rw [fZ,aD,aD]
theorem pU{c:Nat}{x:α}:mr a c (a,c,x)=true:=rU.mpr ⟨rfl,rfl⟩
theorem DG(a c a' c':Nat):dK (key a c) (key a' c')=(a==a'&&c==c'):=by show decide ([0,(a:Int),c]=[0,(a':Int),c'])=_;rw [iJ,fZ,aD,aD,decide_eq_true_iff];exact ⟨λh=>⟨cx (cQ (cQ h).2).1,cx (cQ (cQ (cQ h).2).2).1⟩,λh=>by rw [h.1,h.2]⟩
def nY(f:α->V)(e:Nat×Nat×α):V×V:=(key e.1 e.2.1,f e.2.2)
variable{f:α->V}{c:Nat}{x:α}{H:List (Nat×Nat×α)}
theorem Hp(e:Nat×Nat×α):dK (key e.1 e.2.1) (key a c)=mr a c e:=DG _ _ _ _
theorem CI(a c:Int):ju (key a c) (H.map (nY f))=true:=by show(H.map (nY f)).all _=true;rw [f9];exact aK.mpr λe Z=>rfl
theorem Ea:ey (key a c) (H.map (nY f))=(BU a c H).map f:=by
 induction H with
 | nil=>rfl
 | cons e r ih=>unfold BU;show(bif dK (key e.1 e.2.1) (key a c)then some (f e.2.2)else ey (key a c) (r.map (nY f)))=_;rw [Hp,List.find?_cons,ih];induction mr a c e <;> rfl
theorem sC:gq (key a c) (f x) (H.map (nY f))=(nK a c x H).map (nY f):=by
 induction H with
 | nil=>rfl
 | cons e r ih=>show(bif dK (key e.1 e.2.1) (key a c)then(key e.1 e.2.1,f x)::r.map (nY f)else nY f e::gq (key a c) (f x) (r.map (nY f)))=(bif mr a c e then _ else _:List _).map _;rw [Hp,ih];induction mr a c e <;> rfl
theorem IA:kI (key a c) (H.map (nY f))=(yx a c H).map (nY f):=by
 induction H with
 | nil=>rfl
 | cons e r ih=>show(bif dK (key e.1 e.2.1) (key a c)then r.map (nY f)else nY f e::kI (key a c) (r.map (nY f)))=(bif mr a c e then _ else _:List _).map _;rw [Hp,ih];induction mr a c e <;> rfl
theorem xp:(nK a c x H).length<=H.length+1:=by
 induction H with
 | nil=>exact aA _
 | cons e r ih=>
  show(bif mr a c e then _ else _:List _).length<=_;induction mr a c e
  ·exact cC ih
  ·exact da _
def ND(H:List (Nat×α)):Prop:=(H.map (·.1)).Nodup
theorem ND.perm{H H':List (Nat×α)}(h:ND H)(p:H.Perm H'):ND H':=(p.map _).nodup_iff.mp h
theorem ND.tl{e:Nat×α}{H:List (Nat×α)}(h:ND (e::H)):ND H:=(bj.mp h).2
theorem ND.no(h:ND (e::H))(m:(a,c,x)∈H):mr a c e=false:=
 eF.mpr λq=>(bj.mp h).1 (ba.mpr ⟨_,m,(rU.mp q).1.symm⟩)
theorem K9(h:ND H)(m:(a,c,x)∈H):BU a c H=some x:=by
 unfold BU;induction H with
 | nil=>exact (eX m)
 | cons e r ih=>
  rw [List.find?_cons];rcases aH.mp m with q | m
  ·rw [<-q,pU]; rfl
  ·rw [h.no m]; exact ih h.tl m
theorem Iv(h:ND H)(m:(a,c,x)∈H):H.Perm ((a,c,x)::yx a c H):=by
 induction H with
 | nil=>exact (eX m)
 | cons e r ih=>
  rw [RM];rcases aH.mp m with q | m
  ·rw [<-q,pU]; exact .refl _
  ·rw [h.no m]; exact ((ih h.tl m).cons e).trans (.swap _ _ _)
theorem Kw(y:α)(h:ND H)(m:(a,c,x)∈H):∃ R,H.Perm ((a,c,x)::R)/\(nK a c y H).Perm ((a,c,y)::R):=by
 induction H with
 | nil=>exact (eX m)
 | cons e r ih=>
  rw [Gx];rcases aH.mp m with q | m
  ·rw [<-q,pU]; exact ⟨r,.refl _,.refl _⟩
  ·rw [h.no m];obtain ⟨R,h1,h2⟩:=ih h.tl m;exact ⟨e::R,(h1.cons e).trans (.swap _ _ _),(h2.cons e).trans (.swap _ _ _)⟩
theorem Kx(y:α)(h:∀ e∈H,e.1≠a):nK a c y H=H++ [(a,c,y)]:=by
 induction H with
 | nil=>rfl
 | cons e r ih=>rw [Gx];rw [eF.mpr λq=>h e aq (rU.mp q).1];exact av (e::·) (ih λe he=>h e (aw _ he))
end
section
theorem gv{b:Bool}{x:α}(h:b=true):iv b x=some x:=h▸rfl
theorem dk{a b:Bool}(h:a=true)(h':b=true):(a&&b)=true:=Bool.and_eq_true_iff.mpr ⟨h,h'⟩
theorem abi{n:Int}(h0:0<=n)(h:n<=10):jN W 1 [.lst [.int n]]=some (.int n):=by
 have e:([n]:List Int).sum=n:=by rw [cP,List.sum_nil,Int.add_zero]
 show iv (true&&(([n]:List Int).all λi=>decide (0<=i)&&decide (i<2 ^ 40))) (V.int ([n]:List Int).sum)=_;rw [e];exact gv (dk rfl (dk (dk (ak h0) (ak (Int.lt_of_le_of_lt h ∅))) rfl))
variable{D' G:List (V×V)}{nx wn ku kb kf:Int}{tl:List aV}{a c l b f tx q:Int}{k:V}
theorem SY(h0:0<=c)(hc:c<=10):ai (m+1) 51 [PV (key a c) s l b f] W=some (.int c,W):=by have h:=abi (W:=W) h0 hc;exact au (aZ ..) [fV 6 h] ⋯
theorem w41(h1:ju k D=true)(h2:ey k D=some v):ai (m+1) 41 [.glob 1,PV k s l b f] (i6 E D G nx wn ku kb kf tl)=some (.none,i6 E D G nx wn ku kb kf tl):=by
 have h:inD k D=some true:=by unfold inD; rw [h1,h2]; rfl
 have h':(inD k D).map (!·)=some false:=by rw [h]; rfl
 exact au (aZ ..) [fB 4 h'] ⋯
theorem sE(h1:ju k D=true)(h2:ey k D=some v):Eb k D=some v:=by unfold Eb; rw [h1]; exact h2
theorem vp(e:W[n]? =some (.dict D))(h1:ju k D=true)(h2:gS D=true):Dh W (.glob n) k v=some (W.set n (.dict (gq k v D))):=by show(match W[n]? with | some (.dict l)=>iv (ju k l&&gS l) (W.set n (.dict (gq k v l))) | some (.sd ks vs)=>(Ni ks vs k v).map λzi=>W.set n (.sd ks zi) | _=>none)=_;rw [e]; exact gv (dk h1 h2)
theorem GA(e:W[n]? =some (.dict D))(h1:ju k D=true)(h2:gS D=true)(h3:ey k D=some v):CQ W (.glob n) 56 [k]=some (v,W.set n (.dict (kI k D))):=by show(eJ W n).bind (KD W n k)=_;unfold eJ;rw [e];show KD W n k D=_;unfold KD;rw [dk h1 h2,h3]; rfl
theorem abX{a b:Int}(h:a=b):some (!decide (a=b))=some false:=by rw [ak h]; rfl
theorem w42(h1:ju k D=true)(h2:ey k D=some (.bytes x))(h3:(x.length:Int)=s):ai (m+2) 42 [.glob 1,PV k s l b f] (i6 E D G nx wn ku kb kf tl)=some (.bytes x,i6 E D G nx wn ku kb kf tl):=by have w:=w41 (m:=m) (E:=E) (G:=G) (nx:=nx) (wn:=wn) (ku:=ku) (kb:=kb) (kf:=kf) (tl:=tl) (s:=s) (l:=l) (b:=b) (f:=f) h1 h2;exact au (aZ ..) [fC 0 w,fV 3 (sE h1 h2),fB 3 (abX h3)] ⋯
theorem w43(h1:ju k D=true)(h2:ey k D=some (.bytes x))(h3:gS D=true)(h4:ju k G=true)(h5:gS G=true):
  ai (m+2) 43 [.glob 1,PV k s l b f,.int tx] (i6 E D G nx wn ku kb kf tl)=some (.none,i6 E (kI k D) (gq k (.int tx) G) nx wn ku kb kf tl):=by
 have w:=w41 (m:=m) (E:=E) (G:=G) (nx:=nx) (wn:=wn) (ku:=ku) (kb:=kb) (kf:=kf) (tl:=tl) (s:=s) (l:=l) (b:=b) (f:=f) h1 h2;have g:=vp (W:=i6 E D G nx wn ku kb kf tl) (n:=3) (v:=.int tx) rfl h4 h5;have p:=GA (W:=i6 E D (gq k (.int tx) G) nx wn ku kb kf tl) (n:=2) rfl h1 h3 h2;exact au (aZ ..) [fC 0 w,fW 4 g,fC 1 p] ⋯
theorem w45(h0:0<=c)(hc:c<=10):ai (m+2) 45 [.glob 5,PV (key a c) s l b f] (i6 E D G nx wn ku kb kf tl)=some (.none,i6 E D G nx wn (ku+c) (kb+1) kf tl):=by have w:=λW=>SY (m:=m) (W:=W) (a:=a) (s:=s) (l:=l) (b:=b) (f:=f) h0 hc;exact au (aZ ..) [fC 1 (w (i6 E D G nx wn ku kb kf tl))] ⋯
theorem w46(h0:0<=c)(hc:c<=10)(h1:ju (key a c) D=true)(h2:ey (key a c) D=some (.bytes x))(h3:gS D=true)(h4:ju (key a c) G=true)(h5:gS G=true):
  ai (m+3) 46 [.glob 5,PV (key a c) s l b f,.int tx] (i6 E D G nx wn ku kb kf tl)=some (.none,i6 E (kI (key a c) D) (gq (key a c) (.int tx) G) nx wn (ku-c) kb (kf+1) tl):=by
 have w:=λW=>SY (m:=m+1) (W:=W) (a:=a) (s:=s) (l:=l) (b:=b) (f:=f) h0 hc;have w2:=λku kf=>w43 (m:=m) (E:=E) (nx:=nx) (wn:=wn) (ku:=ku) (kb:=kb) (kf:=kf) (tl:=tl) (s:=s) (l:=l) (b:=b) (f:=f) (tx:=tx) h1 h2 h3 h4 h5;exact au (aZ ..) [fC 1 (w (i6 E D G nx wn ku kb kf tl)),fC 6 (w2 (ku-c) (kf+1))] ⋯
end
section
def wr(q tx wu:Int):aV:=.inst 3 [.glob 1,.inst 6 [.int 16,.int 32,.int 32,.int q,.int 4,.int 4,.int 2,.int 128,.int 192,.int 160,.int 128],.int 8,
 .inst 0 [.int 0,.int 2,.int 1,.int 0],.int tx,.glob 5,.int wu]
variable{D' G:List (V×V)}{nx wn ku kb kf:Int}{tl:List aV}{a c l b f fo tx q n:Int}{k:V}
theorem w32(h0:0<=c)(hc:c<=10)(h1:ju (key a c) D=true)(h2:ey (key a c) D=some (.bytes x))(h3:gS D=true)(h4:ju (key a c) G=true)(h5:gS G=true):
  ai (m+4) 32 [.glob 10,PV (key a c) s l b f] (i6 E D G nx wn ku kb kf [wr q tx wu])=
   some (.none,i6 E (kI (key a c) D) (gq (key a c) (.int tx) G) nx wn (ku-c) kb (kf+1) [wr q tx (wu-c)]):=by
 have w:=λW=>SY (m:=m+2) (W:=W) (a:=a) (s:=s) (l:=l) (b:=b) (f:=f) h0 hc;have w2:=λtl=>w46 (m:=m) (E:=E) (nx:=nx) (wn:=wn) (ku:=ku) (kb:=kb) (kf:=kf) (tl:=tl) (s:=s) (l:=l) (b:=b) (f:=f) (tx:=tx) h0 hc h1 h2 h3 h4 h5;exact au (aZ ..) [fC 1 (w (i6 E D G nx wn ku kb kf [wr q tx wu])),fC 4 (w2 [wr q tx (wu-c)])] ⋯
theorem yk{W:List α}{x:α}:(W++ [x])[W.length]? =some x:=by rw [List.getElem?_append_right (aA _),Nat.sub_self]; rfl
theorem FQ{W:List α}{x y:α}:(W++ [x]).set W.length y=W++ [y]:=by rw [List.set_append_right _ _ (aA _),Nat.sub_self]; rfl
theorem sn(c:Nat)(l:List V)(f:Nat)(v:V)(h:Gy c l f v=some (l++ [v])):Kk (W++ [.inst c l]) (.glob W.length) f v=some (W++ [.inst c (l++ [v])]):=by show(lj (W++ [.inst c l]) W.length).bind (λp=>(Gy p.1 p.2 f v).map λl'=>(W++ [aV.inst c l]).set W.length (.inst p.1 l'))=_;unfold lj;rw [yk];show(Gy c l f v).map _=_;rw [h];exact av some FQ
theorem w81{a0 a1 a2 a3 a4 a5 a6 a7 a8 a9 Sm:V}:ai (m+1) 81 [.glob W.length,a0,a1,a2,a3,a4,a5,a6,a7,a8,a9,Sm] (W++ [.inst 1 []])=some (.none,W++ [.inst 1 [a0,a1,a2,a3,a4,a5,a6,a7,a8,a9,Sm]]):=au (aZ ..) [fW 0 (sn (W:=W) 1 [] 4 a0 rfl),fW 0 (sn (W:=W) 1 [a0] 5 a1 rfl),fW 0 (sn (W:=W) 1 [a0,a1] 6 a2 rfl),fW 0 (sn (W:=W) 1 [a0,a1,a2] 7 a3 rfl),fW 0 (sn (W:=W) 1 [a0,a1,a2,a3] 8 a4 rfl),fW 0 (sn (W:=W) 1 [a0,a1,a2,a3,a4] 0 a5 rfl),fW 0 (sn (W:=W) 1 [a0,a1,a2,a3,a4,a5] 1 a6 rfl),fW 0 (sn (W:=W) 1 [a0,a1,a2,a3,a4,a5,a6] 9 a7 rfl),fW 0 (sn (W:=W) 1 [a0,a1,a2,a3,a4,a5,a6,a7] 10 a8 rfl),fW 0 (sn (W:=W) 1 [a0,a1,a2,a3,a4,a5,a6,a7,a8] 11 a9 rfl),fW 0 (sn (W:=W) 1 [a0,a1,a2,a3,a4,a5,a6,a7,a8,a9] 3 Sm rfl)] ⋯
theorem w80{a0 a1 a2 a3:V}:ai (m+1) 80 [.glob W.length,a0,a1,a2,a3] (W++ [.inst 0 []])=some (.none,W++ [.inst 0 [a0,a1,a2,a3]]):=au (aZ ..) [fW 0 (sn (W:=W) 0 [] 0 a0 rfl),fW 0 (sn (W:=W) 0 [a0] 1 a1 rfl),fW 0 (sn (W:=W) 0 [a0,a1] 2 a2 rfl),fW 0 (sn (W:=W) 0 [a0,a1,a2] 3 a3 rfl)] ⋯
theorem w86{a0 a1 a2 a3 a4 a5 a6 a7 a8 a9 Sm:V}:ai (m+1) 86 [.glob W.length,a0,a1,a2,a3,a4,a5,a6,a7,a8,a9,Sm] (W++ [.inst 6 []])=some (.none,W++ [.inst 6 [a0,a1,a2,a3,a4,a5,a6,a7,a8,a9,Sm]]):=au (aZ ..) [fW 0 (sn (W:=W) 6 [] 23 a0 rfl),fW 0 (sn (W:=W) 6 [a0] 30 a1 rfl),fW 0 (sn (W:=W) 6 [a0,a1] 31 a2 rfl),fW 0 (sn (W:=W) 6 [a0,a1,a2] 32 a3 rfl),fW 0 (sn (W:=W) 6 [a0,a1,a2,a3] 33 a4 rfl),fW 0 (sn (W:=W) 6 [a0,a1,a2,a3,a4] 34 a5 rfl),fW 0 (sn (W:=W) 6 [a0,a1,a2,a3,a4,a5] 35 a6 rfl),fW 0 (sn (W:=W) 6 [a0,a1,a2,a3,a4,a5,a6] 36 a7 rfl),fW 0 (sn (W:=W) 6 [a0,a1,a2,a3,a4,a5,a6,a7] 37 a8 rfl),fW 0 (sn (W:=W) 6 [a0,a1,a2,a3,a4,a5,a6,a7,a8] 38 a9 rfl),fW 0 (sn (W:=W) 6 [a0,a1,a2,a3,a4,a5,a6,a7,a8,a9] 39 Sm rfl)] ⋯
theorem Ac{c:Nat}{as l:List V}(h:cf (80+c) (.glob W.length::as) (W++ [.inst c []])=some (.none,W++ [.inst c l]))(h1:lP W.length l=true)(h2:W.all (nk W.length)=true):G3 bT cf c as W=some (.inst c l,W):=by unfold G3;show(cf (80+c) (.glob W.length::as) (W++ [.inst c []])).bind _=_;rw [h];show(HB (W++ [.inst c l]) W.length c).bind _=_;unfold HB lj;rw [yk];show(iv (c==c) l).bind _=_;rw [aG];show(iv (true&&((W++ [aV.inst c l]).length==W.length+1)) ()).bind _=_;rw [show(W++ [aV.inst c l]).length=W.length+1 from aQ,aG];show(bT.gd (lP W.length l&&((W++ [aV.inst c l]).take W.length).all (nk W.length))).bind _=_;rw [List.take_left,h1,h2];rfl
theorem mkP(hk:tv W.length k=true)(h2:W.all (nk W.length)=true):G3 bT (ai (m+1)) 1 [.tup [k],.int 8,.int l,.int s,.int s,.int 0,.int 0,.int b,.int f,.tup [.int 0,.int 0,.int 0,.int 0],.int 0] W=some (PV k s l b f,W):=
 Ac (c:=1) w81 (dk (dk hk rfl) rfl) h2
theorem V4(h2:W.all (nk W.length)=true):G3 bT (ai (m+1)) 0 [.int 0,.int 2,.int 1,.int 0] W=some (.inst 0 [.int 0,.int 2,.int 1,.int 0],W):=Ac (c:=0) w80 rfl h2
structure wD(E:WE)(n:Nat):Prop where
 w0:nk n E.w0=true
 w4:nk n E.w4=true
 w6:nk n E.w6=true
 w7:nk n E.w7=true
 w8:nk n E.w8=true
 w9:nk n E.w9=true
theorem wO{g:α->V}(hg:∀ n x,tv n (g x)=true)(n:Nat)(H:List (Nat×Nat×α)):tu n (H.map (nY g))=true:=by
 induction H with
 | nil=>rfl
 | cons e r ih=>exact dk (dk rfl (hg _ _)) ih
theorem K1(h:wD E (tl.length+10))(ht:tl.all (nk (tl.length+10))=true)(hD:∀ n,tu n D=true)(hG:∀ n,tu n G=true):(i6 E D G nx wn ku kb kf tl).all (nk (i6 E D G nx wn ku kb kf tl).length)=true:=
 dk h.w0 (dk rfl (dk (hD _) (dk (hG _) (dk h.w4 (dk rfl (dk h.w6 (dk h.w7 (dk h.w8 (dk h.w9 ht)))))))))
theorem ab6{c:Int}(h:small c=true):d7 .Mult (.int 0) (.int c)=some (.int 0):=by show iv (true&&small c) (V.int (0*c))=_;rw [h,Int.zero_mul]; rfl
theorem aen(i:Int):d7 .Add (.int i) (.int 0)=some (.int i):=av (λz=>some (V.int z)) (Int.add_zero i)
theorem ab5{c:Int}(h:small c=true):d7 .Mult (.int 1) (.int c)=some (.int c):=by show iv (true&&small c) (V.int (1*c))=_;rw [h,Int.one_mul]; rfl
theorem aa4 (hn:(x.length:Int)=n) (hc:(n+16-1).fdiv 16=c) (hs:small c=true)
  (h1:ju (key nx c) D=true) (h3:gS D=true) (hD:gq (key nx c) (.bytes x) D=D')
  (hA:(i6 E D' G (nx+c) (wn+1) ku kb kf tl).all (nk (i6 E D' G (nx+c) (wn+1) ku kb kf tl).length)=true):
  ai (m+2) 40 [.glob 1,.bytes x,.int 8,.int l,.inst 0 [.int 0,.int 2,.int 1,.int 0],.int tx,.int f,.none] (i6 E D G nx wn ku kb kf tl)=
   some (PV (key nx c) n l tx f,i6 E D' G (nx+c) (wn+1) ku kb kf tl):=by
 have w:=mkP (m:=m) (k:=key nx c) (s:=n) (l:=l) (b:=tx) (f:=f) rfl hA;subst hn hc hD;exact au (aZ ..) [fV 18 (ab6 hs),fV 0 (aen nx),fV 4 (ab5 hs),fW 5 (vp (W:=i6 E D G (nx+((x.length:Int)+16-1).fdiv 16) (wn+1) ku kb kf tl) (n:=2) (v:=.bytes x) rfl h1 h3),fC 1 w] ⋯
theorem aa5 (hn:(x.length:Int)=n) (hc:(n+16-1).fdiv 16=c) (hk:∀ n,tv n k=true)
  (h1:ju k D=true) (h2:ey k D=some v) (h3:gS D=true) (hD:gq k (.bytes x) D=D')
  (hA:(i6 E D' G nx (wn+1) ku kb kf tl).all (nk (i6 E D' G nx (wn+1) ku kb kf tl).length)=true):
  ai (m+2) 40 [.glob 1,.bytes x,.int 8,.int l,.inst 0 [.int 0,.int 2,.int 1,.int 0],.int tx,.int f,PV k n l tx fo] (i6 E D G nx wn ku kb kf tl)=
   some (PV k n l tx f,i6 E D' G nx (wn+1) ku kb kf tl):=by
 have w:=mkP (m:=m) (s:=n) (l:=l) (b:=tx) (f:=f) (hk _) hA;have w2:=w41 (m:=m) (E:=E) (G:=G) (nx:=nx) (wn:=wn+1) (ku:=ku) (kb:=kb) (kf:=kf) (tl:=tl) (s:=n) (l:=l) (b:=tx) (f:=fo) h1 h2;subst hn hD;exact au (aZ ..) [fT 12 (aG tx),fT 3 (aG (x.length:Int)),fC 3 w2,fW 3 (vp (W:=i6 E D G nx (wn+1) ku kb kf tl) (n:=2) (v:=.bytes x) rfl h1 h3),fC 1 w] ⋯
end
section
theorem Ow(n:Int)(i:Nat):0<=bI n i:=Int.emod_nonneg _ ∅
theorem Ox(n:Int)(i:Nat):bI n i<256:=Int.emod_lt_of_pos _ ∅
def iB(x:UInt8):Int:=x.toNat
theorem NR(x:UInt8):0<=iB x:=aN _
theorem NS(x:UInt8):iB x<256:=cz.mpr x.toNat_lt
theorem NQ{n:Int}(h0:0<=n)(h:n<256):iB (uI n)=n:=by refine ag (Int.eq_ofNat_of_zero_le h0) λk z1=> ?_;obtain rfl:=z1;unfold iB uI;rw [UInt8.toNat_ofNat',Int.toNat_natCast,Nat.mod_eq_of_lt (cz.mp h)]
theorem WJ(n:Int)(i:Nat):iB (uI (bI n i))=bI n i:=NQ (Ow n i) (Ox n i)
theorem KV{n:Int}(i:Nat)(h:0<=n):d7 .BitAnd (.int (n.fdiv (2 ^ (8*i)))) (.int 255)=some (.int (bI n i)):=by
 refine ag (Int.eq_ofNat_of_zero_le h) λk z1=> ?_;obtain rfl:=z1;have e:(k:Int).fdiv (2 ^ (8*i))=((k / 2 ^ (8*i):Nat):Int):=by rw [Int.fdiv_eq_ediv_of_nonneg _ (Int.le_of_lt (Int.pow_pos ∅)),Int.natCast_ediv,Int.natCast_pow]; rfl
 rw [e];show iv (decide ((0:Int)<=((k / 2 ^ (8*i):Nat):Int))&&true) (V.int (((k / 2 ^ (8*i))&&&255:Nat):Int))=_;rw [ak (aN _)];refine av (λz=>some (V.int z)) ?_;rw [show(k / 2 ^ (8*i))&&&255=(k / 2 ^ (8*i)) % 256 from Nat.and_two_pow_sub_one_eq_mod _ 8,Int.natCast_emod,Int.natCast_ediv,Nat.pow_mul,Int.natCast_pow];rfl
theorem jo{f:α->Option β}{g:γ->α}{h:γ->β}(l:List γ)(e:∀ x∈l,f (g x)=some (h x)):jD f (l.map g)=some (l.map h):=by
 induction l with
 | nil=>rfl
 | cons x r ih=>show(f (g x)).bind _=_;rw [e x aq];show(jD f (r.map g)).map _=_;rw [ih λy hy=>e y (aw _ hy)]; rfl
theorem sW{h:γ->Int}(l:List γ):dG (l.map λx=>.int (h x))=some (l.map h):=jo l λZ Z=>rfl
theorem De{i:Int}(h0:0<=i)(h:i<256):iy i=some (uI i):=by unfold iy; rw [ak h0,ak h]; rfl
theorem RZ{h:γ->Int}(l:List γ)(e:∀ x∈l,0<=h x/\h x<256):jN W 10 [.lst (l.map λx=>.int (h x))]=some (.bytes (l.map λx=>uI (h x))):=by show((dG (l.map λx=>V.int (h x))).bind toBytes).map V.bytes=_;rw [sW];show(jD iy (l.map h)).map _=_;rw [jo l λx hx=>De (e x hx).1 (e x hx).2]; rfl
theorem RY(n:Int)(l:List Nat):jN W 10 [.lst (l.map λx=>.int (bI n x))]=some (.bytes (l.map λx=>uI (bI n x))):=RZ l λx Z=>⟨Ow n x,Ox n x⟩
theorem AX{b:Bool}(h:b=true):(!b)=false:=h▸rfl
variable{n:Int}
theorem M7(h0:0<=n)(h1:n<65536):ai (m+1) 48 [.int n,.int 2] W=some (.bytes [uI (bI n 0),uI (bI n 1)],W):=by have g0:decide (0<=n)=true:=ak h0;have g1:=AX (ak h1);exact au (aZ ..) [fT 0 g0,fF 2 g1,fV 6 (KV 0 h0),fV 3 (KV 1 h0),fV 1 (RY (W:=W) n [0,1])] ⋯
theorem Ux(h0:0<=n)(h1:n<16777216):ai (m+1) 48 [.int n,.int 3] W=some (.bytes [uI (bI n 0),uI (bI n 1),uI (bI n 2)],W):=by have g0:decide (0<=n)=true:=ak h0;have g1:=AX (ak h1);exact au (aZ ..) [fT 0 g0,fF 2 g1,fV 6 (KV 0 h0),fV 3 (KV 1 h0),fV 3 (KV 2 h0),fV 1 (RY (W:=W) n [0,1,2])] ⋯
theorem E4(h0:0<=n)(h1:n<4294967296):ai (m+1) 48 [.int n,.int 4] W=some (.bytes [uI (bI n 0),uI (bI n 1),uI (bI n 2),uI (bI n 3)],W):=by have g0:decide (0<=n)=true:=ak h0;have g1:=AX (ak h1);exact au (aZ ..) [fT 0 g0,fF 2 g1,fV 6 (KV 0 h0),fV 3 (KV 1 h0),fV 3 (KV 2 h0),fV 3 (KV 3 h0),fV 1 (RY (W:=W) n [0,1,2,3])] ⋯
theorem vm{i:Int}(h0:0<=i)(h:i<=1000000):small i=true:=dk (ak (Int.lt_of_lt_of_le ∅ h0)) (ak (Int.lt_of_le_of_lt h ∅))
theorem shl(x:UInt8)(i:Nat)(hi:8*i<=1000):d7 .LShift (.int (iB x)) (.int ((8*i:Nat):Int))=some (.int (iB x*256 ^ i)):=by refine (gv (dk (dk (ak (aN _)) (ak (cG.mpr hi))) (vm (NR x) (cn (Int.le_of_lt (NS x)) ∅)))).trans ?_;show some (V.int (iB x*2 ^ (8*i)))=_;rw [Int.pow_mul]; rfl
theorem UY{l:List Int}(h1:jR l.length=true)(h2:∀ i∈l,0<=i/\i<2 ^ 40):jN W 1 [.lst (l.map λi=>.int i)]=some (.int l.sum):=by show(dG (l.map λi=>V.int i)).bind _=_;rw [sW,List.map_id'];exact gv (dk h1 (aK.mpr λi hi=>dk (ak (h2 i hi).1) (ak (h2 i hi).2)))
def numAt(k:Nat):List UInt8->List Int
 | []=>[]
 | x::r=>iB x*256 ^ k::numAt (k+1) r
theorem GR{l:List UInt8}:∀ {k:Nat},k+l.length<=4->∀ i∈numAt k l,0<=i/\i<2 ^ 40:=by
 induction l with
 | nil=>exact λZ Z h=>(eX h)
 | cons x r ih=>
  intro k hk i hi;rcases aH.mp hi with q | hi
  ·rw [q];have p:(0:Int)<256 ^ k:=Int.pow_pos ∅;refine ⟨Int.mul_nonneg (NR x) (Int.le_of_lt p),Int.lt_of_lt_of_le (Int.mul_lt_mul_of_pos_right (NS x) p) ?_⟩;have hk:k<=3:=dN (af (bf (cC (bw r.length)) k) hk);have e:((256:Int)*256 ^ k)=((256*256 ^ k:Nat):Int):=by rw [Int.natCast_mul,Int.natCast_pow]; rfl
   rw [e];exact cG.mpr (af (Nat.mul_le_mul_left 256 (Nat.pow_le_pow_right ∅ hk)) (show 256*256 ^ 3<=2 ^ 40 by decide))
  ·exact ih (af (bW (cF k r.length)) hk) i hi
theorem Px(l:List UInt8)(h:l.length<=4):jN W 1 [.lst ((numAt 0 l).map λi=>.int i)]=some (.int (numAt 0 l).sum):=by
 have e:∀ k,(numAt k l).length=l.length:=by
  clear h;induction l with
  | nil=>exact λZ=>rfl
  | cons x r ih=>exact λk=>av (· +1) (ih _)
 exact UY (ak (e 0▸af h ∅)) (GR (by rw [bF]; exact h))
theorem rt{n:Int}(h0:0<=n):∀ (j k:Nat),(numAt k ((List.range' k j).map λi=>uI (bI n i))).sum=n % 256 ^ (k+j)-n % 256 ^ k:=by
 refine ag (Int.eq_ofNat_of_zero_le h0) λa z1=> ?_;obtain rfl:=z1;intro j;induction j with
 | zero=>exact λk=>(Int.sub_self _).symm
 | succ j ih=>
  intro k;show(iB (uI (bI a k))*256 ^ k::numAt (k+1) ((List.range' (k+1) j).map λi=>uI (bI a i))).sum=_;rw [cP,ih,WJ,cF];have e:(a:Int) % 256 ^ (k+1)=a % 256 ^ k+bI a k*256 ^ k:=by have:=Nat.mod_mul (x:=a) (a:=256 ^ k) (b:=256);rw [<-f7] at this;have t:((256:Int) ^ (k+1))=((256 ^ (k+1):Nat):Int):=(Int.natCast_pow ..).symm;have t':((256:Int) ^ k)=((256 ^ k:Nat):Int):=(Int.natCast_pow ..).symm;unfold bI;rw [t,t',<-Int.natCast_emod,this,Int.natCast_add,Int.natCast_mul,Int.natCast_emod,Int.natCast_emod,Int.natCast_ediv,Int.mul_comm]; rfl
  rw [e];generalize bI a k*256 ^ k=y;generalize (a:Int) % 256 ^ k=x;lia
end
section
variable{n:Int}{c l b a f:Int}
theorem UA(x0 x1:UInt8):ai (m+1) 47 [.bytes [x0,x1]] W=some (.int (numAt 0 [x0,x1]).sum,W):=au (aZ ..) [fV 4 (shl x0 0 ∅),fV 2 (shl x1 1 ∅),fV 1 (Px (W:=W) [x0,x1] (bH rfl))] ⋯
theorem Uz(x0 x1 x2:UInt8):ai (m+1) 47 [.bytes [x0,x1,x2]] W=some (.int (numAt 0 [x0,x1,x2]).sum,W):=au (aZ ..) [fV 4 (shl x0 0 ∅),fV 2 (shl x1 1 ∅),fV 2 (shl x2 2 ∅),fV 1 (Px (W:=W) [x0,x1,x2] (bH rfl))] ⋯
theorem Uy(x0 x1 x2 x3:UInt8):ai (m+1) 47 [.bytes [x0,x1,x2,x3]] W=some (.int (numAt 0 [x0,x1,x2,x3]).sum,W):=au (aZ ..) [fV 4 (shl x0 0 ∅),fV 2 (shl x1 1 ∅),fV 2 (shl x2 2 ∅),fV 2 (shl x3 3 ∅),fV 1 (Px (W:=W) [x0,x1,x2,x3] (bH rfl))] ⋯
theorem rt0(h0:0<=n)(h1:n<256 ^ j):(numAt 0 ((List.range' 0 j).map λi=>uI (bI n i))).sum=n:=by rw [rt h0 j 0,bF,Int.emod_eq_of_lt h0 h1,Int.pow_zero,Int.emod_one,Int.sub_zero]
theorem NC(h0:0<=n)(h1:n<65536):ai (m+1) 47 [.bytes [uI (bI n 0),uI (bI n 1)]] W=some (.int n,W):=(UA _ _).trans (av (λz=>some (V.int z,W)) (rt0 (j:=2) h0 h1))
theorem VW(h0:0<=n)(h1:n<16777216):ai (m+1) 47 [.bytes [uI (bI n 0),uI (bI n 1),uI (bI n 2)]] W=some (.int n,W):=(Uz _ _ _).trans (av (λz=>some (V.int z,W)) (rt0 (j:=3) h0 h1))
theorem NB(h0:0<=n)(h1:n<4294967296):ai (m+1) 47 [.bytes [uI (bI n 0),uI (bI n 1),uI (bI n 2),uI (bI n 3)]] W=some (.int n,W):=(Uy _ _ _ _).trans (av (λz=>some (V.int z,W)) (rt0 (j:=4) h0 h1))
theorem z48:ai (m+1) 48 [.int 0,.int 4] W=some (.bytes [0,0,0,0],W):=E4 ∅ ∅
structure Rg(c s l b a f:Int):Prop where
 c0:0<=c
 c1:c<65536
 s0:0<=s
 s1:s<65536
 l0:0<=l
 l1:l<256
 b0:1<=b
 b1:b<4294967296
 a0:0<=a
 a1:a<4294967296
 f0:0<=f
 f1:f<16777216
theorem aa0:ai (m+1) 52 [.none] W=some (.bytes (List.replicate 53 0),W):=au (aZ ..) [] ⋯
theorem w52(h:Rg c s l b a f):ai (m+2) 52 [PV (key a c) s l b f] W=some (.bytes (pb c s l b a f),W):=by have ha:=E4 (m:=m) (W:=W) h.a0 h.a1;have hc:=M7 (m:=m) (W:=W) h.c0 h.c1;have hs:=M7 (m:=m) (W:=W) h.s0 h.s1;have hb:=E4 (m:=m) (W:=W) (cn ∅ h.b0) h.b1;have hf:=Ux (m:=m) (W:=W) h.f0 h.f1;have hl:=RZ (W:=W) (h:=id) [8,l] (ah.mpr ⟨⟨∅,∅⟩,ah.mpr ⟨⟨h.l0,h.l1⟩,λZ q=>(eX q)⟩⟩);exact au (aZ ..) [fC 6 ha,fC 1 hc,fC 12 hs,fC 1 hs,fC 7 hb,fC 1 hf,fC 5 (z48 (m:=m) (W:=W)),fV 10 hl] ⋯
end
section
variable{n:Int}{c l b a f:Int}
theorem sR{i j:Int}(h:i≠j):(i==j)=false:=aI.mpr h
theorem aaZ:ai (m+1) 53 [.bytes (List.replicate 53 0)] W=some (.none,W):=au (aZ ..) [] ⋯
theorem w53(h:Rg c s l b a f)(hW:W.all (nk W.length)=true):ai (m+2) 53 [.bytes (pb c s l b a f)] W=some (PV (key a c) s l b f,W):=by have ha:=NB (m:=m) (W:=W) h.a0 h.a1;have hc:=NC (m:=m) (W:=W) h.c0 h.c1;have hs:=NC (m:=m) (W:=W) h.s0 h.s1;have hb:=NB (m:=m) (W:=W) (cn ∅ h.b0) h.b1;have hf:=VW (m:=m) (W:=W) h.f0 h.f1;have hl:lR W (.bytes (pb c s l b a f)) (.int 23)=some (.int l):=av (λz=>some (V.int z)) (NQ h.l0 h.l1);have hz:=sR λq:b=0=>absurd (q▸h.b0) ∅;have w:=mkP (m:=m) (k:=key a c) (s:=s) (l:=l) (b:=b) (f:=f) rfl hW;exact au (aZ ..) [fC 26 ha,fC 3 hc,fV 4 hl,fC 5 hs,fC 3 hs,fC 3 hb,fC 3 hf,fF 35 hz,fC 4 w] ⋯
end
section
variable{B b0 b1 b2:By}{p0 p1 p2:V}
theorem B7(l:List By)(h1:jR l.flatten.length=true)(h2:decide (l.length<=1000)=true)(h3:l.isEmpty=false):CQ W (.bytes []) 55 [.lst (l.map λx=>.bytes x)]=some (.bytes l.flatten,W):=by
 show(I6 (l.map λx=>V.bytes x)).bind _=_;rw [show I6 (l.map λx=>V.bytes x)=some (l.map id)from jo l λZ Z=>rfl,List.map_id];refine gv (dk (dk h1 ?_) ?_)
 ·rw [ao]; exact h2
 ·rw [List.isEmpty_map,h3]; rfl
theorem Us(h0:ai m 52 [p0] W=some (.bytes b0,W))(h1:ai m 52 [p1] W=some (.bytes b1,W))(h:jR [b0,b1].flatten.length=true):ai (m+1) 54 [.lst [p0,p1]] W=some (.bytes [b0,b1].flatten,W):=by have j:=B7 (W:=W) [b0,b1] h rfl rfl;exact au (aZ ..) [fC 3 h0,fC 1 h1,fC 1 j] ⋯
theorem Ur(h0:ai m 52 [p0] W=some (.bytes b0,W))(h1:ai m 52 [p1] W=some (.bytes b1,W))(h2:ai m 52 [p2] W=some (.bytes b2,W))(h:jR [b0,b1,b2].flatten.length=true):ai (m+1) 54 [.lst [p0,p1,p2]] W=some (.bytes [b0,b1,b2].flatten,W):=by have j:=B7 (W:=W) [b0,b1,b2] h rfl rfl;exact au (aZ ..) [fC 3 h0,fC 1 h1,fC 1 h2,fC 1 j] ⋯
theorem Uq(hB:B.length=106)(s0:pI (.bytes B) (.int 0) (.int 53)=some (.bytes b0))(s1:pI (.bytes B) (.int 53) (.int 106)=some (.bytes b1))(h0:ai m 53 [.bytes b0] W=some (p0,W))(h1:ai m 53 [.bytes b1] W=some (p1,W)):
  ai (m+1) 55 [.bytes B] W=some (.lst [p0,p1],W):=by
 have l:jN W 0 [.bytes B]=some (.int 106):=av (λz:Nat=>some (V.int z)) hB;exact au (aZ ..) [fV 0 l,fV 7 s0,fC 0 h0,fV 2 s1,fC 0 h1] ⋯
theorem Up (hB:B.length=159) (s0:pI (.bytes B) (.int 0) (.int 53)=some (.bytes b0)) (s1:pI (.bytes B) (.int 53) (.int 106)=some (.bytes b1)) (s2:pI (.bytes B) (.int 106) (.int 159)=some (.bytes b2))
  (h0:ai m 53 [.bytes b0] W=some (p0,W)) (h1:ai m 53 [.bytes b1] W=some (p1,W)) (h2:ai m 53 [.bytes b2] W=some (p2,W)):ai (m+1) 55 [.bytes B] W=some (.lst [p0,p1,p2],W):=by
 have l:jN W 0 [.bytes B]=some (.int 159):=av (λz:Nat=>some (V.int z)) hB;exact au (aZ ..) [fV 0 l,fV 7 s0,fC 0 h0,fV 2 s1,fC 0 h1,fV 2 s2,fC 0 h2] ⋯
end
section
abbrev dD:V:=.inst 0 [.int 0,.int 2,.int 1,.int 0]
variable{D' Zw G G':List (V×V)}{nx BM wn Bk ku Wi kb kf Wl q tx jy l f c so lo bo fo sn fn s0 l1 b0 f0:Int}{new ko:V}
theorem w49(hW:W.all (nk W.length)=true):ai (m+2) 49 [.int 1] W=some (dD,W):=by have w:=V4 (m:=m) hW;exact au (aZ ..) [fC 0 w] ⋯
theorem Bm(a c:Int):zj (.tup [key a c]) (.tup [key a c])=some true:=by have h:∀ i:Int,(i==i)=true:=λi=>aG i;show(Option.map (λb=>(true&&((a==a)&&((c==c)&&true)))&&b) (some true))=_;rw [h,h]; rfl
theorem abG(hx:(x.any λi=>i != 0)=false):ai (m+1) 34 [.glob 10,.none,.int l,.bytes x,.int f] W=some (.none,W):=by have h:(!(x.any λi=>i != 0))=true:=hx▸rfl;exact au (aZ ..) [fT 1 h] ⋯
theorem P1(hx:(x.any λi=>i != 0)=false)(Cm:ai m 32 [.glob 10,PV ko so lo bo fo] (i6 E D G nx wn ku kb kf [wr q tx wu])=some (.none,W')):
  ai (m+1) 34 [.glob 10,PV ko so lo bo fo,.int l,.bytes x,.int f] (i6 E D G nx wn ku kb kf [wr q tx wu])=some (.none,W'):=by
 have h:(!(x.any λi=>i != 0))=true:=hx▸rfl;exact au (aZ ..) [fT 1 h,fC 1 Cm] ⋯
section
variable(hx:(x.any λi=>i != 0)=true)(Oa:ai m 49 [.int 1] (i6 E D G nx wn ku kb kf [wr q tx wu])=some (dD,i6 E D G nx wn ku kb kf [wr q tx wu])){l0:Bool}(hl:(l==0)=l0)
include hx Oa hl
theorem Vq (Ob:ai m 40 [.glob 1,.bytes x,.int 8,.int l,dD,.int tx,.int f,.none] (i6 E D G nx wn ku kb kf [wr q tx wu])=some (PV ko so lo bo fo,i6 E D' G BM Bk ku kb kf [wr q tx wu]))
  (HW:∀ W,ai m 51 [PV ko so lo bo fo] W=some (.int c,W))
  (XJ:ai m 45 [.glob 5,PV ko so lo bo fo] (i6 E D' G BM Bk ku kb kf [wr q tx (wu+c)])=some (.none,i6 E D' G BM Bk (ku+c) (kb+1) kf [wr q tx (wu+c)])):
  ai (m+1) 34 [.glob 10,.none,.int l,.bytes x,.int f] (i6 E D G nx wn ku kb kf [wr q tx wu])=some (PV ko so lo bo fo,i6 E D' G BM Bk (ku+c) (kb+1) kf [wr q tx (wu+c)]):=by
 have h:(!(x.any λi=>i != 0))=false:=hx▸rfl;have HW:=HW (i6 E D' G BM Bk ku kb kf [wr q tx wu]);induction l0
 ·exact au (aZ ..) [fF 1 h,fF 1 hl,fC 2 Oa,fC 5 Ob,fC 4 HW,fC 3 XJ] ⋯
 ·exact au (aZ ..) [fF 1 h,fT 1 hl,fC 6 Ob,fC 4 HW,fC 3 XJ] ⋯
theorem Vp {k0:V} (hb:(b0==tx)=false) (Ob:ai m 40 [.glob 1,.bytes x,.int 8,.int l,dD,.int tx,.int f,.none] (i6 E D G nx wn ku kb kf [wr q tx wu])=some (PV ko so lo bo fo,i6 E D' G BM Bk ku kb kf [wr q tx wu]))
  (Cm:ai m 32 [.glob 10,PV k0 s0 l1 b0 f0] (i6 E D' G BM Bk ku kb kf [wr q tx wu])=some (.none,i6 E Zw G' BM Bk Wi kb Wl [wr q tx jy]))
  (HW:∀ W,ai m 51 [PV ko so lo bo fo] W=some (.int c,W))
  (XJ:ai m 45 [.glob 5,PV ko so lo bo fo] (i6 E Zw G' BM Bk Wi kb Wl [wr q tx (jy+c)])=some (.none,i6 E Zw G' BM Bk (Wi+c) (kb+1) Wl [wr q tx (jy+c)])):
  ai (m+1) 34 [.glob 10,PV k0 s0 l1 b0 f0,.int l,.bytes x,.int f] (i6 E D G nx wn ku kb kf [wr q tx wu])=some (PV ko so lo bo fo,i6 E Zw G' BM Bk (Wi+c) (kb+1) Wl [wr q tx (jy+c)]):=by
 have h:(!(x.any λi=>i != 0))=false:=hx▸rfl;have HW:=HW (i6 E Zw G' BM Bk Wi kb Wl [wr q tx jy]);induction l0
 ·exact au (aZ ..) [fF 1 h,fF 1 hl,fC 2 Oa,fF 4 hb,fC 4 Ob,fC 3 Cm,fC 1 HW,fC 3 XJ] ⋯
 ·exact au (aZ ..) [fF 1 h,fT 1 hl,fF 5 hb,fC 4 Ob,fC 3 Cm,fC 1 HW,fC 3 XJ] ⋯
theorem P0 (hv:zj (.tup [ko]) (.tup [ko])=some true)
  (Ob:ai m 40 [.glob 1,.bytes x,.int 8,.int l,dD,.int tx,.int f,PV ko so lo tx fo] (i6 E D G nx wn ku kb kf [wr q tx wu])=some (PV ko sn l tx fn,i6 E D' G BM Bk ku kb kf [wr q tx wu])):
  ai (m+1) 34 [.glob 10,PV ko so lo tx fo,.int l,.bytes x,.int f] (i6 E D G nx wn ku kb kf [wr q tx wu])=some (PV ko sn l tx fn,i6 E D' G BM Bk ku kb kf [wr q tx wu]):=by
 have h:(!(x.any λi=>i != 0))=false:=hx▸rfl;have ht:(tx==tx)=true:=aG tx;induction l0
 ·exact au (aZ ..) [fF 1 h,fF 1 hl,fC 2 Oa,fT 4 ht,fC 4 Ob,fB 6 hv] ⋯
 ·exact au (aZ ..) [fF 1 h,fT 1 hl,fT 5 ht,fC 4 Ob,fB 6 hv] ⋯
end
end
section
def dP:(l:Nat)->Tr l
 | 0=>(none:Option (Nat×Nat×By))
 | l+1=>(none:Option (Nat×Nat×List (Tr l)))
abbrev lf(b a:Nat)(x:By):Tr 0:=(some (b,a,x):Option (Nat×Nat×By))
abbrev nd(b a:Nat)(ch:List (Tr l)):Tr (l+1):=(some (b,a,ch):Option (Nat×Nat×List (Tr l)))
theorem vh{M:(l:Nat)->Tr l->Prop}(n:∀ l,M l (dP l))(f:∀ b a x,M 0 (lf b a x))(g:∀ l b a ch,M (l+1) (nd (l:=l) b a ch))(l:Nat)(t:Tr l):M l t:=by
 induction l using oF with
 | zero=>exact Option.casesOn (motive:=λo=>M 0 o) t (n 0) λp=>f p.1 p.2.1 p.2.2
 | succ l=>exact Option.casesOn (motive:=λo=>M (l+1) o) t (n (l+1)) λp=>g l p.1 p.2.1 p.2.2
def WF(q tx:Nat):(l:Nat)->Tr l->Prop
 | 0,t=>match(t:Option (Nat×Nat×By))with
  | none=>True
  | some p=>1<=p.1/\p.1<=tx/\p.2.2.length=4/\(p.2.2.any (· != 0))=true
 | l+1,t=>match(t:Option (Nat×Nat×List (Tr l)))with
  | none=>True
  | some p=>1<=p.1/\p.1<=tx/\p.2.2.length=q/\(∀ t∈p.2.2,WF q tx l t/\∀ r,dE l t=some r->r.1<=p.1)/\∃ t∈p.2.2,dE l t≠none
def j3(q:Nat):(l:Nat)->Tr l->By
 | 0,t=>match(t:Option (Nat×Nat×By))with
  | none=>[]
  | some p=>p.2.2
 | l+1,t=>match(t:Option (Nat×Nat×List (Tr l)))with
  | none=>[]
  | some p=>p.2.2.flatMap (qm q l)
variable{q b:Nat}{tl:List aV}
theorem jC(l:Nat):dE l (dP l)=none:=by induction l using oF <;> rfl
theorem xy(l:Nat):dH l (dP l)=0:=by induction l using oF <;> rfl
theorem kA(q l:Nat):ents q l (dP l)=[]:=by induction l using oF <;> rfl
theorem zZ(q tx l:Nat):WF q tx l (dP l):=by induction l using oF <;> exact trivial
theorem ri{f:α->Nat}{c:Nat}{l:List α}(h:∀ t∈l,f t<=c):(l.map f).sum<=l.length*c:=by
 induction l with
 | nil=>exact bw _
 | cons x r ih=>rw [bu,cP,bZ,iN,dy];exact Nat.add_le_add (ih λt ht=>h t (aw _ ht)) (h x aq)
theorem Cx(l:Nat):∀ {t:Tr l},WF q tx l t->dH l t<=q ^ l:=by
 induction l with
 | zero=>
  intro t _;rcases (t:Option _)with _ | p
  ·exact bw _
  ·exact aA _
 | succ l ih=>
  intro t w;rcases (t:Option _)with _ | p
  ·exact bw _
  ·have:=ri λt ht=>ih (w.2.2.2.1 t ht).1;rw [w.2.2.1] at this;rw [f7,fj]; exact this
theorem xV{b b' a':Nat}(e:some (b',a')=some (b,a)):b'=b/\a'=a:=cu (ae e)
theorem WF.head:WF q tx l t->dE l t=some (b,a)->1<=b/\b<=tx:=by
 refine vh (M:=λl t=>WF q tx l t->dE l t=some (b,a)->1<=b/\b<=tx) (λl Z e=> ?_) (λb' a' x w e=> ?_) (λl b' a' ch w e=> ?_) l t
 ·rw [jC] at e; exact nn e
 ·exact (xV e).1▸⟨w.1,w.2.1⟩
 ·exact (xV e).1▸⟨w.1,w.2.1⟩
theorem sF(l:Nat)(hq:q<=3):bC q l<=10:=by
 induction l using oF with
 | zero=>exact cR 1 9
 | succ l=>exact af (Nat.div_le_div_right (bG (bU 53 hq) 15)) ∅
theorem PC(l:Nat)(hq:q<=3):jz q l<=159:=by
 induction l using oF with
 | zero=>exact cR 4 155
 | succ l=>exact bU 53 hq
theorem jg(hq:q<=3)(hl:l<=4):q ^ l<=81:=af (Nat.pow_le_pow_left hq l) (Nat.pow_le_pow_right (n:=3) ∅ hl)
theorem mj{b c:Nat}(h:a<=b)(h':b<c):(a:Int)<c:=cz.mpr (az h h')
theorem WF.rg(w:WF q tx l t)(hq:q<=3)(hl:l<=4)(ig:tx<=1000)(e:dE l t=some (b,a))(ha:a<4294967296):Rg (bC q l) (jz q l) l b a (dH l t):=
 ⟨aN _,mj (sF l hq) ∅,aN _,mj (PC l hq) ∅,aN _,mj hl ∅,cG.mpr (w.head e).1,mj (af (w.head e).2 ig) ∅,aN _,cz.mpr ha,aN _,mj (af (Cx l w) (jg hq hl)) ∅⟩
theorem bK(e:dE l t=some (b,a)):ptr q l t=PV (key a (bC q l)) (jz q l) l b (dH l t):=by unfold ptr; rw [e]; rfl
theorem cY(e:dE l t=none):ptr q l t=.none:=by unfold ptr; rw [e]; rfl
theorem oy(e:dE l t=some (b,a)):qm q l t=pb (bC q l) (jz q l) l b a (dH l t):=by unfold qm; rw [e]; rfl
theorem rG(e:dE l t=none):qm q l t=List.replicate 53 0:=by unfold qm; rw [e]; rfl
theorem kZ(q l:Nat)(t:Tr l):(qm q l t).length=53:=by
 rcases e:dE l t with _ | ⟨b,a⟩
 ·rw [rG e]; rfl
 ·rw [oy e]; rfl
theorem aa1(w:WF q tx l t)(hq:q<=3)(hl:l<=4)(ig:tx<=1000)(ha:∀ p,dE l t=some p->p.2<4294967296):ai (m+2) 52 [ptr q l t] W=some (.bytes (qm q l t),W):=by
 rcases e:dE l t with _ | ⟨b,a⟩
 ·rw [cY e,rG e]; exact aa0
 ·rw [bK e,oy e]; exact w52 (w.rg hq hl ig e (ha _ e))
theorem O7(w:WF q tx l t)(hq:q<=3)(hl:l<=4)(ig:tx<=1000)(ha:∀ p,dE l t=some p->p.2<4294967296)(hW:W.all (nk W.length)=true):ai (m+2) 53 [.bytes (qm q l t)] W=some (ptr q l t,W):=by
 rcases e:dE l t with _ | ⟨b,a⟩
 ·rw [cY e,rG e]; exact aaZ
 ·rw [bK e,oy e]; exact w53 (w.rg hq hl ig e (ha _ e)) hW
theorem p5{g:α->By}{l:List α}(h:∀ x,(g x).length=53):(l.flatMap g).length=l.length*53:=by
 induction l with
 | nil=>rfl
 | cons x r ih=>rw [cO,aQ,h,ih,bZ,iN,dy]
theorem WF.KU:WF q tx l t->dE l t=some (b,a)->(j3 q l t).length=jz q l:=by
 refine vh (M:=λl t=>WF q tx l t->dE l t=some (b,a)->(j3 q l t).length=jz q l) (λl Z e=> ?_) (λb' a' x w e=>w.2.2.1) (λl b' a' ch w e=> ?_) l t
 ·rw [jC] at e; exact nn e
 ·exact (p5 (kZ q l)).trans (av (· *53) w.2.2.1)
theorem ou:dE l t=some (b,a)->(a,bC q l,j3 q l t)∈ents q l t:=by
 refine vh (M:=λl t=>dE l t=some (b,a)->(a,bC q l,j3 q l t)∈ents q l t) (λl e=> ?_) (λb' a' x e=> ?_) (λl b' a' ch e=> ?_) l t
 ·rw [jC] at e; exact nn e
 ·exact (xV e).2▸aq
 ·exact (xV e).2▸aq
end
section
structure iw(h:HS)(k:Nat):Prop where
 nd:ND h.H
 lt:∀ e∈h.H,e.1<h.next
 sz:h.next+h.G.length+h.H.length+k<=90000
def HS.drop(h:HS)(tx a c:Nat):HS:={h with H:=yx a c h.H,G:=nK a c (tx:Int) h.G,ku:=h.ku-c,kf:=h.kf+1}
def HS.fresh(h:HS)(c:Nat)(x:By):HS:={h with H:=nK h.next c x h.H,next:=h.next+c,wn:=h.wn+1}
def HS.again(h:HS)(a c:Nat)(x:By):HS:={h with H:=nK a c x h.H,wn:=h.wn+1}
def HS.Mm(h:HS)(c:Nat):HS:={h with ku:=h.ku+c,kb:=h.kb+1}
section
variable{c:Nat}
theorem iw.mono(o:iw h k){k':Nat}(hk:k'<=k):iw h k':=⟨o.nd,o.lt,af (bf hk _) o.sz⟩
theorem iw.sH(o:iw h k):gS (h.H.map enc)=true:=ak (by rw [ao]; have:=o.sz; lia)
theorem iw.sG(o:iw h k):gS (h.G.map D3)=true:=ak (by rw [ao]; have:=o.sz; lia)
theorem iw.look(o:iw h k)(m:(a,c,x)∈h.H):ey (key a c) (h.H.map enc)=some (.bytes x):=by have:=Ea (f:=V.bytes) (a:=a) (c:=c) (H:=h.H);rw [K9 o.nd m] at this; exact this
theorem VF(a c:Int):ju (key a c) (h.H.map enc)=true:=CI (f:=V.bytes) a c
theorem okG(a c:Int):ju (key a c) (h.G.map D3)=true:=CI (f:=V.int) a c
theorem iw.drop(o:iw h (k+1))(tx:Nat)(m:(a,c,x)∈h.H):iw (h.drop tx a c) (k+1)/\h.H.Perm ((a,c,x)::(h.drop tx a c).H):=by have p:=Iv o.nd m;refine ⟨⟨(ND.perm o.nd p).tl,λe he=>o.lt e (p.symm.subset (aw _ he)),?_⟩,p⟩;have h1:=p.length_eq;have h2:=xp (a:=a) (c:=c) (x:=(tx:Int)) (H:=h.G);have h3:=o.sz;rw [bZ] at h1;show h.next+(nK a c (tx:Int) h.G).length+(yx a c h.H).length+(k+1)<=90000;lia
theorem vT(o:iw h k):(h.fresh c x).H=h.H++ [(h.next,c,x)]:=Kx x λe he=>aL (o.lt e he)
theorem iw.fresh(o:iw h (k+11))(hc0:1<=c)(hc:c<=10)(x:By):iw (h.fresh c x) k:=by
 have e:=vT (c:=c) (x:=x) o;refine ⟨?_,λe' he=> ?_,?_⟩
 ·rw [e];unfold ND;rw [iH,List.nodup_append];refine ⟨o.nd,bj.mpr ⟨(λh=>(eX h)),dR⟩,λa ha b hb=> ?_⟩;refine ag (ba.mp ha) λe' z1=>And.elim (λhe z2=> ?_) z1;obtain rfl:=z2;rw [ay.mp hb]; exact aL (o.lt e' he)
 ·rw [e] at he;show _<h.next+c;rcases List.mem_append.mp he with he | he
  ·exact ax (o.lt e' he) (aB _ _)
  ·rw [ay.mp he]; exact gA hc0
 ·have:=o.sz;rw [e,aQ];show h.next+c+h.G.length+(h.H.length+1)+k<=90000;lia
theorem iw.again(o:iw h k)(y:By)(m:(a,c,x)∈h.H):iw (h.again a c y) k/\∃ R,h.H.Perm ((a,c,x)::R)/\(h.again a c y).H.Perm ((a,c,y)::R):=by
 refine ag (Kw y o.nd m) λR z1=>And.elim (λp1 p2=> ?_) z1;have s:=λe he=>o.lt e (p1.symm.subset he);have z:ND ((a,c,x)::R):=ND.perm o.nd p1;refine ⟨⟨ND.perm (show ND ((a,c,y)::R)from z) p2.symm,λe he=> ?_,?_⟩,R,p1,p2⟩
 ·rcases aH.mp (p2.subset he)with q | he
  ·rw [q]; exact s (a,c,x) aq
  ·exact s e (aw _ he)
 ·have h1:=p1.length_eq;have h2:(nK a c y h.H).length=_:=p2.length_eq;have h3:=o.sz;show h.next+h.G.length+(nK a c y h.H).length+k<=90000;rw [h2]; rw [h1] at h3; exact h3
end
variable{tl:List aV}{q b f fo:Nat}{y:By}
theorem jJ(hE:wD E (tl.length+10))(ht:tl.all (nk (tl.length+10))=true)(s:HS):(bM E s tl).all (nk (bM E s tl).length)=true:=
 K1 hE ht (λn=>wO (g:=V.bytes) (λZ Z=>rfl) n _) (λn=>wO (g:=V.int) (λZ Z=>rfl) n _)
theorem BF(o:iw h k)(w:WF q tx l t)(e:dE l t=some (b,a))(mm:(a,bC q l,j3 q l t)∈h.H):ai (m+2) 42 [.glob 1,ptr q l t] (bM E h tl)=some (.bytes (j3 q l t),bM E h tl):=by rw [bK e];exact w42 (VF _ _) (o.look mm) (av Int.ofNat (w.KU e))
theorem Ov(hq:q<=3):((bC q l:Nat):Int)<=10:=cG.mpr (sF l hq)
theorem Io{H:List En}{G:List Gn}{c:Nat}{nx wn ku kb kf:Int}{tl:List aV}:i6 E (kI (key a c) (H.map enc)) (gq (key a c) (.int (tx:Int)) (G.map D3)) nx wn ku kb kf tl=i6 E ((yx a c H).map enc) ((nK a c (tx:Int) G).map D3) nx wn ku kb kf tl:=by rw [show kI (key a c) (H.map enc)=_ from IA (f:=V.bytes),show gq (key a c) (.int (tx:Int)) (G.map D3)=_ from sC (f:=V.int)]; rfl
theorem yt(o:iw h (k+1))(hq:q<=3)(e:dE l t=some (b,a))(mm:(a,bC q l,x)∈h.H):ai (m+4) 32 [.glob 10,ptr q l t] (bM E h [wr q tx wu])=some (.none,bM E (h.drop tx a (bC q l)) [wr q tx (wu-bC q l)]):=by rw [bK e];refine (w32 (aN _) (Ov hq) (VF _ _) (o.look mm) o.sH (okG _ _) o.sG).trans ?_;rw [Io]; rfl
end
section
variable{tl:List aV}{q b f fo:Nat}{y:By}
theorem II(q l:Nat):(((jz q l:Nat):Int)+16-1).fdiv 16=((bC q l:Nat):Int):=by
 rw [Int.fdiv_eq_ediv_of_nonneg _ ∅];induction l using oF with
 | zero=>show((4:Int)+16-1) / 16=1; decide
 | succ l=>show(((q*53:Nat):Int)+16-1) / 16=(((q*53+15) / 16:Nat):Int); lia
theorem CM(l:Nat)(hq:2<=q):1<=bC q l:=by
 induction l using oF with
 | zero=>exact aA 1
 | succ l=>exact af (by decide:1<=(2*53+15) / 16) (Nat.div_le_div_right (bG (bU 53 hq) 15))
theorem nB(q tx wu:Int):([wr q tx wu]:List aV).all (nk ([wr q tx wu].length+10))=true:=rfl
section
variable(hq:q<=3)(hE:wD E 11)(hx:(x.any λi=>i != 0)=true)(hn:x.length=jz q l)
include hq hE hn
theorem UW(o:iw h k):ai (m+2) 40 [.glob 1,.bytes x,.int 8,.int l,dD,.int tx,.int f,.none] (bM E h [wr q tx wu])=some (PV (key h.next (bC q l)) (jz q l) l tx f,bM E (h.fresh (bC q l) x) [wr q tx wu]):=
 aa4 (av Int.ofNat hn) (II q l) (vm (aN _) (cn (Ov hq) ∅)) (VF _ _) o.sH (sC (f:=V.bytes)) (jJ hE (nB ..) (h.fresh (bC q l) x))
include hx
theorem P4(o:iw h (k+11)):ai (m+5) 34 [.glob 10,.none,.int l,.bytes x,.int f] (bM E h [wr q tx wu])=
  some (PV (key h.next (bC q l)) (jz q l) l tx f,bM E ((h.fresh (bC q l) x).Mm (bC q l)) [wr q tx (wu+bC q l)]):=
 Vq hx (w49 (jJ hE (nB ..) h)) rfl (UW (m:=m+2) hq hE hn o) (λW=>SY (aN _) (Ov hq)) (w45 (aN _) (Ov hq))
theorem Ky(o:iw h k)(mm:(a,bC q l,y)∈h.H):ai (m+5) 34 [.glob 10,PV (key a (bC q l)) (jz q l) l tx fo,.int l,.bytes x,.int f] (bM E h [wr q tx wu])=
  some (PV (key a (bC q l)) (jz q l) l tx f,bM E (h.again a (bC q l) x) [wr q tx wu]):=
 P0 hx (w49 (jJ hE (nB ..) h)) rfl (Bm _ _) (aa5 (av Int.ofNat hn) (II q l) (λZ=>rfl) (VF _ _) (o.look mm) o.sH (sC (f:=V.bytes)) (jJ hE (nB ..) (h.again a (bC q l) x)))
theorem P2(o:iw h (k+12))(Z1:2<=q)(hb:b≠tx)(mm:(a,bC q l,y)∈h.H):ai (m+5) 34 [.glob 10,PV (key a (bC q l)) (jz q l) l b fo,.int l,.bytes x,.int f] (bM E h [wr q tx wu])=
  some (PV (key h.next (bC q l)) (jz q l) l tx f,bM E (((h.fresh (bC q l) x).drop tx a (bC q l)).Mm (bC q l)) [wr q tx (wu-bC q l+bC q l)]):=by
 have o':iw (h.fresh (bC q l) x) 1:=(iw.fresh (k:=k+1) o (CM l Z1) (sF l hq) x).mono (cR 1 k);have w:=w32 (m:=m) (E:=E) (nx:=h.next+bC q l) (wn:=h.wn+1) (ku:=h.ku) (kb:=h.kb) (kf:=h.kf) (wu:=wu) (q:=q) (tx:=tx) (s:=jz q l) (l:=l) (b:=b) (f:=fo)
  (aN (bC q l)) (Ov hq) (VF (h:=h.fresh (bC q l) x) a (bC q l)) (o'.look (x:=y) (by rw [vT o]; exact eW _ mm)) o'.sH (okG (h:=h) a (bC q l)) o.sG
 rw [Io] at w;exact Vp hx (w49 (jJ hE (nB ..) h)) rfl (sR λe=>hb (cx e)) (UW (m:=m+2) hq hE hn o) w (λW=>SY (aN _) (Ov hq)) (w45 (aN _) (Ov hq))
end
end
section
def inner:Stmt->List Stmt
 | .If _ a b _=>a++b
 | .While _ b _ _=>b
 | .For _ _ b _ _=>b
 | _=>[]
def FH(b:List Stmt):List Nat->Option Stmt
 | []=>none
 | i::r=>(b[i]?).bind λs=>bif r.isEmpty then some s else FH (inner s) r
def Yb(k:Nat)(p:List Nat):Option (Tg×List Stmt):=(fn k).bind λf=>(FH f.body p).bind λs=>match s with
 | .For t _ b _ _=>(rh (eP f.k) t).map λt=>(t,b)
 | _=>none
def Ic(k:Nat)(p:List Nat)(z:α)(f:Tg×List Stmt->α):α:=((Yb k p).map f).getD z
def cj(cf:CF)(k:Nat)(p:List Nat)(v:V)(σ:St):Option (Out×St):=Ic k p none λx=>t6 bT (yo cf (nr k) (12-p.length)) x.1 x.2 v σ
def Nc(n k:Nat)(p:List Nat)(v:V)(σ:St):O (Out×St):=Ic k p eu.fail λx=>t6 eu (Tp eu (ai n) (nr k) (12-p.length)) x.1 x.2 v σ
theorem fH(n k:Nat)(p:List Nat)(v:V)(σ:St):bg (Nc n k p v σ) (cj (ai n) k p v σ):=by
 unfold Nc cj Ic;rcases Yb k p with _ | x
 ·exact bg.fail
 ·exact (bg.lift _).bx λcg=>Vg ..
theorem mW{f:V->St->Option (Out×St)}(a:α->V)(I:List α->St->Prop)(hs:∀ x r σ,I (x::r) σ->∃ σ',f (a x) σ=some (.ez,σ')/\I r σ'){l:List α}:∀ {σ:St},I l σ->∃ σ',dO bT f (l.map a) σ=some (.ez,σ')/\I [] σ':=by
 induction l with
 | nil=>exact λ{σ} h=>⟨σ,rfl,h⟩
 | cons x r ih=>intro σ h;refine ag (hs x r σ h) λcg z1=>And.elim (λe1 h1=> ?_) z1;refine ag (ih h1) λfN z1=>And.elim (λe2 h2=> ?_) z1;refine ⟨fN,?_,h2⟩;show(f (a x) σ).bind _=_;rw [e1]; exact e2
variable{W1 W2:List aV}{h1:HS}{k p:V}{l b f:Int}{B:By}{q tx:Int}{x:Option LV}
theorem vZ:ai (m+1) 33 [.glob 10,.none] W=some (.none,W):=au (aZ ..) [] ⋯
theorem wa(hl:decide (0<l)=false)(Cm:ai m 32 [.glob 10,PV k s l b f] (bM E h [wr q tx wu])=some (.none,W1)):ai (m+1) 33 [.glob 10,PV k s l b f] (bM E h [wr q tx wu])=some (.none,W1):=au (aZ ..) [fF 3 hl,fC 0 Cm] ⋯
theorem vY(Q9:ai m 33 [.glob 10,v] (bM E h [wr q tx wu])=some (.none,W1)):
  cj (ai m) 33 [1,0] v ⟨[~~~(.glob 10),~~~p,x],[],bM E h [wr q tx wu]⟩=some (.ez,⟨[~~~(.glob 10),~~~p,~~~v],[],W1⟩):=by
 exact au (fH ..) [fC 0 Q9] ⋯
theorem vX (hl:decide (0<l)=true) (Aw:ai m 42 [.glob 1,PV k s l b f] (bM E h [wr q tx wu])=some (.bytes B,bM E h [wr q tx wu])) (HU:ai m 55 [.bytes B] (bM E h [wr q tx wu])=some (.lst ps,bM E h [wr q tx wu]))
  (ya:dO bT (cj (ai m) 33 [1,0]) ps ⟨[~~~(.glob 10),~~~(PV k s l b f),none],[],bM E h [wr q tx wu]⟩=some (.ez,⟨[~~~(.glob 10),~~~(PV k s l b f),x],[],bM E h1 [wr q tx gY]⟩))
  (Cm:ai m 32 [.glob 10,PV k s l b f] (bM E h1 [wr q tx gY])=some (.none,W2)):ai (m+1) 33 [.glob 10,PV k s l b f] (bM E h [wr q tx wu])=some (.none,W2):=by
 exact au (aZ ..) [fT 3 hl,fC 1 Aw,fC 0 HU,fO 1 ya,fC 0 Cm] ⋯
end
section
theorem pH{B A C R:By}(e:B=A++(C++R))(hA:A.length=i)(hC:C.length=53):pI (.bytes B) (.int (i:Nat)) (.int ((i+53:Nat):Int))=some (.bytes C):=by
 subst e;have hl:i+53<=(A++(C++R)).length:=by rw [aQ,aQ,hA,hC]; exact bf (aB _ _) _
 show some (V.bytes (((A++(C++R)).drop (clipAt (A++(C++R)).length (i:Int))).take (clipAt (A++(C++R)).length ((i+53:Nat):Int)-clipAt (A++(C++R)).length (i:Int))))=_;rw [clipAt_nat,clipAt_nat,Nat.min_eq_left hl,Nat.min_eq_left (af (aB i 53) hl),Nat.add_sub_cancel_left,List.drop_left' hA,List.take_left' hC]
variable{p:α->V}{g:α->By}{l:List α}
theorem BZ(hn:l.length=2\/l.length=3):(∃ x y,l=[x,y])\/∃ x y z,l=[x,y,z]:=by
 rcases l with _ | ⟨x,_ | ⟨y,_ | ⟨z,_ | ⟨w,r⟩⟩⟩⟩
 ·exact hn.elim (λq=>nomatch q) λq=>nomatch q
 ·exact hn.elim (λq=>nomatch q) λq=>nomatch q
 ·exact .inl ⟨x,y,rfl⟩
 ·exact .inr ⟨x,y,z,rfl⟩
 ·exact hn.elim (λq=>nomatch q) λq=>nomatch q
theorem O6(hn:l.length=2\/l.length=3)(hb:∀ x,(g x).length=53)(h:∀ x∈l,ai m 53 [.bytes (g x)] W=some (p x,W)):ai (m+1) 55 [.bytes (l.flatMap g)] W=some (.lst (l.map p),W):=by
 rcases BZ hn with⟨x,y,rfl⟩ | ⟨x,y,z,rfl⟩
 ·have⟨hx,h⟩:=ah.mp h;refine And.elim (λhy Z=> ?_) (ah.mp h);exact Uq (p5 hb) (pH (A:=[]) (R:=g y++ []) rfl rfl (hb x)) (pH (R:=[]) rfl (hb x) (hb y)) hx hy
 ·have⟨hx,h⟩:=ah.mp h;refine And.elim (λhy h=> ?_) (ah.mp h);refine And.elim (λhz Z=> ?_) (ah.mp h);exact Up (p5 hb) (pH (A:=[]) (R:=g y++(g z++ [])) rfl rfl (hb x)) (pH (R:=g z++ []) rfl (hb x) (hb y)) (pH (A:=g x++g y) (R:=[]) (cw ..).symm (by rw [aQ,hb,hb]) (hb z)) hx hy hz
theorem aaY(hn:l.length=2\/l.length=3)(hb:∀ x,(g x).length=53)(h:∀ x∈l,ai m 52 [p x] W=some (.bytes (g x),W)):ai (m+1) 54 [.lst (l.map p)] W=some (.bytes (l.flatMap g),W):=by
 have s:∀ {l:List α},l.length<=3->jR (l.flatMap g).length=true:=λ{l} h=>ak (by rw [p5 hb]; exact af (bU 53 h) ∅);rcases BZ hn with⟨x,y,rfl⟩ | ⟨x,y,z,rfl⟩
 ·have⟨hx,h⟩:=ah.mp h;refine And.elim (λhy Z=> ?_) (ah.mp h);exact Us hx hy (s (l:=[x,y]) (bH rfl))
 ·have⟨hx,h⟩:=ah.mp h;refine And.elim (λhy h=> ?_) (ah.mp h);refine And.elim (λhz Z=> ?_) (ah.mp h);exact Ur hx hy hz (s (l:=[x,y,z]) (aA 3))
end
section
def dS(q:Nat):(l:Nat)->Tr l->Nat
 | 0,t=>match(t:Option (Nat×Nat×By))with
  | none=>0
  | some _=>1
 | l+1,t=>match(t:Option (Nat×Nat×List (Tr l)))with
  | none=>0
  | some p=>bC q (l+1)+(p.2.2.map (dS q l)).sum
theorem nP(q l:Nat):dS q l (dP l)=0:=by induction l using oF <;> rfl
theorem iw.MG(o:iw h k){e:En}(m:e∈h.H):e.1<4294967296:=di (o.lt e m) (az (af (af (aB _ _) (af (aB _ _) (aB _ _))) o.sz) ∅)
inductive OR(E:WE)(q tx m l:Nat)(t:Tr l)(h:HS)(wu:Int)(F:List En)(k:Nat):Prop
 | mk (h':HS) (e:ai (m+l+6) 33 [.glob 10,ptr q l t] (bM E h [wr q tx wu])=some (.none,bM E h' [wr q tx (wu-dS q l t)])) (p:h'.H.Perm F) (o:iw h' (k+1)) (n:h'.next=h.next) (u:h'.ku=h.ku-dS q l t)
inductive DL(E:WE)(q tx:Nat){l:Nat}(P:V)(ch rest:List (Tr l))(h:HS)(wu:Int)(k:Nat)(R:List En):St->Prop
 | mk (x:Option LV) (h1:HS) (gY:Int) (hm:∀ t∈rest,t∈ch) (p:h1.H.Perm (rest.flatMap (ents q l)++R)) (o:iw h1 (k+1)) (n:h1.next=h.next)
  (u:h1.ku+((ch.map (dS q l)).sum:Nat)=h.ku+((rest.map (dS q l)).sum:Nat)) (w:gY+((ch.map (dS q l)).sum:Nat)=wu+((rest.map (dS q l)).sum:Nat)):
   DL E q tx P ch rest h wu k R ⟨[~~~(.glob 10),~~~P,x],[],bM E h1 [wr q tx gY]⟩
variable{q tb:Nat}(hq:q=2\/q=3)(Z0:tb<=1000)(hE:wD E 11)
include hq Z0 hE
theorem wb(l:Nat):∀ {t:Tr l} {m:Nat} {h:HS} {wu:Int} {F:List En} {k:Nat},l<=4->WF q tb l t->iw h (k+1)->h.H.Perm (ents q l t++F)->OR E q tx m l t h wu F k:=by
 have jq:q<=3:=hq.elim (λe=>af (bW e) ∅) bW;have no:∀ {l m:Nat} {h:HS} {wu:Int} {F:List En} {k:Nat},iw h (k+1)->h.H.Perm (ents q l (dP l)++F)->OR E q tx m l (dP l) h wu F k:=λ{l m h wu F k} o p=>by
  have z:∀ i:Int,i-(dS q l (dP l):Nat)=i:=λi=>by rw [nP,Int.natCast_zero,Int.sub_zero]
  rw [kA] at p;exact ⟨h,by rw [cY (jC l),z]; exact vZ,p,o,rfl,(z _).symm⟩
 induction l with
 | zero=>
  intro t m h wu F k hl w o p;rcases (t:Option _)with _ | ⟨b,a,x⟩
  ·exact no o p
  ·have e:dE 0 (lf b a x)=some (b,a):=rfl;have mm:(a,bC q 0,x)∈h.H:=p.symm.subset aq;have d:=yt (m:=m+1) (E:=E) (wu:=wu) (tx:=tx) o jq e mm;obtain ⟨o2,p2⟩:=o.drop tx mm;refine ⟨h.drop tx a (bC q 0),?_,(List.perm_cons _).mp (p2.symm.trans p),o2,rfl,rfl⟩;rw [bK e] at d ⊢;exact wa rfl d
 | succ l ih=>
  intro t m h wu F k hl w o p;rcases (t:Option _)with _ | ⟨b,a,ch⟩
  ·exact no (l:=l+1) o p
  ·have e:dE (l+1) (nd b a ch)=some (b,a):=rfl;have N0:l<=4:=af (da l) hl;have mm:(a,bC q (l+1),j3 q (l+1) (nd b a ch))∈h.H:=p.symm.subset aq;have hc:=w.2.2.2.1;have hlen:ch.length=2\/ch.length=3:=by rw [w.2.2.1]; exact hq
   have hpl:∀ t∈ch,∀ p,dE l t=some p->p.2<4294967296:=λt ht pp e=>
    o.MG (p.symm.subset (eW _ (aw _ (g9.mpr ⟨t,ht,ou (q:=q) (b:=pp.1) (a:=pp.2) e⟩))))
   have tj:=BF (m:=m+l+4) (E:=E) (tl:=[wr q tx wu]) o w e mm;have Jx:=O6 (m:=m+l+5) (W:=bM E h [wr q tx wu]) (p:=ptr q l) hlen (kZ q l) λt ht=>O7 (m:=m+l+3) (hc t ht).1 jq N0 Z0 (hpl t ht) (jJ hE (nB ..) h);have lp:=mW (f:=cj (ai (m+l+6)) 33 [1,0]) (ptr q l) (λrest σ=>DL E q tx (ptr q (l+1) (nd b a ch)) ch rest h wu k ((a,bC q (l+1),j3 q (l+1) (nd b a ch))::F) σ)
    (λt r σ I=>by
     injection I with x h1 gY hm p1 o1 n1 u1 w1;rw [cO,cw] at p1;rw [bu,cP] at u1 w1;injection ih (m:=m) (wu:=gY) N0 (hc t (hm t aq)).1 o1 p1 with h2 c2 p2 o2 n2 k2;exact ⟨_,vY c2,.mk _ h2 _ (λt ht=>hm t (aw _ ht)) p2 o2 (n2.trans n1) (by rw [k2]; lia) (by lia)⟩)
    (l:=ch) (.mk none h wu (λZ ht=>ht) (p.trans List.perm_middle.symm) o rfl rfl rfl)
   obtain ⟨σ',e1,I⟩:=lp;injection I with x h1 gY _ p1 o1 n1 u1 w1;have VE:h1.H.Perm ((a,bC q (l+1),j3 q (l+1) (nd b a ch))::F):=p1;have V0:=VE.symm.subset aq;have d:=yt (m:=m+l+2) (E:=E) (wu:=gY) (tx:=tx) o1 jq e V0;obtain ⟨o2,p2⟩:=o1.drop tx V0;have s:dS q (l+1) (nd b a ch)=bC q (l+1)+(ch.map (dS q l)).sum:=rfl;have z:((([]:List (Tr l)).map (dS q l)).sum:Nat)=0:=rfl;rw [z] at u1 w1;refine ⟨h1.drop tx a (bC q (l+1)),?_,(List.perm_cons _).mp (p2.symm.trans VE),o2,n1,?_⟩
   ·rw [show wu-(dS q (l+1) (nd b a ch):Nat)=gY-(bC q (l+1):Nat)by rw [s]; lia];rw [bK e] at tj e1 d ⊢;exact vX (m:=m+l+6) (ak (Int.natCast_pos.mpr (cN l))) tj Jx e1 d
   ·show h1.ku-(bC q (l+1):Nat)=_;rw [s]; lia
end
section
variable{k k':V}{l b f s' b' f' a a' c:Int}
theorem w62:ai (m+1) 62 [.int 8,.bytes x] W=some (.int 1,W):=au (aZ ..) [] ⋯
def l7(k:V)(s l b f:Int):V:=.tup [.tup [k],.int 8,.int l,.int s,.int s,.int 0,.int 0,.int b,.int f,.tup [.int 0,.int 0,.int 0,.int 0],.int 0]
theorem w30:ai (m+1) 30 [PV k s l b f] W=some (l7 k s l b f,W):=au (aZ ..) [] ⋯
theorem Uw:ai (m+1) 50 [.none,.none] W=some (.bool true,W):=au (aZ ..) [] ⋯
theorem Uv:ai (m+1) 50 [.none,PV k s l b f] W=some (.bool false,W):=au (aZ ..) [] ⋯
theorem Uu:ai (m+1) 50 [PV k s l b f,.none] W=some (.bool false,W):=au (aZ ..) [] ⋯
theorem Ut{r:Bool}(h:zj (l7 k s l b f) (l7 k' s' l' b' f')=some r):ai (m+2) 50 [PV k s l b f,PV k' s' l' b' f'] W=some (.bool r,W):=by have w1:=w30 (m:=m) (W:=W) (k:=k) (s:=s) (l:=l) (b:=b) (f:=f);have w2:=w30 (m:=m) (W:=W) (k:=k') (s:=s') (l:=l') (b:=b') (f:=f');exact au (aZ ..) [fC 3 w1,fC 0 w2,fB 0 h] ⋯
theorem C8:zj (l7 (key a c) s l b f) (l7 (key a' c) s l b' f')=some ((a==a')&&((b==b')&&(f==f'))):=by have hs:∀ i:Int,(i==i)=true:=λi=>aG i;have h:zj (l7 (key a c) s l b f) (l7 (key a' c) s l b' f')=some ((((true&&((a==a')&&((c==c)&&true)))&&true)&&(true&&((l==l)&&((s==s)&&((s==s)&&(true&&(true&&((b==b')&&((f==f')&&((true&&(true&&(true&&(true&&true))))&&(true&&true)))))))))))):=rfl;rw [h,hs,hs,hs];induction (a==a') <;> cases (b==b') <;> cases (f==f') <;> rfl
def jk(l:Nat)(t t':Tr l):Bool:=match dE l t with
 | none=>(dE l t').isNone
 | some p=>(dE l t').any λp'=>((p.2:Int)==(p'.2:Int))&&(((p.1:Int)==(p'.1:Int))&&((dH l t:Int)==(dH l t':Int)))
theorem BB{l:Nat}{t t':Tr l}(h:jk l t t'=true):dE l t=dE l t'/\(dE l t=none\/dH l t=dH l t'):=by
 unfold jk at h;rcases e:dE l t with _ | ⟨b,a⟩ <;> rcases e':dE l t' with _ | ⟨b',a'⟩ <;> rw [e,e'] at h
 ·exact ⟨rfl,.inl rfl⟩
 ·exact (Bool.noConfusion h)
 ·exact (Bool.noConfusion h)
 ·have⟨h1,h⟩:=aW h;refine fb h λh2 h3=> ?_;have e1:a=a':=cx (aD.mp h1);have e2:b=b':=cx (aD.mp h2);rw [e1,e2];exact ⟨rfl,.inr (cx (aD.mp h3))⟩
theorem BC{l:Nat}{t t':Tr l}(h:dE l t=dE l t')(h':dE l t=none\/dH l t=dH l t'):jk l t t'=true:=by
 unfold jk;rw [<-h];rcases e:dE l t with _ | ⟨b,a⟩
 ·rfl
 ·rw [e] at h';exact dk (aG (a:Int)) (dk (aG (b:Int)) (aD.mpr (av Int.ofNat (h'.resolve_left (λq=>(SW q))))))
theorem E3(q l:Nat)(t t':Tr l):ai (m+2) 50 [ptr q l t,ptr q l t'] W=some (.bool (jk l t t'),W):=by
 unfold jk;rcases e:dE l t with _ | ⟨b,a⟩ <;> rcases e':dE l t' with _ | ⟨b',a'⟩
 ·rw [cY e,cY e']; exact Uw
 ·rw [cY e,bK e']; exact Uv
 ·rw [bK e,cY e']; exact Uu
 ·rw [bK e,bK e']; exact Ut C8
section
variable{p0 p1 p2 q0 q1 q2:V}{r0 r1 r2:Bool}(h0:ai m 50 [p0,q0] W=some (.bool r0,W))(h1:ai m 50 [p1,q1] W=some (.bool r1,W))(h2:ai m 50 [p2,q2] W=some (.bool r2,W))
include h0 h1
theorem Ue:ai (m+1) 63 [.lst [p0,p1],.lst [q0,q1]] W=some (.bool (r0&&(r1&&true)),W):=au (aZ ..) [fC 3 h0,fC 1 h1] ⋯
include h2
theorem Ud:ai (m+1) 63 [.lst [p0,p1,p2],.lst [q0,q1,q2]] W=some (.bool (r0&&(r1&&(r2&&true))),W):=au (aZ ..) [fC 3 h0,fC 1 h1,fC 1 h2] ⋯
end
theorem Ug{q l:Nat}{c c':List (Tr l)}(hn:c.length=2\/c.length=3)(HK:c'.length=c.length):ai (m+3) 63 [.lst (c.map (ptr q l)),.lst (c'.map (ptr q l))] W=some (.bool ((c.zip c').all λp=>jk l p.1 p.2),W):=by
 have hn2:c'.length=2\/c'.length=3:=HK▸hn;rcases BZ hn with⟨x,y,rfl⟩ | ⟨x,y,z,rfl⟩ <;> rcases BZ hn2 with⟨x',y',rfl⟩ | ⟨x',y',z',rfl⟩
 ·exact Ue (E3 q l x x') (E3 q l y y')
 ·exact nomatch HK
 ·exact nomatch HK
 ·exact Ud (E3 q l x x') (E3 q l y y') (E3 q l z z')
end
section
def Nh:Stmt->List Expr
 | .Expr e _=>[e]
 | .Assign _ e _=>[e]
 | .Return (some e) _=>[e]
 | .If c _ _ _=>[c]
 | .For _ e _ _ _=>[e]
 | _=>[]
def abj:Expr->List Expr
 | .Call _ es _ _=>es
 | .UnaryOp _ e _=>[e]
 | .BinOp a _ b _=>[a,b]
 | .Compare a _ bs _=>a::bs
 | .BoolOp _ es _=>es
 | .IfExp c a b _=>[c,a,b]
 | .Tuple es _ _=>es
 | _=>[]
def Ry(es:List Expr):List Nat->Option Expr
 | []=>none
 | i::r=>(es[i]?).bind λe=>bif r.isEmpty then some e else Ry (abj e) r
structure LcX where
 k:gr
 t:Tg
 cs:List Expr
 e:Expr
def lcX(k:Nat)(p r:List Nat):Option LcX:=(fn k).bind λf=>(FH f.body p).bind λs=>(Ry (Nh s) r).bind λe=>match vw f.k e with
 | .lc sc t _ cs elt=>some ⟨qd f.k sc,t,cs,elt⟩
 | _=>none
def cD(cf:CF)(k:Nat)(p r:List Nat)(v:V)(σ:St):Option (List V×St):=((lcX k p r).map λx=>qh bT (i7 cf (20-r.length) x.k) x.t x.cs x.e v σ).getD none
def lcO(n k:Nat)(p r:List Nat)(v:V)(σ:St):O (List V×St):=((lcX k p r).map λx=>qh eu (Og eu (ai n) (20-r.length) x.k) x.t x.cs x.e v σ).getD eu.fail
theorem qB(n k:Nat)(p r:List Nat)(v:V)(σ:St):bg (lcO n k p r v σ) (cD (ai n) k p r v σ):=by
 unfold lcO cD;rcases lcX k p r with _ | x
 ·exact bg.fail
 ·exact rx (Nl _ _ _) ..
theorem gQ(a:α->V)(r:α->List V){l:List α}(h:∀ x∈l,∀ y,f (a x) ⟨loc,[y],W⟩=some (r x,⟨loc,[some (a x)],W⟩)):
  ∀ y,∃ y',dj bT f (l.map a) ⟨loc,[y],W⟩=some (l.flatMap r,⟨loc,[y'],W⟩):=by
 induction l with
 | nil=>exact λy=>⟨y,rfl⟩
 | cons x l ih=>intro y;obtain ⟨z,e⟩:=ih (λx hx=>h x (aw _ hx)) (some (a x));refine ⟨z,?_⟩;show(f (a x) ⟨loc,[y],W⟩).bind _=_;rw [h x aq y];show(dj bT f (l.map a) ⟨loc,[some (a x)],W⟩).bind _=_;rw [e]; rfl
variable{k:V}{l b f:Int}
theorem acm:cD (ai m) 35 [1] [0,0] .none ⟨loc,[y],W⟩=some ([.bool true],⟨loc,[some .none],W⟩):=au (qB ..) [] ⋯
theorem ack:cD (ai m) 35 [1] [0,0] (PV k s l b f) ⟨loc,[y],W⟩=some ([.bool false],⟨loc,[some (PV k s l b f)],W⟩):=au (qB ..) [] ⋯
theorem aco:cD (ai m) 35 [2] [0,0] .none ⟨loc,[y],W⟩=some ([],⟨loc,[some .none],W⟩):=au (qB ..) [] ⋯
theorem acn:cD (ai m) 35 [2] [0,0] (PV k s l b f) ⟨loc,[y],W⟩=some ([.int f],⟨loc,[some (PV k s l b f)],W⟩):=au (qB ..) [] ⋯
end
section
theorem mH(l:List Bool):jN W 3 [.lst (l.map λb=>.bool b)]=some (.bool (l.all id)):=by show((wt (l.map λb=>V.bool b)).map λbs=>V.bool (bs.all id))=_;rw [show wt (l.map λb=>V.bool b)=some (l.map id)from jo l λZ Z=>rfl,List.map_id]; rfl
abbrev jL(o:V)(l:Int)(cs:List V)(w:V):List (Option LV):=[~~~(.glob 10),~~~o,~~~(.int l),~~~(.lst cs),~~~w,none]
abbrev jE(m:Nat)(i:Nat)(cs:List V)(loc:List (Option LV))(W:List aV)(r:List V):Prop:=∃ y,dj bT (cD (ai m) 35 [i] [0,0]) cs ⟨loc,[none],W⟩=some (r,⟨loc,[y],W⟩)
variable{q tx l F b f:Int}{fs:List V}{k r:V}{X:By}
theorem mP{l:List Bool}(h:l.length<=100000):jR (l.map λb=>V.bool b).length=true:=ak (by rw [ao]; exact h)
theorem Hv(e:jE m 1 cs (jL .none l cs .none) W (bs.map λb=>.bool b))(hb:bs.length<=100000)(ha:bs.all id=true):ai (m+1) 35 [.glob 10,.none,.int l,.lst cs] W=some (.none,W):=by refine ag e λy e=> ?_;have g:=mP hb;have a:=mH (W:=W) bs;rw [ha] at a;exact au (aZ ..) [fL 3 e,fT 0 g,fV 0 a] ⋯
section
variable(hb:bs.length<=100000)
include hb
theorem QD(e:jE m 1 cs (jL (PV k s l b f) l cs (PV k s l b f)) (bM E h [wr q tx wu]) (bs.map λb=>.bool b))(ha:bs.all id=true)(Cm:ai m 32 [.glob 10,PV k s l b f] (bM E h [wr q tx wu])=some (.none,W')):
  ai (m+1) 35 [.glob 10,PV k s l b f,.int l,.lst cs] (bM E h [wr q tx wu])=some (.none,W'):=by
 refine ag e λy e=> ?_;have g:=mP hb;have a:=mH (W:=bM E h [wr q tx wu]) bs;rw [ha] at a;have hl:(l==l)=true:=aG l;exact au (aZ ..) [fT 2 hl,fL 3 e,fT 0 g,fV 0 a,fC 2 Cm] ⋯
variable(ha:bs.all id=false)(hf:jR fs.length=true)
include ha hf
theorem QB (e:jE m 1 cs (jL (PV k s l b f) l cs (PV k s l b f)) (bM E h [wr q tx wu]) (bs.map λb=>.bool b)) (e2:jE m 2 cs (jL (PV k s l b f) l cs (PV k s l b f)) (bM E h [wr q tx wu]) fs)
  (hs:jN (bM E h [wr q tx wu]) 1 [.lst fs]=some (.int F)) (JE:ai m 54 [.lst cs] (bM E h [wr q tx wu])=some (.bytes X,bM E h [wr q tx wu])) (DQ:ai m 34 [.glob 10,PV k s l b f,.int l,.bytes X,.int F] (bM E h [wr q tx wu])=some (r,W')):
  ai (m+1) 35 [.glob 10,PV k s l b f,.int l,.lst cs] (bM E h [wr q tx wu])=some (r,W'):=by
 refine ag e λy e=> ?_;refine ag e2 λy2 e2=> ?_;have g:=mP hb;have a:=mH (W:=bM E h [wr q tx wu]) bs;rw [ha] at a;have hl:(l==l)=true:=aG l;exact au (aZ ..) [fT 2 hl,fL 3 e,fT 0 g,fV 0 a,fL 2 e2,fT 0 hf,fV 0 hs,fC 0 JE,fC 0 DQ] ⋯
theorem Hu (e:jE m 1 cs (jL .none l cs .none) (bM E h [wr q tx wu]) (bs.map λb=>.bool b)) (e2:jE m 2 cs (jL .none l cs .none) (bM E h [wr q tx wu]) fs)
  (hs:jN (bM E h [wr q tx wu]) 1 [.lst fs]=some (.int F)) (JE:ai m 54 [.lst cs] (bM E h [wr q tx wu])=some (.bytes X,bM E h [wr q tx wu])) (DQ:ai m 34 [.glob 10,.none,.int l,.bytes X,.int F] (bM E h [wr q tx wu])=some (r,W')):
  ai (m+1) 35 [.glob 10,.none,.int l,.lst cs] (bM E h [wr q tx wu])=some (r,W'):=by
 refine ag e λy e=> ?_;refine ag e2 λy2 e2=> ?_;have g:=mP hb;have a:=mH (W:=bM E h [wr q tx wu]) bs;rw [ha] at a;exact au (aZ ..) [fL 3 e,fT 0 g,fV 0 a,fL 2 e2,fT 0 hf,fV 0 hs,fC 0 JE,fC 0 DQ] ⋯
theorem QC (hl:(l'==l)=false) (e:jE m 1 cs (jL (PV k s l' b f) l cs .none) (bM E h [wr q tx wu]) (bs.map λb=>.bool b)) (e2:jE m 2 cs (jL (PV k s l' b f) l cs .none) (bM E h [wr q tx wu]) fs)
  (hs:jN (bM E h [wr q tx wu]) 1 [.lst fs]=some (.int F)) (JE:ai m 54 [.lst cs] (bM E h [wr q tx wu])=some (.bytes X,bM E h [wr q tx wu])) (DQ:ai m 34 [.glob 10,.none,.int l,.bytes X,.int F] (bM E h [wr q tx wu])=some (r,W')):
  ai (m+1) 35 [.glob 10,PV k s l' b f,.int l,.lst cs] (bM E h [wr q tx wu])=some (r,W'):=by
 refine ag e λy e=> ?_;refine ag e2 λy2 e2=> ?_;have g:=mP hb;have a:=mH (W:=bM E h [wr q tx wu]) bs;rw [ha] at a;exact au (aZ ..) [fF 2 hl,fL 3 e,fT 0 g,fV 0 a,fL 2 e2,fT 0 hf,fV 0 hs,fC 0 JE,fC 0 DQ] ⋯
end
end
section
variable{q:Nat}
theorem gh(g:α->β)(l:List α):l.flatMap (λx=>[g x])=l.map g:=by
 induction l with
 | nil=>rfl
 | cons x r ih=>rw [cO,ih]; rfl
theorem Lc:jE m 1 (c.map (ptr q l)) loc W ((c.map λt=>(dE l t).isNone).map λb=>.bool b):=by
 have h:=gQ (f:=cD (ai m) 35 [1] [0,0]) (loc:=loc) (W:=W) (ptr q l) (λt=>[.bool (dE l t).isNone]) (l:=c) (λt Z y=>by
  rcases e:dE l t with _ | ⟨b,a⟩
  ·rw [cY e]; exact acm
  ·rw [bK e]; exact ack) none
 rw [gh] at h;rw [aU]; exact h
theorem kE:dE l t=none->dH l t=0:=by refine vh (M:=λl t=>dE l t=none->dH l t=0) (λl Z=>xy l) (λb a x e=>nn e.symm) (λl b a ch e=>nn e.symm) l t
def sq(l:Nat)(c:List (Tr l)):List Nat:=(c.filter λt=> !(dE l t).isNone).map (dH l)
theorem uH:(sq l c).sum=(c.map (dH l)).sum:=by
 unfold sq;induction c with
 | nil=>rfl
 | cons t r ih=>
  rw [List.filter_cons,bu,cP];rcases e:dE l t with _ | p
  ·rw [kE e,bF]; exact ih
  ·show(dH l t::_).sum=_;rw [cP]; exact av (dH l t+·) ih
theorem AD:c.flatMap (λt=>bif(dE l t).isNone then [] else [V.int (dH l t)])=(sq l c).map λn=>V.int (n:Nat):=by
 unfold sq;induction c with
 | nil=>rfl
 | cons t r ih=>
  rw [cO,List.filter_cons];rcases e:dE l t with _ | p
  ·exact ih
  ·exact av (V.int (dH l t)::·) ih
theorem Ld:jE m 2 (c.map (ptr q l)) loc W ((sq l c).map λn=>.int (n:Nat)):=by
 have h:=gQ (f:=cD (ai m) 35 [2] [0,0]) (loc:=loc) (W:=W) (ptr q l) (λt=>bif(dE l t).isNone then [] else [.int (dH l t)]) (l:=c) (λt Z y=>by
  rcases e:dE l t with _ | ⟨b,a⟩
  ·rw [cY e]; exact aco
  ·rw [bK e]; exact acn) none
 rw [AD] at h; exact h
end
section
def place(tx N:Nat)(o:Option (Nat×Nat))(a':Nat):Prop:=match o with
 | some p=>(p.1=tx->a'=p.2)/\(p.1≠tx->N<=a')
 | none=>N<=a'
def ox(q l:Nat)(t:Tr l):List En:=match dE l t with
 | some p=>[(p.2,bC q l,j3 q l t)]
 | none=>[]
def own(q l:Nat)(t:Tr l):Nat:=bif(dE l t).isSome then bC q l else 0
section
variable{q b:Nat}
theorem nI(e:dE l t=some (b,a)):ox q l t=[(a,bC q l,j3 q l t)]:=by unfold ox; rw [e]
theorem nJ(e:dE l t=none):ox q l t=[]:=by unfold ox; rw [e]
theorem jW{p:Nat×Nat}(e:dE l t=some p):own q l t=bC q l:=by unfold own; rw [e]; rfl
theorem l9(e:dE l t=none):own q l t=0:=by unfold own; rw [e]; rfl
theorem P7(h:∃ t∈c,dE l t≠none):((c.flatMap (qm q l)).any λi=>i != 0)=true:=by
 refine ag h λt z1=>And.elim (λht e=> ?_) z1;rcases e':dE l t with _ | ⟨b,a⟩
 ·exact absurd e' e
 ·refine List.any_eq_true.mpr ⟨1,g9.mpr ⟨t,ht,?_⟩,rfl⟩;rw [oy e']; exact aq
theorem Ad{l:List Nat}(h:n∈l):n<=l.sum:=by
 induction l with
 | nil=>exact (eX h)
 | cons x r ih=>
  rw [cP];rcases aH.mp h with e | h
  ·rw [e]; exact aB _ _
  ·exact af (ih h) (cR _ _)
theorem Bu{fs:List Nat}(h1:fs.length<=1000)(h2:fs.sum<=100000):jN W 1 [.lst (fs.map λn=>.int (n:Nat))]=some (.int ((fs.sum:Nat):Int)):=by
 have h:=UY (W:=W) (l:=fs.map λn:Nat=>(n:Int)) (ak (by rw [ao]; exact af h1 ∅)) λi hi=>by
  refine ag (ba.mp hi) λn z1=>And.elim (λhn z2=> ?_) z1;obtain rfl:=z2;exact ⟨aN _,mj (c:=2 ^ 40) (af (Ad hn) h2) ∅⟩
 rw [aU] at h;have e:∀ l:List Nat,(l.map λn:Nat=>(n:Int)).sum=((l.sum:Nat):Int):=λl=>by
  induction l with
  | nil=>rfl
  | cons x r ih=>rw [bu,cP,cP,ih,Int.natCast_add]
 rw [e] at h;exact h
end
inductive aez(E:WE)(m q tx l f:Nat)(t:Tr l)(h:HS)(wu:Int)(x:By)(F:List En)(k:Nat):Prop
 | mk (a':Nat) (h':HS) (jy:Int) (e:ai (m+5) 34 [.glob 10,ptr q l t,.int l,.bytes x,.int f] (bM E h [wr q tx wu])=some (PV (key a' (bC q l)) (jz q l) l tx f,bM E h' [wr q tx jy]))
  (pl:place tx h.next (dE l t) a') (p:h'.H.Perm ((a',bC q l,x)::F)) (o:iw h' (k+1)) (n:h.next<=h'.next) (s:h'.next+h'.G.length+h'.H.length<=h.next+h.G.length+h.H.length+11)
  (u:h'.ku+own q l t=h.ku+bC q l) (v:jy+own q l t=wu+bC q l)
variable{q f:Nat}
theorem Vu(o:iw h (k+12))(hq:q<=3)(Z1:2<=q)(hE:wD E 11)(hx:(x.any λi=>i != 0)=true)(hn:x.length=jz q l)(p:h.H.Perm (ox q l t++F)):aez E m q tx l f t h wu x F k:=by
 have c1:=sF l hq;have of:=iw.fresh (k:=k+1) o (CM l Z1) c1 x;have ef:=vT (c:=bC q l) (x:=x) o;have szf:(h.fresh (bC q l) x).H.length=h.H.length+1:=by rw [ef,aQ]; rfl
 rcases e:dE l t with _ | ⟨b,a⟩
 ·rw [nJ e] at p;refine ⟨h.next,(h.fresh (bC q l) x).Mm (bC q l),wu+bC q l,?_,?_,?_,⟨of.nd,of.lt,of.sz⟩,aB _ _,?_,?_,?_⟩
  ·rw [cY e]; exact P4 (k:=k+1) hq hE hx hn o
  ·rw [e]; exact aA _
  ·show(h.fresh (bC q l) x).H.Perm _;rw [ef]; exact (p.append_right _).trans (List.perm_append_singleton _ _)
  ·show h.next+bC q l+h.G.length+(h.fresh (bC q l) x).H.length<=_; lia
  ·rw [l9 e]; exact Int.add_zero _
  ·rw [l9 e]; exact Int.add_zero _
 ·rw [nI e] at p;have mm:(a,bC q l,j3 q l t)∈h.H:=p.symm.subset aq;by_cases hb:b=tx
  ·subst hb;refine And.elim (λoa z1=>ag z1 λR z2=>And.elim (λp1 p2=> ?_) z2) (o.again x mm);refine ⟨a,h.again a (bC q l) x,wu,?_,?_,p2.trans (((List.perm_cons _).mp (p1.symm.trans p)).cons _),oa.mono (bf ∅ k),aA _,?_,?_,?_⟩
   ·rw [bK e]; exact Ky hq hE hx hn o mm
   ·rw [e]; exact ⟨λZ=>rfl,λhc=>absurd rfl hc⟩
   ·have h1:=p1.length_eq;have h2:(h.again a (bC q l) x).H.length=_:=p2.length_eq;rw [h2,h1]; exact aB _ 11
   ·rw [jW e]; rfl
   ·rw [jW e]
  ·have hm:(a,bC q l,j3 q l t)∈(h.fresh (bC q l) x).H:=by rw [ef]; exact eW _ mm
   refine And.elim (λod pd=> ?_) (iw.drop (k:=k) of tx hm);refine ⟨h.next,((h.fresh (bC q l) x).drop tx a (bC q l)).Mm (bC q l),wu-bC q l+bC q l,?_,?_,?_,⟨od.nd,od.lt,od.sz⟩,aB _ _,?_,?_,?_⟩
   ·rw [bK e]; exact P2 (k:=k) hq hE hx hn o Z1 hb mm
   ·rw [e]; exact ⟨λhc=>absurd hc hb,λZ=>aA _⟩
   ·show((h.fresh (bC q l) x).drop tx a (bC q l)).H.Perm _;rw [ef] at pd;exact ((List.perm_cons _).mp (pd.symm.trans (p.append_right [(h.next,bC q l,x)]))).trans (List.perm_append_singleton _ _)
   ·have h1:=pd.length_eq;have h2:=xp (a:=a) (c:=bC q l) (x:=(tx:Int)) (H:=h.G);rw [bZ,szf] at h1;show h.next+bC q l+(nK a (bC q l) (tx:Int) h.G).length+((h.fresh (bC q l) x).drop tx a (bC q l)).H.length<=_;lia
   ·rw [jW e]; show h.ku-_+_+_=_; lia
   ·rw [jW e]; lia
end
inductive th(q l:Nat):V->Tr (l+1)->Prop
 | same (t:Tr (l+1)):th q l (ptr q (l+1) t) t
 | other (l0:Nat) (t:Tr l0) (h:l0<=l):th q l (ptr q l0 t) (dP (l+1))
section
variable{q l0:Nat}{tx L F b f:Int}{fs:List V}{k r o:V}{X:By}(hb:bs.length<=100000)
include hb
theorem Lo(hl:(l'==L)=false)(e:jE m 1 cs (jL (PV k s l' b f) L cs .none) W (bs.map λb=>.bool b))(ha:bs.all id=true):ai (m+1) 35 [.glob 10,PV k s l' b f,.int L,.lst cs] W=some (.none,W):=by refine ag e λy e=> ?_;have g:=mP hb;have a:=mH (W:=W) bs;rw [ha] at a;exact au (aZ ..) [fF 2 hl,fL 3 e,fT 0 g,fV 0 a] ⋯
theorem NI(h:l0<=l):((l0:Int)==((l+1:Nat):Int))=false:=sR λe=>absurd (cx e) (aL (fk h))
theorem Ww (O:th q l o ow) (ha:bs.all id=false) (hf:jR fs.length=true) (e:jE m 1 cs (jL o ((l+1:Nat):Int) cs (ptr q (l+1) ow)) (bM E h [wr q tx wu]) (bs.map λb=>.bool b)) (e2:jE m 2 cs (jL o ((l+1:Nat):Int) cs (ptr q (l+1) ow)) (bM E h [wr q tx wu]) fs)
  (hs:jN (bM E h [wr q tx wu]) 1 [.lst fs]=some (.int F)) (JE:ai m 54 [.lst cs] (bM E h [wr q tx wu])=some (.bytes X,bM E h [wr q tx wu])) (DQ:ai m 34 [.glob 10,ptr q (l+1) ow,.int ((l+1:Nat):Int),.bytes X,.int F] (bM E h [wr q tx wu])=some (r,W')):
  ai (m+1) 35 [.glob 10,o,.int ((l+1:Nat):Int),.lst cs] (bM E h [wr q tx wu])=some (r,W'):=by
 induction O with
 | same t=>
  rcases q':dE (l+1) t with _ | ⟨b,a⟩
  ·rw [cY q'] at*; exact Hu hb ha hf e e2 hs JE DQ
  ·rw [bK q'] at*; exact QB hb ha hf e e2 hs JE DQ
 | other l0 t hl=>
  rw [cY (jC (l+1))] at e e2 DQ;rcases q':dE l0 t with _ | ⟨b,a⟩
  ·rw [cY q'] at*; exact Hu hb ha hf e e2 hs JE DQ
  ·rw [bK q'] at*; exact QC hb ha hf (NI hb hl) e e2 hs JE DQ
theorem acp(O:th q l o ow)(n:dE (l+1) ow=none)(ha:bs.all id=true)(e:jE m 1 cs (jL o ((l+1:Nat):Int) cs (ptr q (l+1) ow)) W (bs.map λb=>.bool b)):ai (m+1) 35 [.glob 10,o,.int ((l+1:Nat):Int),.lst cs] W=some (.none,W):=by
 rw [cY n] at e;induction O with
 | same t=>rw [cY n] at*; exact Hv e hb ha
 | other l0 t hl=>
  rcases q':dE l0 t with _ | ⟨b,a⟩
  ·rw [cY q'] at*; exact Hv e hb ha
  ·rw [bK q'] at*; exact Lo hb (NI hb hl) e ha
theorem acq (O:th q l o ow) {b:Nat} (n:dE (l+1) ow=some (b,a)) (ha:bs.all id=true) (e:jE m 1 cs (jL o ((l+1:Nat):Int) cs (ptr q (l+1) ow)) (bM E h [wr q tx wu]) (bs.map λb=>.bool b))
  (Cm:ai m 32 [.glob 10,ptr q (l+1) ow] (bM E h [wr q tx wu])=some (.none,W')):ai (m+1) 35 [.glob 10,o,.int ((l+1:Nat):Int),.lst cs] (bM E h [wr q tx wu])=some (.none,W'):=by
 induction O with
 | same t=>rw [bK n] at*; exact QD hb e ha Cm
 | other l0 t hl=>rw [jC] at n; exact nn n
end
section
theorem pf:((c.map λt=>(dE l t).isNone).all id=true)<->∀ t∈c,dE l t=none:=by rw [f9,aK];exact ⟨λh t ht=>Option.isNone_iff_eq_none.mp (h t ht),λh t ht=>Option.isNone_iff_eq_none.mpr (h t ht)⟩
theorem Ig{q:Nat}(hw:∀ t∈c,WF q tx l t)(hq:q<=3)(hl:l<=4):(c.map (dH l)).sum<=c.length*81:=ri λt ht=>af (Cx l (hw t ht)) (jg hq hl)
inductive C0(q tx l:Nat)(ch:List (Tr l))(N:Nat)(o:Option (Nat×Nat)):Tr (l+1)->Prop
 | no (h:∀ t∈ch,dE l t=none):C0 q tx l ch N o (dP (l+1))
 | yes (h:∃ t∈ch,dE l t≠none) (a':Nat) (pl:place tx N o a'):C0 q tx l ch N o (nd tx a' ch)
inductive OQ(E:WE)(m q tx l:Nat)(o:V)(ow:Tr (l+1))(ch:List (Tr l))(h:HS)(wu:Int)(F:List En)(k:Nat):Prop
 | mk (t':Tr (l+1)) (h':HS) (jy:Int) (e:ai (m+6) 35 [.glob 10,o,.int ((l+1:Nat):Int),.lst (ch.map (ptr q l))] (bM E h [wr q tx wu])=some (ptr q (l+1) t',bM E h' [wr q tx jy]))
  (r:C0 q tx l ch h.next (dE (l+1) ow) t') (p:h'.H.Perm (ents q (l+1) t'++F)) (ok:iw h' (k+1)) (n:h.next<=h'.next) (u:h'.ku+own q (l+1) ow=h.ku+own q (l+1) t') (v:jy+own q (l+1) ow=wu+own q (l+1) t')
variable{q:Nat}{o:V}{ch:List (Tr l)}
theorem q3(hq:q=2\/q=3):q<=3:=hq.elim (λe=>af (bW e) ∅) bW
theorem q2(hq:q=2\/q=3):2<=q:=hq.elim (λe=>bW e.symm) λe=>af ∅ (bW e.symm)
theorem B6 (ok:iw h (k+12)) (hq:q=2\/q=3) (hl:l<=3) (ig:tx<=1000) (hE:wD E 11) (hlen:ch.length=q) (hw:∀ t∈ch,WF q tx l t) (hpl:∀ t∈ch,∀ p,dE l t=some p->p.2<4294967296)
  (O:th q l o ow) (p:h.H.Perm (ox q (l+1) ow++(ch.flatMap (ents q l)++F))):OQ E m q tx l o ow ch h wu F k:=by
 have jq:=q3 hq;have HN:ch.length<=3:=hlen▸jq;have e1:=Lc (m:=m+5) (loc:=jL o ((l+1:Nat):Int) (ch.map (ptr q l)) (ptr q (l+1) ow)) (W:=bM E h [wr q tx wu]) (c:=ch) (q:=q);have hbl:(ch.map λt=>(dE l t).isNone).length<=100000:=by rw [ao]; exact af HN ∅
 induction ha:(ch.map λt=>(dE l t).isNone).all id using eK with
 | false=>
  have hex:∃ t∈ch,dE l t≠none:=Classical.byContradiction λhc=>by
   rw [pf.mpr λt ht=>Classical.byContradiction λh=>hc ⟨t,ht,h⟩] at ha; exact (Bool.noConfusion ha)
  have e2:=Ld (m:=m+5) (loc:=jL o ((l+1:Nat):Int) (ch.map (ptr q l)) (ptr q (l+1) ow)) (W:=bM E h [wr q tx wu]) (c:=ch) (q:=q);have JB:(sq l ch).length<=3:=by unfold sq; rw [ao]; exact af (dx _ _) HN
  have hfs:=Ig hw jq (bz hl);have e3:=Bu (W:=bM E h [wr q tx wu]) (af JB ∅) (by rw [uH]; exact af hfs (af (bU 81 HN) ∅));rw [uH] at e3;have e4:=aaY (m:=m+4) (W:=bM E h [wr q tx wu]) (p:=ptr q l) (hlen▸hq) (kZ q l) λt ht=>aa1 (m:=m+2) (hw t ht) jq (bz hl) ig (hpl t ht);injection Vu (m:=m) (tx:=tx) (f:=(ch.map (dH l)).sum) (wu:=wu) ok jq (q2 hq) hE (P7 (q:=q) hex) (by rw [p5 (kZ q l),hlen]; rfl) p with a' h' jy c1 c2 c3 c4 c5 c6 c7 c8;exact ⟨nd tx a' ch,h',jy,Ww hbl O ha (ak (by rw [ao]; exact af JB ∅)) e1 e2 e3 e4 c1,.yes hex a' c2,c3,c4,c5,c7,c8⟩
 | true=>
  have hU:=pf.mp ha;have hen:ch.flatMap (ents q l)=[]:=List.flatMap_eq_nil_iff.mpr λt ht=>(vh (M:=λl t=>dE l t=none->ents q l t=[]) (λl Z=>kA q l) (λb a x e=>nn e.symm) (λl b a ch e=>nn e.symm) l t) (hU t ht)
  rw [hen] at p;have z:own q (l+1) (dP (l+1))=0:=rfl;rcases e:dE (l+1) ow with _ | ⟨b,a⟩
  ·rw [nJ e] at p;exact ⟨dP (l+1),h,wu,acp hbl O e ha e1,.no hU,p,ok.mono (bf ∅ k),aA _,by rw [l9 e,z],by rw [l9 e,z]⟩
  ·rw [nI e] at p;have mm:(a,bC q (l+1),j3 q (l+1) ow)∈h.H:=p.symm.subset aq;have Nt:iw h (k+1):=ok.mono (bf ∅ k);refine And.elim (λo2 p2=> ?_) (Nt.drop tx mm);refine ⟨dP (l+1),h.drop tx a (bC q (l+1)),wu-bC q (l+1),acq hbl O e ha e1 (yt (m:=m+1) Nt jq e mm),.no hU,(List.perm_cons _).mp (p2.symm.trans p),o2,aA _,?_,?_⟩
   ·rw [jW e,z]; show h.ku-_+_=h.ku+0; lia
   ·rw [jW e,z]; lia
end
section
structure gj where
 l:Nat
 n:Nat
 b:Nat
 a:Nat
 f:Nat
 x:By
def jH{α β:Type}(g:Nat->α->List β):Nat->List α->List β
 | _,[]=>[]
 | i,t::r=>g i t++jH g (i+1) r
theorem m8{g:Nat->α->List β}{t:α}{r:List α}:jH g i (t::r)=g i t++jH g (i+1) r:=rfl
def aC(q:Nat):(l:Nat)->Nat->Tr l->List gj
 | 0,n,t=>match(t:Option (Nat×Nat×By))with
  | none=>[]
  | some p=>[⟨0,n,p.1,p.2.1,1,p.2.2⟩]
 | l+1,n,t=>match(t:Option (Nat×Nat×List (Tr l)))with
  | none=>[]
  | some p=>⟨l+1,n,p.1,p.2.1,(p.2.2.map (dH l)).sum,p.2.2.flatMap (qm q l)⟩::jH (aC q l) (n*q) p.2.2
theorem dU{g:Nat->α->List β}(d:α){y:β}{l:List α}:∀ {i:Nat},y∈jH g i l<->∃ j,j<l.length/\y∈g (i+j) (l.getD j d):=by
 induction l with
 | nil=>exact λ{i}=>⟨(λh=>(eX h)),λ⟨j,h,_⟩=>absurd h (fy _)⟩
 | cons t r ih=>
  intro i;rw [m8];rw [List.mem_append,ih];refine ⟨λh=>h.elim (λh=>⟨0,cN _,h⟩) λ⟨j,hj,h⟩=>⟨j+1,dY hj,by rw [<-cF]; exact h⟩,λ⟨j,hj,h⟩=> ?_⟩;rcases j with _ | j
  ·exact .inl h
  ·exact .inr ⟨j,fq hj,by rw [<-cF] at h; exact h⟩
def NO(q l num:Nat)(r:gj):Prop:=r.l<=l/\r.n / q ^ (l-r.l)=num
def Sub(q l num:Nat)(O R:List gj):Prop:=∀ r,r∈R<->r∈O/\NO q l num r
def leaf(O:List gj)(n:Nat)(x:By):Prop:=∃ r∈O,r.l=0/\r.n=n/\r.x=x
def jF(x:By):Bool:=x.any λi=>i != 0
def chg(O:List gj)(g:Nat->Option By)(n:Nat):Prop:=∃ y,g n=some y/\(jF y=true\/∃ x,leaf O n x)
def EG(q:Nat)(O:List gj)(g:Nat->Option By)(l n:Nat):Prop:=∃ c,chg O g c/\c / q ^ l=n
def u3(q tx N:Nat)(O:List gj)(g:Nat->Option By)(r:gj):Prop:=
 (∃ o∈O,o.l=r.l/\o.n=r.n/\(¬ EG q O g r.l r.n->o.b=r.b/\o.a=r.a)/\(EG q O g r.l r.n->r.b=tx/\(o.b=tx->r.a=o.a)/\(o.b≠tx->N<=r.a)))\/
 ((∀ o∈O,¬ (o.l=r.l/\o.n=r.n))/\r.b=tx/\N<=r.a)
def vC(O:List gj)(g:Nat->Option By)(n:Nat)(x:By):Prop:=match g n with
 | some y=>y=x/\jF y=true
 | none=>leaf O n x
structure tR(q tx N:Nat)(O:List gj)(g:Nat->Option By)(l num:Nat)(t':Tr l):Prop where
 wf:WF q tx l t'
 row:∀ r∈aC q l num t',u3 q tx N O g r
 con:∀ n x,n / q ^ l=num->(leaf (aC q l num t') n x<->vC O g n x)
variable{q l0 num b:Nat}{r:gj}{O:List gj}
theorem kG(hi:i<q)(h:n / q ^ l=num*q+i):n / q ^ (l+1)=num:=by rw [f7,<-gT,h,fj,Nat.mul_add_div (Nat.zero_lt_of_lt hi),Nat.div_eq_of_lt hi,Nat.add_zero]
theorem wc(hq:0<q)(h:n / q ^ (l+1)=num):∃ i,i<q/\n / q ^ l=num*q+i:=by refine ⟨n / q ^ l % q,Nat.mod_lt _ hq,?_⟩;rw [f7,<-gT] at h;rw [<-h,fj]; exact (Nat.div_add_mod _ _).symm
theorem kD(hi:i<q)(h:NO q l (num*q+i) r):NO q (l+1) num r:=⟨bz h.1,by rw [Nat.succ_sub h.1]; exact kG hi h.2⟩
theorem xW{r:gj}(e:r.l=l):NO q l r.n r:=⟨bW e,by rw [e,Nat.sub_self,Nat.pow_zero,Nat.div_one]⟩
theorem me(q l num:Nat):aC q l num (dP l)=[]:=by induction l using oF <;> rfl
theorem iD:dE l t=none->aC q l num t=[]:=vh (M:=λl t=>dE l t=none->aC q l num t=[]) (λl Z=>me q l num) (λZ Z Z e=>nn e.symm) (λZ Z Z Z e=>nn e.symm) l t
theorem ee{l:List α}(d:α)(h:j<l.length):l.getD j d∈l:=by rw [cJ,aP h]; exact List.getElem_mem h
theorem oH{l:List α}(d:α){x:α}(h:x∈l):∃ j,j<l.length/\l.getD j d=x:=by refine ag (List.mem_iff_getElem.mp h) λj z1=>ag z1 λhj e=> ?_;exact ⟨j,hj,by rw [cJ,aP hj]; exact e⟩
theorem fv(l:Nat):∀ {num:Nat} {t:Tr l},WF q tx l t->∀ r∈aC q l num t,NO q l num r:=by
 induction l with
 | zero=>
  intro num t w r h;rcases (t:Option _)with _ | p
  ·exact (eX h)
  ·rw [ay.mp h]; exact xW (r:=⟨0,num,p.1,p.2.1,1,p.2.2⟩) rfl
 | succ l ih=>
  intro num t w r h;rcases (t:Option _)with _ | p
  ·exact (eX h)
  ·rcases aH.mp h with e | h
   ·rw [e]; exact ⟨aA _,by rw [Nat.sub_self,Nat.pow_zero,Nat.div_one]⟩
   ·refine ag ((dU (dP l)).mp h) λj z1=>And.elim (λhj h=> ?_) z1;exact kD (w.2.2.1▸hj) (ih (w.2.2.2.1 _ (ee (dP l) hj)).1 r h)
theorem mQ:dE l t=some (b,a)->⟨l,num,b,a,dH l t,j3 q l t⟩∈aC q l num t:=by
 refine vh (M:=λl t=>dE l t=some (b,a)->⟨l,num,b,a,dH l t,j3 q l t⟩∈aC q l num t) (λl e=> ?_) (λb' a' x e=> ?_) (λl b' a' ch e=> ?_) l t
 ·rw [jC] at e; exact nn e
 ·have⟨e1,e2⟩:=xV e; subst e1; subst e2; exact aq
 ·have⟨e1,e2⟩:=xV e; subst e1; subst e2; exact aq
end
variable{r:gj}
section
variable{q l0 num b:Nat}{O:List gj}
theorem mO{ch:List (Tr l)}(w:WF q tx (l+1) (nd b a ch))(s:Sub q (l+1) num O (aC q (l+1) num (nd b a ch)))(hi:i<q):Sub q l (num*q+i) O (aC q l (num*q+i) (ch.getD i (dP l))):=by
 have hlen:ch.length=q:=w.2.2.1;refine λr=>⟨λh=>⟨((s r).mp (aw _ ((dU (dP l)).mpr ⟨i,hlen▸hi,h⟩))).1,fv l (w.2.2.2.1 _ (ee (dP l) (hlen▸hi))).1 r h⟩,λ⟨h1,h2⟩=> ?_⟩
 rcases aH.mp ((s r).mpr ⟨h1,kD hi h2⟩)with h | h
 ·rw [h] at h2; exact absurd h2.1 (Nat.not_succ_le_self l)
 ·refine ag ((dU (dP l)).mp h) λj z1=>And.elim (λhj h=> ?_) z1;have h3:=(fv l (w.2.2.2.1 _ (ee (dP l) hj)).1 r h).2;rw [<-Nat.add_left_cancel (h3.symm.trans h2.2)]; exact h
theorem wX(s:Sub q (l+1) num O [])(hi:i<q):Sub q l (num*q+i) O []:=λr=>⟨(λh=>(eX h)),λ⟨h1,h2⟩=>(s r).mpr ⟨h1,kD hi h2⟩⟩
theorem Bv{t:Tr l0}(w:WF q tx l0 t)(hl:l0<=l)(s:Sub q (l+1) 0 O (aC q l0 0 t))(hq:0<q):Sub q l 0 O (aC q l0 0 t):=λr=>
 ⟨λh=>by
  have h1:=fv l0 w r h;have e:l-r.l=(l0-r.l)+(l-l0):=((dy _ _).trans (Nat.sub_add_sub_cancel hl h1.1)).symm;exact ⟨((s r).mp h).1,af h1.1 hl,by rw [e,Nat.pow_add,<-gT,h1.2,Nat.zero_div]⟩,
 λ⟨h1,h2⟩=>(s r).mpr ⟨h1,kD (num:=0) (i:=0) hq (by rw [Nat.zero_mul]; exact h2)⟩⟩
theorem Py{t:Tr l0}(w:WF q tx l0 t)(hl:l0<=l)(s:Sub q (l+1) 0 O (aC q l0 0 t))(hi:i<q)(hi0:i≠0):Sub q l i O []:=λr=>
 ⟨(λh=>(eX h)),λ⟨h1,h2⟩=>by
  have h3:=(s r).mpr ⟨h1,kD (num:=0) (i:=i) hi (by rw [Nat.zero_mul,bF]; exact h2)⟩;exact absurd (h2.2.symm.trans ((Bv w hl s (Nat.zero_lt_of_lt hi) r).mp h3).2.2) hi0⟩
end
section
variable{q l0 num b f:Nat}{t':Tr l}{O R:List gj}{ch ch':List (Tr l)}
theorem Po(h:NO q l num r)(t:EG q O g r.l r.n):∃ n,n / q ^ l=num/\chg O g n:=by refine ag t λc z1=>And.elim (λh1 h2=> ?_) z1;refine ⟨c,?_,h1⟩;rw [<-gK h.1,Nat.pow_add,<-gT,h2]; exact h.2
theorem qR(s:Sub q l num O R)(h:n / q ^ l=num):leaf R n x<->leaf O n x:=
 ⟨λ⟨r,h1,h2⟩=>⟨r,((s r).mp h1).1,h2⟩,λ⟨r,h1,h2,h3,h4⟩=>⟨r,(s r).mpr ⟨h1,h2▸bw l,by rw [h2,h3]; exact h⟩,h2,h3,h4⟩⟩
theorem rA(w:WF q tx l t)(s:Sub q l num O (aC q l num t))(hn:∀ n,n / q ^ l=num->¬ chg O g n):tR q tx N O g l num t:=by
 refine ⟨w,λr hr=> ?_,λn x hx=> ?_⟩
 ·have h1:=(s r).mp hr;exact .inl ⟨r,h1.1,rfl,rfl,λZ=>⟨rfl,rfl⟩,λht=>have⟨n,h2,h3⟩:=Po h1.2 ht; absurd h3 (hn n h2)⟩
 ·rw [qR s hx];unfold vC;rcases e:g n with _ | y
  ·exact Iff.rfl
  ·exact ⟨λhl=>absurd ⟨y,e,.inr ⟨x,hl⟩⟩ (hn n hx),λha=>absurd ⟨y,e,.inl ha.2⟩ (hn n hx)⟩
theorem ux{r0:gj}(hlen:ch.length=q)(hw:∀ t∈ch,WF q tx l t)(h0:r0.l≠0)(hi:i<q)(hn:n / q ^ l=num*q+i):leaf (r0::jH (aC q l) (num*q) ch) n x<->leaf (aC q l (num*q+i) (ch.getD i (dP l))) n x:=by
 refine ⟨λ⟨r,h1,h2,h3,h4⟩=> ?_,λ⟨r,h1,h2⟩=>⟨r,aw _ ((dU (dP l)).mpr ⟨i,hlen▸hi,h1⟩),h2⟩⟩;rcases aH.mp h1 with e | h1
 ·exact absurd (e▸h2) h0
 ·refine ag ((dU (dP l)).mp h1) λj z1=>And.elim (λhj h=> ?_) z1;have h5:=(fv l (hw _ (ee (dP l) hj)) r h).2;rw [h2,h3,Nat.sub_zero,hn] at h5;rw [Nat.add_left_cancel h5];exact ⟨r,h,h2,h3,h4⟩
section
variable(hlen:ch.length=q)(hq:0<q)(H:∀ i,i<q->tR q tx N O g l (num*q+i) (ch.getD i (dP l)))
include hlen hq H
theorem xm(hb:1<=b/\b<=tx)(hc:∀ t∈ch,∀ p,dE l t=some p->p.1<=b)(gx:∃ t∈ch,dE l t≠none)(hr:u3 q tx N O g ⟨l+1,num,b,a,(ch.map (dH l)).sum,ch.flatMap (qm q l)⟩):tR q tx N O g (l+1) num (nd b a ch):=by
 have hw:∀ t∈ch,WF q tx l t:=λt ht=>by
  refine ag (oH (dP l) ht) λj z1=>And.elim (λhj e=> ?_) z1;rw [<-e]; exact (H j (hlen▸hj)).wf
 refine ⟨⟨hb.1,hb.2,hlen,λt ht=>⟨hw t ht,hc t ht⟩,gx⟩,λr h=> ?_,λn x hn=> ?_⟩
 ·rcases aH.mp h with e | h
  ·rw [e]; exact hr
  ·refine ag ((dU (dP l)).mp h) λj z1=>And.elim (λhj h=> ?_) z1;exact (H j (hlen▸hj)).row r h
 ·refine ag (wc hq hn) λi z1=>And.elim (λhi h1=> ?_) z1;rw [<-(H i hi).con n x h1];exact ux hlen hw (Nat.succ_ne_zero l) hi h1
theorem Gj(hU:∀ t∈ch,dE l t=none):tR q tx N O g (l+1) num (dP (l+1)):=by refine ⟨trivial,(λr h=>(eX h)),λn x hn=> ?_⟩;refine ag (wc hq hn) λi z1=>And.elim (λhi h1=> ?_) z1;rw [<-(H i hi).con n x h1,iD (hU _ (ee (dP l) (hlen▸hi)))];exact Iff.rfl
end
theorem BD(h:∀ o∈O,¬ (o.l=l/\o.n=n))(ha:N<=a):u3 q tx N O g ⟨l,n,tx,a,f,x⟩:=.inr ⟨h,rfl,ha⟩
theorem Kp{o:gj}(ho:o∈O)(h1:o.l=l)(h2:o.n=n)(ht:EG q O g l n)(hp:place tx N (some (o.b,o.a)) a):u3 q tx N O g ⟨l,n,tx,a,f,x⟩:=
 .inl ⟨o,ho,h1,h2,λh=>absurd ht h,λZ=>⟨rfl,hp.1,hp.2⟩⟩
theorem kY{M:Nat}{o:Option (Nat×Nat)}(h:place tx N o a)(hm:M<=N):place tx M o a:=by
 rcases o with _ | p
 ·exact af hm h
 ·exact ⟨h.1,λhb=>af hm (h.2 hb)⟩
theorem kW(w:WF q tx l t)(s:Sub q l num O (aC q l num t))(hp:place tx N (dE l t) a)(ht:dE l t≠none->EG q O g l num):u3 q tx N O g ⟨l,num,tx,a,f,x⟩:=by
 rcases e:dE l t with _ | ⟨b,a0⟩
 ·rw [e] at hp;refine BD (λo ho hh=> ?_) hp;have:=(s o).mpr ⟨ho,hh.2▸xW hh.1⟩;rw [iD e] at this; exact (eX this)
 ·have hr:=mQ (q:=q) (num:=num) e;rw [e] at hp;exact Kp (o:=⟨l,num,b,a0,dH l t,j3 q l t⟩) ((s _).mp hr).1 rfl rfl (ht λq=>nn (q.symm.trans e)) hp
theorem qM(h:jk l t t'=true):dE l t=dE l t'/\dH l t=dH l t':=
 have⟨h1,h2⟩:=BB h
 ⟨h1,h2.elim (λh2=>by rw [kE h2,kE (h1▸h2)]) id⟩
theorem FZ(h:jk l t t'=true):qm q l t=qm q l t':=by unfold qm; rw [(qM h).1,(qM h).2]
theorem Kl (w:WF q tx (l+1) (nd b a ch)) (s:Sub q (l+1) num O (aC q (l+1) num (nd b a ch))) (H:∀ i,i<q->tR q tx N O g l (num*q+i) (ch'.getD i (dP l)))
  (hs:∀ i,i<q->jk l (ch.getD i (dP l)) (ch'.getD i (dP l))=true) (hq:0<q) (ht:EG q O g (l+1) num):b=tx:=by
 refine ag ht λc z1=>And.elim (λhc hn=> ?_) z1;refine ag (wc hq hn) λi z1=>And.elim (λhi h1=> ?_) z1;have hR:=H i hi;have hS:=(BB (hs i hi)).1;have sc:=mO w s hi;have hl:ch.length=q:=w.2.2.1;have hm:ch.getD i (dP l)∈ch:=ee _ (hl▸hi);rcases e:dE l (ch'.getD i (dP l))with _ | ⟨b',a'⟩
 ·have h2:∀ x,¬ vC O g c x:=λx hx=>by
   refine ag ((hR.con c x h1).mpr hx) λr z1=>And.elim (λhr Z=> ?_) z1;rw [iD e] at hr; exact (eX hr)
  refine ag hc λy z1=>And.elim (λhy h3=> ?_) z1;rcases h3 with h3 | ⟨x,h3⟩
  ·exact absurd (show vC O g c y by unfold vC; rw [hy]; exact ⟨rfl,h3⟩) (h2 y)
  ·refine ag ((qR sc h1).mpr h3) λr z1=>And.elim (λhr Z=> ?_) z1;rw [iD (hS.trans e)] at hr; exact (eX hr)
 ·have htc:EG q O g l (num*q+i):=⟨c,hc,h1⟩
  have DP:b'=tx:=(hR.row _ (mQ (q:=q) (num:=num*q+i) e)).elim (λy=>y.elim λZ y=>(y.2.2.2.2 htc).1) λy=>y.2.1;exact fz w.2.1 (DP▸(w.2.2.2.1 _ hm).2 _ (hS.trans e))
end
section
def bE(e:Nat×By):V×V:=(.int e.1,.bytes e.2)
def cK:List (Nat×By)->Nat->Option By
 | [],_=>none
 | e::r,n=>bif e.1==n then some e.2 else cK r n
theorem BW{e:Nat×By}{r:List (Nat×By)}:cK (e::r) n=bif e.1==n then some e.2 else cK r n:=rfl
def i5(s i:Nat)(B:List (Nat×By)):List (Nat×By):=(B.filter λe=>e.1 / s==i).map λe=>(e.1 % s,e.2)
def KN(B:List (Nat×α)):Prop:=(B.map (·.1)).Nodup
theorem mY(a b:Nat):dK (.int a) (.int b)=(a==b):=by rw [iJ,aD];show((tp (.int (b:Int))).any λj=>decide ((a:Int)=j))=true<->_;exact ⟨λh=>cx (cE (h:decide ((a:Int)=b)=true)),λh=>(ak (av Int.ofNat h):decide ((a:Int)=b)=true)⟩
variable{s:Nat}
theorem jZ(n:Int):ju (.int n) (B.map bE)=true:=by show(B.map bE).all _=true;rw [f9];exact aK.mpr λe Z=>rfl
theorem ly:ey (.int n) (B.map bE)=(cK B n).map V.bytes:=by
 induction B with
 | nil=>rfl
 | cons e r ih=>show(bif dK (.int e.1) (.int n)then some (V.bytes e.2)else ey (.int n) (r.map bE))=Option.map V.bytes (bif e.1==n then some e.2 else cK r n);rw [mY,ih];induction e.1==n <;> rfl
theorem jc(h:KN B){e:Nat×By}(m:e∈B):cK B e.1=some e.2:=by
 induction B with
 | nil=>exact (eX m)
 | cons y r ih=>
  have h':=bj.mp h;rw [BW];rcases aH.mp m with q | m
  ·rw [<-q,aG]; rfl
  ·rw [aI.mpr λhc=>h'.1 (ba.mpr ⟨e,m,hc.symm⟩)]; exact ih h'.2 m
theorem fA(h:cK B n=some x):(n,x)∈B:=by
 induction B with
 | nil=>exact nn h
 | cons y r ih=>refine iG h (λe h=> ?_) λZ h=>aw _ (ih h);rw [<-aD.mp e,<-ae h]; exact aq
theorem Ag(h:cK B n=none):∀ e∈B,e.1≠n:=by
 induction B with
 | nil=>exact λe he=>(eX he)
 | cons y r ih=>
  rw [BW] at h;induction q:y.1==n using eK with
  | true=>rw [q] at h; exact (SW h)
  | false=>rw [q] at h; exact ah.mpr ⟨aI.mp q,ih h⟩
theorem qt{P:List (V×V)}(h:∀ p∈P,∀ d∈D,dK d.1 p.1=false)(hp:P.Pairwise λa b=>dK a.1 b.1=false):jM D P=D++P:=by
 have put:∀ {D:List (V×V)} {p:V×V},(∀ d∈D,dK d.1 p.1=false)->gq p.1 p.2 D=D++ [p]:=λ{D p} h=>by
  induction D with
  | nil=>rfl
  | cons d r ih=>refine And.elim (λh1 h2=> ?_) (ah.mp h);rw [sD];rw [h1]; exact av (d::·) (ih h2)
 induction P generalizing D with
 | nil=>exact (bS D).symm
 | cons p r ih=>
  refine And.elim (λW8 W7=> ?_) (fU.mp hp);rw [D9];rw [put (h p aq),ih (λy hy d hd=> ?_) W7,cw]; rfl;rcases List.mem_append.mp hd with hd | hd
  ·exact h y (aw _ hy) d hd
  ·rw [ay.mp hd]; exact W8 y hy
theorem we(h:KN B):jM [] (B.map bE)=B.map bE:=by refine qt (λZ Z d hd=>(eX hd)) (br.mpr ((br.mp h).imp λ{a b} uE=> ?_));show dK (.int a.1) (.int b.1)=false;rw [mY]; exact aI.mpr uE
end
section
variable{s rel:Nat}
theorem Du(hr:rel<s):cK (i5 s i B) rel=cK B (i*s+rel):=by
 induction B with
 | nil=>rfl
 | cons e r ih=>
  unfold i5 at ih ⊢;rw [List.filter_cons];show _=bif e.1==i*s+rel then some e.2 else cK r (i*s+rel)
  induction h1:e.1 / s==i using eK with
  | false=>rw [aI.mpr λhc=>aI.mp h1 (by rw [hc,fj,Nat.mul_add_div (Nat.zero_lt_of_lt hr),Nat.div_eq_of_lt hr,Nat.add_zero])];exact ih
  | true=>have hd:=Nat.div_add_mod e.1 s;rw [aD.mp h1,fj] at hd;show(bif e.1 % s==rel then some e.2 else _)=_;rw [ih,show(e.1 % s==rel)=(e.1==i*s+rel)from iJ.mpr (by rw [aD,aD]; exact ⟨λh=>by rw [<-hd,h],λh=>Nat.add_left_cancel (hd.trans h)⟩)]
theorem GF{e:Nat×By}(h:e∈i5 s i B):∃ e0∈B,e.2=e0.2/\e.1=e0.1 % s/\e0.1 / s=i:=by obtain ⟨e0,h1,rfl⟩:=ba.mp h;have h1:=bR.mp h1;exact ⟨e0,h1.1,rfl,rfl,aD.mp h1.2⟩
theorem KI(h:KN B):KN (i5 s i B):=by refine br.mpr (br.mpr (List.Pairwise.imp_of_mem (λ{a b} ha hb uE hc=>uE ?_) ((br.mp h).filter _)));have hc:a.1 % s=b.1 % s:=hc;rw [<-Nat.div_add_mod a.1 s,<-Nat.div_add_mod b.1 s,aD.mp (bR.mp ha).2,aD.mp (bR.mp hb).2,hc]
theorem GG:(i5 s i B).length<=B.length:=by unfold i5; rw [ao]; exact dx _ _
theorem yn(a b:Nat):((a:Int)).fdiv (b:Int)=((a / b:Nat):Int):=by rw [Int.fdiv_eq_ediv_of_nonneg _ (aN _)]; exact (Int.natCast_ediv a b).symm
theorem yl(a b:Nat):((a:Int)).fmod (b:Int)=((a % b:Nat):Int):=by rw [Int.fmod_eq_emod_of_nonneg _ (aN _)]; exact (Int.natCast_emod a b).symm
theorem L9(h:KN B)(hl:B.length<=1000):jN W 8 [.lst (B.map λe=>.tup [.int e.1,.bytes e.2])]=some (.df (B.map bE)):=by show(nc (B.map λe=>V.tup [.int e.1,.bytes e.2])).bind Me=_;rw [show nc (B.map λe=>V.tup [.int e.1,.bytes e.2])=some (B.map bE)from jo B λZ Z=>rfl];show iv _ (V.df (jM [] (B.map bE)))=_;rw [we h];refine gv (dk (ak (by rw [ao]; exact hl)) (aK.mpr λe he=> ?_));obtain ⟨x,hx,rfl⟩:=ba.mp he;exact jZ _
theorem m7(h:KN B){e:Nat×By}(m:e∈B):lR W (.df (B.map bE)) (.int e.1)=some (.bytes e.2):=by refine sE (jZ _) ?_;rw [ly,jc h m]; rfl
end
section
variable{k o:V}{l b f q tx:Int}{B:By}{R:List V}
theorem aa6(Aw:ai m 42 [.glob 1,PV k s l b f] (bM E h [wr q tx wu])=some (.bytes B,bM E h [wr q tx wu]))(HU:ai m 55 [.bytes B] (bM E h [wr q tx wu])=some (.lst ps,bM E h [wr q tx wu])):
  ai (m+1) 36 [.glob 10,PV k s l b f,.int l] (bM E h [wr q tx wu])=some (.lst ps,bM E h [wr q tx wu]):=by
 have hl:(l==l)=true:=aG l;exact au (aZ ..) [fT 3 hl,fC 2 Aw,fC 0 HU] ⋯
section
variable(hr:d7 .Mult (.lst [.none]) (.int (q-1))=some (.lst R))(hR:jR (1+R.length)=true)
include hr hR
theorem aa7(hl:(l==l')=false):ai (m+1) 36 [.glob 10,PV k s l b f,.int l'] (bM E h [wr q tx wu])=some (.lst (PV k s l b f::R),bM E h [wr q tx wu]):=by have ha:d7 .Add (.lst [PV k s l b f]) (.lst R)=some (.lst (PV k s l b f::R)):=gv hR;exact au (aZ ..) [fF 3 hl,fV 4 hr,fV 0 ha] ⋯
theorem aa8:ai (m+1) 36 [.glob 10,.none,.int l'] (bM E h [wr q tx wu])=some (.lst (.none::R),bM E h [wr q tx wu]):=by have ha:d7 .Add (.lst [.none]) (.lst R)=some (.lst (.none::R)):=gv hR;exact au (aZ ..) [fV 5 hr,fV 0 ha] ⋯
end
theorem Gk{q:Nat}(hq:q=2\/q=3):d7 .Mult (.lst [.none]) (.int ((q:Int)-1))=some (.lst (List.replicate (q-1) .none)):=by rcases hq with rfl | rfl <;> rfl
end
abbrev wS(o:V)(L:Int)(D:List (V×V))(ps acc:List V)(s:Int)(x7 x8 x9:Option LV):List (Option LV):=
 [~~~(.glob 10),~~~o,~~~(.int L),~~~(.df D),~~~(.lst ps),some (.ol acc),~~~(.int s),x7,x8,x9]
section
variable{a0 a1 a2 a4 a5 a8 a9:Option LV}{i n r d:Int}{D x:V}(h1:d7 .FloorDiv (.int n) (.int s)=some (.int d))
include h1
theorem abI(h2:(d==i)=false):cD (ai m) 37 [2,0] [0,0] (.int n) ⟨[a0,a1,a2,~~~D,a4,a5,~~~(.int s),~~~(.int i),a8,a9],[y],W⟩=
  some ([],⟨[a0,a1,a2,~~~D,a4,a5,~~~(.int s),~~~(.int i),a8,a9],[some (.int n)],W⟩):=by
 exact au (qB ..) [fV 0 h1,fF 1 h2] ⋯
theorem abH(h2:(d==i)=true)(h3:d7 .Mod (.int n) (.int s)=some (.int r))(h4:lR W D (.int n)=some x):cD (ai m) 37 [2,0] [0,0] (.int n) ⟨[a0,a1,a2,~~~D,a4,a5,~~~(.int s),~~~(.int i),a8,a9],[y],W⟩=
  some ([.tup [.int r,x]],⟨[a0,a1,a2,~~~D,a4,a5,~~~(.int s),~~~(.int i),a8,a9],[some (.int n)],W⟩):=by
 exact au (qB ..) [fV 0 h1,fT 1 h2,fV 1 h3,fV 0 h4] ⋯
end
theorem Dv{s:Nat}:(B.flatMap λe=>bif e.1 / s==i then [V.tup [.int ((e.1 % s:Nat):Int),.bytes e.2]] else [])=(i5 s i B).map λe=>V.tup [.int e.1,.bytes e.2]:=by
 unfold i5;induction B with
 | nil=>rfl
 | cons b r ih=>rw [cO,ih,List.filter_cons];induction b.1 / s==i <;> rfl
theorem KH{o:V}{L:Int}{acc:List V}{s:Nat}(hs:0<s)(WY:s<=100000)(h:KN B):
  ∃ y,dj bT (cD (ai m) 37 [2,0] [0,0]) ((B.map bE).map (·.1)) ⟨wS o L (B.map bE) ps acc s (~~~(.int i)) x8 x9,[none],W⟩=
   some ((i5 s i B).map (λe=>V.tup [.int e.1,.bytes e.2]),⟨wS o L (B.map bE) ps acc s (~~~(.int i)) x8 x9,[y],W⟩):=by
 rw [aU,<-Dv];refine gQ (λe:Nat×By=>V.int e.1) _ (λe he y=> ?_) none;have z:decide ((s:Int)≠0)=true:=ak λe=>absurd (cx e) (dM hs);have h1:d7 .FloorDiv (.int e.1) (.int s)=some (.int ((e.1 / s:Nat):Int)):=
  (gv (dk z (ak (az WY ∅)))).trans (av (λi=>some (V.int i)) (yn _ _))
 have hb:(((e.1 / s:Nat):Int)==(i:Int))=(e.1 / s==i):=by rw [iJ,aD,aD]; exact Int.ofNat_inj
 induction h5:e.1 / s==i using eK with
 | false=>exact abI h1 (hb.trans h5)
 | true=>exact abH h1 (hb.trans h5) ((gv z).trans (av (λi=>some (V.int i)) (yl _ _))) (m7 h he)
section
variable{o p p' k:V}{L i s' l1 b f q tx:Int}{PD:List (V×V)}{acc Ls:List V}{x7:Option LV}
theorem JP (e:dj bT (cD (ai m) 37 [2,0] [0,0]) (D.map (·.1)) ⟨wS o L D ps acc s (~~~(.int i)) (~~~p) x9,[none],bM E h [wr q tx wu]⟩=some (Ls,⟨wS o L D ps acc s (~~~(.int i)) (~~~p) x9,[y],bM E h [wr q tx wu]⟩))
  (hs:jR Ls.length=true) (hd:jN (bM E h [wr q tx wu]) 8 [.lst Ls]=some (.df PD)) (gx:(PD.isEmpty != true)=true) (ha:iv (decide (acc.length<100000)) (acc++ [p'])=some (acc++ [p']))
  (XM:ai m 37 [.glob 10,p,.int (L-1),.df PD] (bM E h [wr q tx wu])=some (p',W')):
  cj (ai m) 37 [2] (.tup [.int i,p]) ⟨wS o L D ps acc s x7 x8 x9,[],bM E h [wr q tx wu]⟩=some (.ez,⟨wS o L D ps (acc++ [p']) s (~~~(.int i)) (some (.v p')) (~~~(.df PD)),[],W'⟩):=by
 exact au (fH ..) [fL 1 e,fT 0 hs,fV 0 hd,fT 0 gx,fC 2 XM,fX 0 ha] ⋯
theorem TO (e:dj bT (cD (ai m) 37 [2,0] [0,0]) (D.map (·.1)) ⟨wS o L D ps acc s (~~~(.int i)) (~~~(PV k s' l1 b f)) x9,[none],bM E h [wr q tx wu]⟩=some (Ls,⟨wS o L D ps acc s (~~~(.int i)) (~~~(PV k s' l1 b f)) x9,[y],bM E h [wr q tx wu]⟩))
  (hs:jR Ls.length=true) (hd:jN (bM E h [wr q tx wu]) 8 [.lst Ls]=some (.df PD)) (gx:(PD.isEmpty != true)=false) (ha:iv (decide (acc.length<100000)) (acc++ [p'])=some (acc++ [p']))
  (jt:decide (l1<L-1)=true) (XM:ai m 37 [.glob 10,PV k s' l1 b f,.int (L-1),.df PD] (bM E h [wr q tx wu])=some (p',W')):
  cj (ai m) 37 [2] (.tup [.int i,PV k s' l1 b f]) ⟨wS o L D ps acc s x7 x8 x9,[],bM E h [wr q tx wu]⟩=some (.ez,⟨wS o L D ps (acc++ [p']) s (~~~(.int i)) (some (.v p')) (~~~(.df PD)),[],W'⟩):=by
 exact au (fH ..) [fL 1 e,fT 0 hs,fV 0 hd,fF 0 gx,fT 4 jt,fC 3 XM,fX 0 ha] ⋯
theorem JO (e:dj bT (cD (ai m) 37 [2,0] [0,0]) (D.map (·.1)) ⟨wS o L D ps acc s (~~~(.int i)) (some (.v .none)) x9,[none],bM E h [wr q tx wu]⟩=some (Ls,⟨wS o L D ps acc s (~~~(.int i)) (some (.v .none)) x9,[y],bM E h [wr q tx wu]⟩))
  (hs:jR Ls.length=true) (hd:jN (bM E h [wr q tx wu]) 8 [.lst Ls]=some (.df PD)) (gx:(PD.isEmpty != true)=false) (ha:iv (decide (acc.length<100000)) (acc++ [.none])=some (acc++ [.none])):
  cj (ai m) 37 [2] (.tup [.int i,.none]) ⟨wS o L D ps acc s x7 x8 x9,[],bM E h [wr q tx wu]⟩=some (.ez,⟨wS o L D ps (acc++ [.none]) s (~~~(.int i)) (some (.v .none)) (~~~(.df PD)),[],bM E h [wr q tx wu]⟩):=by
 exact au (fH ..) [fL 1 e,fT 0 hs,fV 0 hd,fF 0 gx,fX 3 ha] ⋯
theorem JN (e:dj bT (cD (ai m) 37 [2,0] [0,0]) (D.map (·.1)) ⟨wS o L D ps acc s (~~~(.int i)) (~~~(PV k s' l1 b f)) x9,[none],bM E h [wr q tx wu]⟩=some (Ls,⟨wS o L D ps acc s (~~~(.int i)) (~~~(PV k s' l1 b f)) x9,[y],bM E h [wr q tx wu]⟩))
  (hs:jR Ls.length=true) (hd:jN (bM E h [wr q tx wu]) 8 [.lst Ls]=some (.df PD)) (gx:(PD.isEmpty != true)=false) (ha:iv (decide (acc.length<100000)) (acc++ [PV k s' l1 b f])=some (acc++ [PV k s' l1 b f])) (jt:decide (l1<L-1)=false):
  cj (ai m) 37 [2] (.tup [.int i,PV k s' l1 b f]) ⟨wS o L D ps acc s x7 x8 x9,[],bM E h [wr q tx wu]⟩=some (.ez,⟨wS o L D ps (acc++ [PV k s' l1 b f]) s (~~~(.int i)) (~~~(PV k s' l1 b f)) (~~~(.df PD)),[],bM E h [wr q tx wu]⟩):=by
 exact au (fH ..) [fL 1 e,fT 0 hs,fV 0 hd,fF 0 gx,fF 4 jt,fX 2 ha] ⋯
end
section
variable{h1:HS}{W2:List aV}{o p k r:V}{l b f q tx:Int}{after:List V}{x7:Option LV}{sp:Nat}
theorem E8(XH:ai m 62 [.int 8,.bytes x] (bM E h [wr q tx wu])=some (.int 1,bM E h [wr q tx wu]))(DQ:ai m 34 [.glob 10,o,.int 0,.bytes x,.int 1] (bM E h [wr q tx wu])=some (r,W')):
  ai (m+1) 37 [.glob 10,o,.int 0,.df [bE (0,x)]] (bM E h [wr q tx wu])=some (r,W'):=by
 exact au (aZ ..) [fC 5 XH,fC 0 DQ] ⋯
section
variable(h0:(l==0)=false)(hp:d7 .Pow (.int q) (.int (l-1))=some (.int sp))
include h0 hp
theorem E6 (yi:ai m 36 [.glob 10,PV k s l b f,.int l] (bM E h [wr q tx wu])=some (.lst ps,bM E h [wr q tx wu]))
  (hl:dO bT (cj (ai m) 37 [2]) (eQ 0 ps) ⟨wS (PV k s l b f) l D ps [] sp none none none,[],bM E h [wr q tx wu]⟩=some (.ez,⟨wS (PV k s l b f) l D ps after sp x7 x8 x9,[],bM E h1 [wr q tx gY]⟩))
  (yh:ai m 63 [.lst ps,.lst after] (bM E h1 [wr q tx gY])=some (.bool true,bM E h1 [wr q tx gY])):
  ai (m+1) 37 [.glob 10,PV k s l b f,.int l,.df D] (bM E h [wr q tx wu])=some (PV k s l b f,bM E h1 [wr q tx gY]):=by
 have Xm:(l==l)=true:=aG l;exact au (aZ ..) [fF 0 h0,fC 1 yi,fV 3 hp,fO 1 hl,fT 3 Xm,fC 0 yh] ⋯
theorem JZ (yi:ai m 36 [.glob 10,PV k s l b f,.int l] (bM E h [wr q tx wu])=some (.lst ps,bM E h [wr q tx wu]))
  (hl:dO bT (cj (ai m) 37 [2]) (eQ 0 ps) ⟨wS (PV k s l b f) l D ps [] sp none none none,[],bM E h [wr q tx wu]⟩=some (.ez,⟨wS (PV k s l b f) l D ps after sp x7 x8 x9,[],bM E h1 [wr q tx gY]⟩))
  (yh:ai m 63 [.lst ps,.lst after] (bM E h1 [wr q tx gY])=some (.bool false,bM E h1 [wr q tx gY])) (Q8:ai m 35 [.glob 10,PV k s l b f,.int l,.lst after] (bM E h1 [wr q tx gY])=some (r,W2)):
  ai (m+1) 37 [.glob 10,PV k s l b f,.int l,.df D] (bM E h [wr q tx wu])=some (r,W2):=by
 have Xm:(l==l)=true:=aG l;exact au (aZ ..) [fF 0 h0,fC 1 yi,fV 3 hp,fO 1 hl,fT 3 Xm,fC 0 yh,fC 2 Q8] ⋯
theorem O9 (Xm:(l'==l)=false) (yi:ai m 36 [.glob 10,PV k s l' b f,.int l] (bM E h [wr q tx wu])=some (.lst ps,bM E h [wr q tx wu]))
  (hl:dO bT (cj (ai m) 37 [2]) (eQ 0 ps) ⟨wS (PV k s l' b f) l D ps [] sp none none none,[],bM E h [wr q tx wu]⟩=some (.ez,⟨wS (PV k s l' b f) l D ps after sp x7 x8 x9,[],bM E h1 [wr q tx gY]⟩))
  (Q8:ai m 35 [.glob 10,PV k s l' b f,.int l,.lst after] (bM E h1 [wr q tx gY])=some (r,W2)):
  ai (m+1) 37 [.glob 10,PV k s l' b f,.int l,.df D] (bM E h [wr q tx wu])=some (r,W2):=by
 exact au (aZ ..) [fF 0 h0,fC 1 yi,fV 3 hp,fO 1 hl,fF 3 Xm,fC 1 Q8] ⋯
theorem E7 (yi:ai m 36 [.glob 10,.none,.int l] (bM E h [wr q tx wu])=some (.lst ps,bM E h [wr q tx wu]))
  (hl:dO bT (cj (ai m) 37 [2]) (eQ 0 ps) ⟨wS .none l D ps [] sp none none none,[],bM E h [wr q tx wu]⟩=some (.ez,⟨wS .none l D ps after sp x7 x8 x9,[],bM E h1 [wr q tx gY]⟩))
  (Q8:ai m 35 [.glob 10,.none,.int l,.lst after] (bM E h1 [wr q tx gY])=some (r,W2)):
  ai (m+1) 37 [.glob 10,.none,.int l,.df D] (bM E h [wr q tx wu])=some (r,W2):=by
 exact au (aZ ..) [fF 0 h0,fC 1 yi,fV 3 hp,fO 1 hl,fC 2 Q8] ⋯
end
end
def wk:Nat->Nat
 | 0=>12
 | l+1=>12+3*wk l
structure OC where
 l:Nat
 t:Tr l
abbrev kz(q:Nat)(c:OC):V:=ptr q c.l c.t
abbrev uJ(q:Nat)(c:OC):List En:=ents q c.l c.t
abbrev Jv(q:Nat)(c:OC):Nat:=dS q c.l c.t
def wC(q:Nat)(O:List gj)(g:Nat->Option By)(l num:Nat)(c:OC)(t':Tr l):Prop:=
 c.l=l->(∀ n,n / q ^ l=num->¬ chg O g n)->dE c.l c.t=dE l t'/\dH c.l c.t=dH l t'
structure wH(q:Nat)(g:Nat->Option By)(l num:Nat)(B:List (Nat×By)):Prop where
 kn:KN B
 rg:∀ e∈B,e.1<q ^ l/\e.2.length=4
 len:B.length<=1000
 g:∀ rel,rel<q ^ l->g (num*q ^ l+rel)=cK B rel
structure A4(q tx N:Nat)(O:List gj)(l num:Nat)(c:OC)(h:HS)(F:List En)(k:Nat):Prop where
 le:c.l<=l
 z:c.l<l->num=0
 w:WF q tx c.l c.t
 s:Sub q l num O (aC q c.l num c.t)
 ok:iw h (k+wk l+1)
 hN:N<=h.next
 p:h.H.Perm (uJ q c++F)
structure Jf(q tx N:Nat)(O:List gj)(g:Nat->Option By)(l num:Nat)(c:OC)(h:HS)(wu:Int)(F:List En)(k:Nat)(t':Tr l)(h':HS)(jy:Int):Prop where
 r:tR q tx N O g l num t'
 s:wC q O g l num c t'
 p:h'.H.Perm (ents q l t'++F)
 ok:iw h' (k+1)
 n:h.next<=h'.next
 u:h'.ku+Jv q c=h.ku+dS q l t'
 v:jy+Jv q c=wu+dS q l t'
inductive MH(E:WE)(q tx N:Nat)(O:List gj)(g:Nat->Option By)(m l num:Nat)(c:OC)(B:List (Nat×By))(h:HS)(wu:Int)(F:List En)(k:Nat):Prop
 | mk (t':Tr l) (h':HS) (jy:Int) (e:ai (m+l+8) 37 [.glob 10,kz q c,.int l,.df (B.map bE)] (bM E h [wr q tx wu])=some (ptr q l t',bM E h' [wr q tx jy])) (r:Jf q tx N O g l num c h wu F k t' h' jy)
def sZ(E:WE)(q tx N:Nat)(O:List gj)(g:Nat->Option By)(l:Nat):Prop:=
 ∀ {c:OC} {num:Nat} {B:List (Nat×By)} {m:Nat} {h:HS} {wu:Int} {F:List En} {k:Nat},A4 q tx N O l num c h F k->wH q g l num B->(c.l=l->B≠ [])->MH E q tx N O g m l num c B h wu F k
inductive aew(E:WE)(q tx N:Nat)(O:List gj)(g:Nat->Option By)(m l num i:Nat)(c:OC)(B:List (Nat×By))(h:HS)(wu:Int)(F:List En)(k:Nat)(o:V)(ps acc:List V)(x7 x8 x9:Option LV):Prop
 | mk (t':Tr l) (h':HS) (jy:Int) (y7 y8 y9:Option LV)
  (e:cj (ai (m+l+8)) 37 [2] (.tup [.int i,kz q c]) ⟨wS o ((l+1:Nat):Int) (B.map bE) ps acc (q ^ l:Nat) x7 x8 x9,[],bM E h [wr q tx wu]⟩=some (.ez,⟨wS o ((l+1:Nat):Int) (B.map bE) ps (acc++ [ptr q l t']) (q ^ l:Nat) y7 y8 y9,[],bM E h' [wr q tx jy]⟩))
  (r:Jf q tx N O g l (num*q+i) c h wu F k t' h' jy)
theorem ky{q num:Nat}(hq:0<q)(h:n / q ^ l=num):∃ rel,rel<q ^ l/\n=num*q ^ l+rel:=
 ⟨n % q ^ l,Nat.mod_lt _ (Nat.pow_pos hq),by rw [<-h,fj]; exact (Nat.div_add_mod _ _).symm⟩
theorem Sf{q num:Nat}(hq:0<q)(hi:i<q)(b:wH q g (l+1) num B):wH q g l (num*q+i) (i5 (q ^ l) i B):=by
 refine ⟨KI b.kn,λe he=> ?_,af GG b.len,λrel hr=> ?_⟩
 ·refine ag (GF he) λe0 z1=>And.elim (λh1 z2=>And.elim (λh2 z3=>And.elim (λh3 Z=> ?_) z3) z2) z1;exact ⟨by rw [h3]; exact Nat.mod_lt _ (Nat.pow_pos hq),by rw [h2]; exact (b.rg e0 h1).2⟩
 ·have h1:i*q ^ l+rel<q ^ (l+1):=by rw [f7,fj (q ^ l) q];exact ax (Nat.add_lt_add_left hr _) (by rw [<-iN]; exact bU _ hi)
  rw [Du hr,<-b.g _ h1,f7,Nat.add_mul,Nat.mul_assoc,fj q (q ^ l),bP]
theorem rE{acc:List α}{x:α}(h:acc.length<100000):iv (decide (acc.length<100000)) (acc++ [x])=some (acc++ [x]):=gv (ak h)
theorem tq:((l+1:Nat):Int)-1=(l:Int):=by rw [Int.natCast_succ]; exact Int.add_sub_cancel ..
section
variable{q num:Nat}{O:List gj}{c:OC}{o:V}{acc:List V}{x7:Option LV}
theorem Hm(ih:sZ E q tx N O g l)(hq:0<q)(hs:q ^ l<=100000)(hi:i<q)(A:A4 q tx N O l (num*q+i) c h F k)(gx:c.l<l->dE c.l c.t≠none)(b:wH q g (l+1) num B)(nT:acc.length<100000):
  aew E q tx N O g m l num i c B h wu F k o ps acc x7 x8 x9:=by
 have hs0:0<q ^ l:=Nat.pow_pos hq;have bp:=Sf hq hi b;refine ag (KH (m:=m+l+8) (W:=bM E h [wr q tx wu]) (o:=o) (L:=((l+1:Nat):Int)) (ps:=ps) (acc:=acc) (x8:= ~~~(kz q c)) (x9:=x9) (i:=i) hs0 hs b.kn) λy e=> ?_;have hd:=L9 (W:=bM E h [wr q tx wu]) bp.kn bp.len;have hl:jR ((i5 (q ^ l) i B).map λe=>V.tup [.int e.1,.bytes e.2]).length=true:=ak (by rw [ao]; exact af bp.len ∅);induction he:((i5 (q ^ l) i B).map bE).isEmpty != true using eK with
 | true=>
  injection ih (m:=m) (wu:=wu) A bp λZ hc=>by rw [hc] at he; exact (Bool.noConfusion he)with t' h' jy c1 c2
  refine ⟨t',h',jy,~~~(.int i),~~~(ptr q l t'),some (.v (.df ((i5 (q ^ l) i B).map bE))),JP e hl hd he (rE nT) ?_,c2⟩;rw [tq]; exact c1
 | false=>
  have acL:i5 (q ^ l) i B=[]:=by
   rcases e:i5 (q ^ l) i B with _ | ⟨a,r⟩
   ·rfl
   ·rw [e] at he; exact (Bool.noConfusion he)
  by_cases jt:c.l<l
  ·injection ih (m:=m) (wu:=wu) A bp (λh=>absurd h (aL jt))with t' h' jy c1 c2;rcases e':dE c.l c.t with _ | ⟨b,a⟩
   ·exact absurd e' (gx jt)
   ·refine ⟨t',h',jy,~~~(.int i),~~~(ptr q l t'),some (.v (.df ((i5 (q ^ l) i B).map bE))),?_,c2⟩;rw [show kz q c=_ from bK e'] at e c1 ⊢;refine TO e hl hd he (rE nT) (ak ?_) ?_
    ·rw [tq]; exact cz.mpr jt
    ·rw [tq]; exact c1
  ·have tM:∀ n,n / q ^ l=num*q+i->¬ chg O g n:=λn hn ⟨y,hy,_⟩=>by
    refine ag (ky hq hn) λrel z1=>And.elim (λh1 z2=> ?_) z1;obtain rfl:=z2;rw [bp.g rel h1,acL] at hy; exact (mK hy)
   obtain ⟨l1,t1⟩:=c;obtain rfl:l1=l:=fz A.le (dZ jt);have fin:Jf q tx N O g l1 (num*q+i) ⟨l1,t1⟩ h wu F k t1 h wu:=⟨rA A.w A.s tM,λZ Z=>⟨rfl,rfl⟩,A.p,A.ok.mono (bG (aB _ _) 1),aA _,rfl,rfl⟩
   rcases e':dE l1 t1 with _ | ⟨b,a⟩
   ·refine ⟨t1,h,wu,~~~(.int i),~~~(ptr q l1 t1),some (.v (.df ((i5 (q ^ l1) i B).map bE))),?_,fin⟩;rw [show kz q ⟨l1,t1⟩=_ from cY e'] at e ⊢;rw [cY e'];exact JO e hl hd he (rE nT)
   ·refine ⟨t1,h,wu,~~~(.int i),~~~(ptr q l1 t1),some (.v (.df ((i5 (q ^ l1) i B).map bE))),?_,fin⟩;rw [show kz q ⟨l1,t1⟩=_ from bK e'] at e ⊢;rw [bK e'];exact JN e hl hd he (rE nT) (aT (by rw [tq]; exact Int.lt_irrefl _))
end
section
theorem kq(a b c:List α):(a++(b++c)).Perm (b++(a++c)):=by rw [<-cw,<-cw]; exact List.perm_append_comm.append_right _
structure Kid(q tx:Nat)(O:List gj)(l num i:Nat)(c:OC):Prop where
 le:c.l<=l
 z:c.l<l->num*q+i=0
 ne:c.l<l->dE c.l c.t≠none
 w:WF q tx c.l c.t
 s:Sub q l (num*q+i) O (aC q c.l (num*q+i) c.t)
structure Sy(q tx N:Nat)(O:List gj)(g:Nat->Option By)(l num n:Nat)(rest:List OC)(h:HS)(wu:Int)(R:List En)(k:Nat)(new:List (Tr l))(h':HS)(jy:Int):Prop where
 len:new.length=rest.length
 r:∀ j,j<rest.length->tR q tx N O g l (num*q+(n+j)) (new.getD j (dP l))/\wC q O g l (num*q+(n+j)) (rest.getD j ⟨l,dP l⟩) (new.getD j (dP l))
 p:h'.H.Perm (new.flatMap (ents q l)++R)
 ok:iw h' (k+1)
 n:h.next<=h'.next
 u:h'.ku+((rest.map (Jv q)).sum:Nat)=h.ku+((new.map (dS q l)).sum:Nat)
 v:jy+((rest.map (Jv q)).sum:Nat)=wu+((new.map (dS q l)).sum:Nat)
inductive aeI(E:WE)(q tx N:Nat)(O:List gj)(g:Nat->Option By)(m l num n:Nat)(B:List (Nat×By))(rest:List OC)(h:HS)(wu:Int)(R:List En)(k:Nat)(o:V)(ps acc:List V)(x7 x8 x9:Option LV):Prop
 | mk (new:List (Tr l)) (h':HS) (jy:Int) (y7 y8 y9:Option LV)
  (e:dO bT (cj (ai (m+l+8)) 37 [2]) (eQ n (rest.map (kz q))) ⟨wS o ((l+1:Nat):Int) (B.map bE) ps acc (q ^ l:Nat) x7 x8 x9,[],bM E h [wr q tx wu]⟩=some (.ez,⟨wS o ((l+1:Nat):Int) (B.map bE) ps (acc++new.map (ptr q l)) (q ^ l:Nat) y7 y8 y9,[],bM E h' [wr q tx jy]⟩))
  (r:Sy q tx N O g l num n rest h wu R k new h' jy)
variable{q num:Nat}{O:List gj}{o:V}
theorem DE(ih:sZ E q tx N O g l)(hq:0<q)(jq:q<=3)(hs:q ^ l<=100000)(b:wH q g (l+1) num B)(rest:List OC):∀ {n:Nat} {acc:List V} {h:HS} {wu:Int} {R:List En} {x7 x8 x9:Option LV},
  n+rest.length=q->acc.length=n->(∀ j,j<rest.length->Kid q tx O l num (n+j) (rest.getD j ⟨l,dP l⟩))->iw h (k+rest.length*wk l+1)->N<=h.next->h.H.Perm (rest.flatMap (uJ q)++R)->aeI E q tx N O g m l num n B rest h wu R k o ps acc x7 x8 x9:=by
 induction rest with
 | nil=>intro n acc h wu R x7 x8 x9 _ _ _ ok _ p;refine ⟨[],h,wu,x7,x8,x9,?_,rfl,λj hj=>absurd hj (fy _),p,ok.mono (bG (aB _ _) 1),aA _,rfl,rfl⟩;rw [show acc++([]:List (Tr l)).map (ptr q l)=acc from bS _]; rfl
 | cons c r ihr=>
  intro n acc h wu R x7 x8 x9 hn ha hk ok hN p;have k0:Kid q tx O l num n c:=hk 0 (cN _);rw [cO,cw] at p;rw [bZ] at hn ok;have Xe:n<q:=by lia
  rw [iN,show k+(r.length*wk l+wk l)+1=k+r.length*wk l+wk l+1 by lia] at ok;injection Hm (m:=m) (wu:=wu) (o:=o) (ps:=ps) (x7:=x7) (x8:=x8) (x9:=x9) ih hq hs Xe ⟨k0.le,k0.z,k0.w,k0.s,ok,hN,p⟩ k0.ne b (ax (ha▸Xe) (af jq ∅))with t' h1 gY y7 y8 y9 e1 r1;have e0:∀ j,n+1+j=n+(j+1):=λj=>by rw [bP,dy 1]
  induction ihr (n:=n+1) (acc:=acc++ [ptr q l t']) (h:=h1) (wu:=gY) (R:=ents q l t'++R) (x7:=y7) (x8:=y8) (x9:=y9) (by rw [<-hn,bP,dy 1]) (by rw [aQ,ha]; rfl)
   (λj hj=>by rw [e0]; exact hk (j+1) (dY hj)) r1.ok (af hN r1.n) (r1.p.trans (kq _ _ _))with | mk new h2 va z7 z8 z9 e2 r2=>
  refine ⟨t'::new,h2,va,z7,z8,z9,?_,av (· +1) r2.len,λj hj=> ?_,?_,r2.ok,af r1.n r2.n,?_,?_⟩
  ·show(cj _ 37 [2] (.tup [.int n,kz q c]) _).bind _=_;rw [e1];refine e2.trans ?_;rw [cw]; rfl
  ·rcases j with _ | j
   ·exact ⟨r1.r,r1.s⟩
   ·have:=r2.r j (fq hj);rw [e0] at this; exact this
  ·rw [cO,cw]; exact r2.p.trans (kq _ _ _)
  ·have u1:=r1.u;have u2:=r2.u;rw [bu,cP,bu,cP]; lia
  ·have u1:=r1.v;have u2:=r2.v;rw [bu,cP,bu,cP]; lia
end
section
variable{q num:Nat}{O:List gj}{t:Tr 0}
theorem P6{num:Nat}(h:n / q ^ 0=num):n=num:=by rw [Nat.pow_zero,Nat.div_one] at h; exact h
theorem rF:n / q ^ 0=n:=by rw [Nat.pow_zero,Nat.div_one]
section
variable(hg:g num=some x)
include hg
theorem Nx{x':By}(hn:n / q ^ 0=num):vC O g n x'<->x=x'/\jF x=true:=by rw [P6 hn]; unfold vC; rw [hg]
theorem Gi(w:WF q tx 0 t)(s:Sub q 0 num O (aC q 0 num t))(hx:jF x=true)(hl:x.length=4)(ig:1<=tx){a':Nat}(hp:place tx N (dE 0 t) a'):tR q tx N O g 0 num (lf tx a' x):=by
 refine ⟨⟨ig,aA _,hl,hx⟩,λr hr=> ?_,λn x' hn=> ?_⟩
 ·rw [ay.mp hr];exact kW w s hp λZ=>⟨num,⟨x,hg,.inl hx⟩,rF⟩
 ·rw [Nx hg hn];exact ⟨λ⟨r,hr,_,_,h⟩=>⟨by rw [<-h,ay.mp hr],hx⟩,λh=>⟨_,ay.mpr rfl,rfl,(P6 hn).symm,h.1⟩⟩
theorem tF(hx:jF x=false):tR q tx N O g 0 num (dP 0):=by refine ⟨trivial,(λr h=>(eX h)),λn x' hn=> ?_⟩;rw [Nx hg hn];exact ⟨(λ⟨r,hr,_⟩=>(eX hr)),λh=>by rw [hx] at h; exact (Bool.noConfusion (h.2))⟩
end
theorem Dw(b:wH q g 0 num B)(hB:B≠ []):∃ x,B=[(0,x)]/\x.length=4/\g num=some x:=by
 have z:∀ e∈B,e.1=0:=λe he=>Nat.lt_one_iff.mp (b.rg e he).1;have g0:=b.g 0 Nat.one_pos;rw [Nat.pow_zero,Nat.mul_one,Nat.add_zero] at g0;rcases B with _ | ⟨e,_ | ⟨f,r⟩⟩
 ·exact absurd rfl hB
 ·have:=z e aq;obtain ⟨n,x⟩:=e;obtain rfl:n=0:=this;exact ⟨x,rfl,(b.rg _ aq).2,g0⟩
 ·refine absurd ?_ (bj.mp b.kn).1;show e.1∈(f::r).map (·.1);rw [z e aq,<-z f (aw _ aq)]; exact aq
theorem Vi{H:List En}(p:H.Perm (ents q 0 t++F)):H.Perm (ox q 0 t++F):=by rcases (t:Option _)with _ | ⟨b,a,y⟩ <;> exact p
theorem uc:dS q 0 t=own q 0 t:=by rcases (t:Option _)with _ | ⟨b,a,y⟩ <;> rfl
theorem EV(hq:q=2\/q=3)(hE:wD E 11)(ig:1<=tx):sZ E q tx N O g 0:=by
 intro c num B m h wu F k A b gx;obtain ⟨l0,t⟩:=c;obtain rfl:l0=0:=Nat.le_zero.mp A.le;have jq:=q3 hq;obtain ⟨x,rfl,hx4,Z7⟩:=Dw b (gx rfl);have Ta:=Vi A.p;have ok:=A.ok;have XH:=w62 (m:=m+6) (W:=bM E h [wr q tx wu]) (x:=x);induction hx:jF x using eK with
 | false=>
  have R:=tF (q:=q) (tx:=tx) (N:=N) (O:=O) Z7 hx;rcases e:dE 0 t with _ | ⟨b,a⟩
  ·have on:=l9 (q:=q) e;rw [nJ e] at Ta;refine ⟨dP 0,h,wu,?_,R,λZ Z=>⟨e,kE e⟩,Ta,ok.mono (bG (aB _ _) 1),aA _,?_,?_⟩
   ·show ai (m+8) 37 [.glob 10,ptr q 0 t,.int 0,.df [bE (0,x)]] _=_;rw [cY e];exact E8 XH (abG hx)
   ·show h.ku+(dS q 0 t:Nat)=_; rw [uc,on]; rfl
   ·show wu+(dS q 0 t:Nat)=_; rw [uc,on]; rfl
  ·have on:=jW (q:=q) e;rw [nI e] at Ta;have mm:(a,bC q 0,j3 q 0 t)∈h.H:=Ta.symm.subset aq;have Nt:iw h (k+1):=ok.mono (bG (aB _ _) 1);obtain ⟨o2,p2⟩:=Nt.drop tx mm;have d:=yt (m:=m+2) (E:=E) (wu:=wu) (tx:=tx) Nt jq e mm;refine ⟨dP 0,h.drop tx a (bC q 0),wu-bC q 0,?_,R,λZ hc=> ?_,(List.perm_cons _).mp (p2.symm.trans Ta),o2,aA _,?_,?_⟩
   ·show ai (m+8) 37 [.glob 10,ptr q 0 t,.int 0,.df [bE (0,x)]] _=_;rw [bK e] at d ⊢;exact E8 XH (P1 hx d)
   ·have hr:=(A.s _).mp (mQ (q:=q) (num:=num) e);exact absurd ⟨x,Z7,.inr ⟨_,_,hr.1,rfl,rfl,rfl⟩⟩ (hc num rF)
   ·show h.ku-bC q 0+(dS q 0 t:Nat)=h.ku+(0:Nat); rw [uc,on]; lia
   ·show wu-bC q 0+(dS q 0 t:Nat)=wu+(0:Nat); rw [uc,on]; lia
 | true=>
  injection Vu (m:=m+2) (l:=0) (f:=1) (wu:=wu) (k:=k) (ok.mono (show k+12<=k+wk 0+1 from da _)) jq (q2 hq) hE hx hx4 Ta with a' h' jy c1 c2 c3 c4 c5 c6 c7 c8;refine ⟨lf tx a' x,h',jy,E8 XH c1,Gi Z7 A.w A.s hx hx4 ig (kY c2 A.hN),λZ hc=>absurd ⟨x,Z7,.inl hx⟩ (hc num rF),c3,c4,c5,?_,?_⟩
  ·show h'.ku+(dS q 0 t:Nat)=h.ku+(1:Nat); rw [uc,c7]; rfl
  ·show jy+(dS q 0 t:Nat)=wu+(1:Nat); rw [uc,c8]; rfl
end
theorem Bs{q:Nat}:dE l t=none->dS q l t=0:=vh (M:=λl t=>dE l t=none->dS q l t=0) (λl Z=>nP q l) (λZ Z Z e=>nn e.symm) (λZ Z Z Z e=>nn e.symm) l t
theorem DZ{q:Nat}:dE l t=none->ents q l t=[]:=vh (M:=λl t=>dE l t=none->ents q l t=[]) (λl Z=>kA q l) (λZ Z Z e=>nn e.symm) (λZ Z Z Z e=>nn e.symm) l t
theorem Ka{q:Nat}{ch:List (Tr l)}(h:∀ t∈ch,dE l t=none):(ch.map (dS q l)).sum=0:=by have:=ri (f:=dS q l) (c:=0) (l:=ch) λt ht=>bW (Bs (h t ht));exact Nat.le_zero.mp this
section
variable{q M num:Nat}{O:List gj}{t':Tr (l+1)}{ch:List (Tr l)}(hlen:ch.length=q)(H:∀ i,i<q->tR q tx N O g l (num*q+i) (ch.getD i (dP l)))
include hlen H
theorem EY:∀ t∈ch,WF q tx l t:=λt ht=>by refine ag (oH (dP l) ht) λj z1=>And.elim (λhj e=> ?_) z1; rw [<-e]; exact (H j (hlen▸hj)).wf
theorem mT(hq:0<q)(ig:1<=tx)(r:C0 q tx l ch M (dE (l+1) ow) t')(WZ:∀ a' f x,place tx M (dE (l+1) ow) a'->u3 q tx N O g ⟨l+1,num,tx,a',f,x⟩):
  tR q tx N O g (l+1) num t'/\dS q (l+1) t'=own q (l+1) t'+(ch.map (dS q l)).sum:=by
 induction r with
 | no hU=>exact ⟨Gj hlen hq H hU,by rw [Ka hU]; rfl⟩
 | yes gx a' hp=>exact ⟨xm hlen hq H ⟨ig,aA _⟩ (λt ht p e=>((EY hlen H t ht).head (b:=p.1) (a:=p.2) e).2) gx (WZ _ _ _ hp),rfl⟩
end
theorem Kg{q:Nat}(hq:q=2\/q=3):small (q:Int)=true:=by rcases hq with rfl | rfl <;> rfl
theorem jB{q:Nat}(hq:q=2\/q=3)(hl:l<=4):d7 .Pow (.int q) (.int (l:Nat))=some (.int ((q ^ l:Nat):Int)):=by refine (gv (dk (dk (ak (aN l)) (ak (cG.mpr (af hl ∅)))) (Kg hq))).trans ?_;rw [Int.natCast_pow]; rfl
theorem pN{q:Nat}(hq:q=2\/q=3)(hl:l<=4):d7 .Pow (.int q) (.int (((l+1:Nat):Int)-1))=some (.int ((q ^ l:Nat):Int)):=by rw [tq]; exact jB hq hl
theorem HI{q:Nat}{ch:List (Tr l)}(o:iw h k)(p:h.H.Perm (ch.flatMap (ents q l)++F)):∀ t∈ch,∀ p,dE l t=some p->p.2<4294967296:=
 λt ht pp e=>o.MG (p.symm.subset (eW _ (g9.mpr ⟨t,ht,ou (q:=q) (b:=pp.1) (a:=pp.2) e⟩)))
abbrev tG(l n:Nat):List OC:=List.replicate n ⟨l,dP l⟩
section
variable{q:Nat}
theorem BQ:(tG l n).map (kz q)=List.replicate n V.none:=by rw [List.map_replicate]; exact av (List.replicate n) (cY (jC l))
theorem yr:(tG l n).flatMap (uJ q)=[]:=List.flatMap_eq_nil_iff.mpr λc hc=>by rw [List.eq_of_mem_replicate hc]; exact kA q l
theorem Fz:((tG l n).map (Jv q)).sum=0:=by rw [List.map_replicate,show Jv q ⟨l,dP l⟩=0 from nP q l];exact Nat.le_zero.mp (by have:=ri (f:=id) (c:=0) (l:=List.replicate n 0) λt ht=>bW (List.eq_of_mem_replicate ht); rw [List.map_id] at this; exact this)
end
theorem rZ(d:α)(n j:Nat):(List.replicate n d).getD j d=d:=by rw [cJ,List.getElem?_replicate]; split <;> rfl
theorem Vt{q:Nat}(hq:q<=3)(hl:l<=4):q ^ l<=100000:=af (jg hq hl) ∅
theorem Hn{q num:Nat}{O:List gj}(s:Sub q l (num*q+j) O []):Kid q tx O l num j ⟨l,dP l⟩:=
 ⟨aA _,λhc=>absurd hc (eM _),λhc=>absurd hc (eM _),zZ _ _ _,by rw [show aC q l _ (dP l)=[] from me ..]; exact s⟩
inductive KJ(E:WE)(q tx N:Nat)(O:List gj)(g:Nat->Option By)(m l num:Nat)(B:List (Nat×By))(rest:List OC)(h:HS)(wu:Int)(F:List En)(k:Nat)(o:V)(ow:Tr (l+1)):Prop
 | mk (ch:List (Tr l)) (h1:HS) (gY:Int) (x7 x8 x9:Option LV)
  (e:dO bT (cj (ai (m+l+8)) 37 [2]) (eQ 0 (rest.map (kz q))) ⟨wS o ((l+1:Nat):Int) (B.map bE) (rest.map (kz q)) [] (q ^ l:Nat) none none none,[],bM E h [wr q tx wu]⟩=some (.ez,⟨wS o ((l+1:Nat):Int) (B.map bE) (rest.map (kz q)) (ch.map (ptr q l)) (q ^ l:Nat) x7 x8 x9,[],bM E h1 [wr q tx gY]⟩))
  (len:ch.length=q) (H:∀ i,i<q->tR q tx N O g l (num*q+i) (ch.getD i (dP l))) (S:∀ i,i<q->wC q O g l (num*q+i) (rest.getD i ⟨l,dP l⟩) (ch.getD i (dP l)))
  (r:Sy q tx N O g l num 0 rest h wu (ox q (l+1) ow++F) (k+12) ch h1 gY) (j:OQ E (m+l+2) q tx l o ow ch h1 gY F k)
section
variable{q num:Nat}{O:List gj}{o:V}{c:OC}
 (ih:sZ E q tx N O g l) (hq:q=2\/q=3) (hE:wD E 11) (hl:l<=3) (ig:1<=tx) (gF:tx<=1000) (b:wH q g (l+1) num B)
include ih hq hE hl ig gF b
theorem pQ{rest:List OC}(hr:rest.length=q)(hk:∀ j,j<q->Kid q tx O l num j (rest.getD j ⟨l,dP l⟩))(ok:iw h (k+wk (l+1)+1))(hN:N<=h.next)(OP:th q l o ow)(p:h.H.Perm (rest.flatMap (uJ q)++(ox q (l+1) ow++F))):
  KJ E q tx N O g m l num B rest h wu F k o ow:=by
 have jq:=q3 hq;have hb:k+12+rest.length*wk l+1<=k+wk (l+1)+1:=by rw [hr,bP k]; exact cC (bf (bf (bU _ jq) 12) k)
 have z:∀ j,0+j=j:=bF;induction DE (m:=m) (o:=o) (ps:=rest.map (kz q)) (k:=k+12) ih (ax ∅ (q2 hq)) jq (Vt jq (bz hl)) b rest (n:=0) (acc:=[]) (wu:=wu) (x7:=none) (x8:=none) (x9:=none) (by rw [z,hr]) rfl
  (λj hj=>by rw [z]; exact hk j (hr▸hj)) (ok.mono hb) hN p with | mk ch h1 gY x7 x8 x9 e1 r1=>
 have rr:=r1.r;rw [hr] at rr;have H:∀ i,i<q->tR q tx N O g l (num*q+i) (ch.getD i (dP l)):=λi hi=>by have:=(rr i hi).1; rw [z] at this; exact this
 have S:∀ i,i<q->wC q O g l (num*q+i) (rest.getD i ⟨l,dP l⟩) (ch.getD i (dP l)):=λi hi=>by have:=(rr i hi).2; rw [z] at this; exact this
 exact ⟨ch,h1,gY,x7,x8,x9,e1,r1.len.trans hr,H,S,r1,B6 (r1.ok.mono (da _)) hq hl gF hE (r1.len.trans hr) (EY (r1.len.trans hr) H) (HI r1.ok r1.p) OP (r1.p.trans (kq _ _ _))⟩
theorem Qt:(((l+1:Nat):Int)==0)=false:=sR λe=>(Nat.noConfusion ((cx e)))
theorem C6(A:A4 q tx N O (l+1) num c h F k)(he:dE c.l c.t=none):MH E q tx N O g m (l+1) num c B h wu F k:=by
 have s:=A.s;rw [iD he] at s;have sn:Jv q c=0:=Bs he;have p:=A.p;rw [show uJ q c=[] from DZ he] at p;have jq:=q3 hq;have yi:ai (m+l+8) 36 [.glob 10,.none,.int ((l+1:Nat):Int)] (bM E h [wr q tx wu])=some (.lst ((tG l q).map (kz q)),bM E h [wr q tx wu]):=by have:=aa8 (m:=m+l+7) (E:=E) (h:=h) (l':=((l+1:Nat):Int)) (tx:=tx) (wu:=wu) (Gk hq) (by rcases hq with rfl | rfl <;> rfl);rw [BQ];rcases hq with rfl | rfl <;> exact this
 injection pQ (m:=m) (wu:=wu) (F:=F) (o:=.none) (ow:=dP (l+1)) (rest:=tG l q) ih hq hE hl ig gF b fM (λj hj=>by rw [rZ]; exact Hn (wX s hj)) A.ok A.hN (th.same (dP (l+1))) (by rw [yr]; exact p)with ch h1 gY x7 x8 x9 e1 len H S r1 j;injection j with t' h2 va e2 jr p2 o2 n2 u2 v2;refine And.elim (λR z=> ?_) (mT len H (ax ∅ (q2 hq)) ig jr λa' f x hp=>kW (t:=dP (l+1)) trivial s (kY hp (af A.hN r1.n)) λhc=>absurd rfl hc);have u1:=r1.u;have v1:=r1.v;have on:own q (l+1) (dP (l+1))=0:=rfl;rw [Fz] at u1 v1;rw [on] at u2 v2;refine ⟨t',h2,va,?_,R,λhc tM=> ?_,p2,o2,af r1.n n2,by rw [sn,z]; lia,by rw [sn,z]; lia⟩
 ·rw [show kz q c=_ from cY he];exact E7 (Qt ih hq hE hl ig gF b) (pN hq (bz hl)) yi e1 e2
 ·have hU:∀ t∈ch,dE l t=none:=λt ht=>by
   refine ag (oH (dP l) ht) λj z1=>And.elim (λhj e=> ?_) z1;have:=S j (len▸hj);rw [rZ,e] at this;rw [<-(this rfl λn hn=>tM n (kG (len▸hj) hn)).1]; exact jC l
  induction jr with
  | no _=>rw [he,kE he]; exact ⟨(jC (l+1)).symm,(xy (l+1)).symm⟩
  | yes gx a' hp=>exact absurd hU λhU=>gx.elim λt ht=>ht.2 (hU t ht.1)
end
section
variable{q:Nat}{O:List gj}{c:OC}
 (ih:sZ E q tx N O g l) (hq:q=2\/q=3) (hE:wD E 11) (hl:l<=3) (ig:1<=tx) (gF:tx<=1000) (b:wH q g (l+1) 0 B)
include ih hq hE hl ig gF b
theorem C4(A:A4 q tx N O (l+1) 0 c h F k)(hc:c.l<=l){b' a':Nat}(he:dE c.l c.t=some (b',a')):MH E q tx N O g m (l+1) 0 c B h wu F k:=by
 have q0:0<q:=ax ∅ (q2 hq);have pn:kz q c=PV (key a' (bC q c.l)) (jz q c.l) c.l b' (dH c.l c.t):=bK he;have ne:((c.l:Int)==((l+1:Nat):Int))=false:=sR λe=>absurd (cx e) (aL (fk hc));have yi:ai (m+l+8) 36 [.glob 10,kz q c,.int ((l+1:Nat):Int)] (bM E h [wr q tx wu])=some (.lst ((c::tG l (q-1)).map (kz q)),bM E h [wr q tx wu]):=by rw [bu,BQ,pn];exact aa7 (Gk hq) (by rcases hq with rfl | rfl <;> rfl) ne
 have hlen:(c::tG l (q-1)).length=q:=by rw [bZ,fM]; exact Nat.succ_pred_eq_of_pos q0
 have zz:∀ j,0*q+j=j:=λj=>by rw [Nat.zero_mul,bF]
 induction pQ (m:=m) (wu:=wu) (F:=F) (o:=kz q c) (ow:=dP (l+1)) (rest:=c::tG l (q-1)) ih hq hE hl ig gF b hlen (λj hj=>by
  rcases j with _ | j
  ·exact ⟨hc,λZ=>zz 0,(λZ=>by rw [show(c::tG l (q-1)).getD 0 ⟨l,dP l⟩=c from rfl,he]; exact λe=>nn e.symm),A.w,by rw [zz]; exact Bv A.w hc A.s q0⟩
  ·rw [show(c::tG l (q-1)).getD (j+1) ⟨l,dP l⟩=⟨l,dP l⟩from rZ _ _ _];exact Hn (by rw [zz]; exact Py A.w hc A.s hj (Nat.succ_ne_zero j))) A.ok A.hN (th.other c.l c.t hc) (by rw [cO,yr,bS]; exact A.p)with | mk ch h1 gY x7 x8 x9 e1 len H S r1 j=>
 injection j with t' h2 va e2 jr p2 o2 n2 u2 v2;obtain ⟨R,z⟩:=mT len H q0 ig jr λa' f x hp=>BD (λo ho h1=>by
  have:=(fv c.l A.w o ((A.s o).mpr ⟨ho,bW h1.1,by rw [h1.1,h1.2,Nat.sub_self,Nat.pow_zero,Nat.div_one]⟩)).1;rw [h1.1] at this;exact absurd (af this hc) (Nat.not_succ_le_self l)) (af (af A.hN r1.n) hp)
 have u1:=r1.u;have v1:=r1.v;have on:own q (l+1) (dP (l+1))=0:=rfl;rw [bu,cP,Fz] at u1 v1;rw [on] at u2 v2;refine ⟨t',h2,va,?_,R,λh=>absurd h (aL (fk hc)),p2,o2,af r1.n n2,by rw [z]; lia,by rw [z]; lia⟩;rw [pn] at yi e1 e2 ⊢;exact O9 (Qt ih hq hE hl ig gF b) (pN hq (bz hl)) ne yi e1 e2
end
theorem sg(f:α->β)(d:α){l:List α}:∀ {l':List α} {q:Nat},l.length=q->l'.length=q->(∀ i,i<q->f (l.getD i d)=f (l'.getD i d))->l.map f=l'.map f:=by
 induction l with
 | nil=>exact λ{l' q} h1 h2 Z=>by rw [gB.mp (h2.trans h1.symm)]
 | cons x r ih=>
  intro l' q h1 h2 h;rcases l' with _ | ⟨y,r'⟩
  ·exact (Nat.noConfusion (h1.trans h2.symm))
  ·subst h1;rw [bu,bu,ih rfl (Nat.succ.inj h2) λi hi=>h (i+1) (dY hi),show f x=f y from h 0 (cN _)]
theorem Bg(f:α->α->Bool)(d:α){l:List α}:∀ {l':List α} {q:Nat},l.length=q->l'.length=q->(((l.zip l').all λp=>f p.1 p.2)=true<->∀ i,i<q->f (l.getD i d) (l'.getD i d)=true):=by
 induction l with
 | nil=>intro l' q h1 h2;subst h1;exact ⟨λZ i hi=>absurd hi (fy _),λZ=>rfl⟩
 | cons x r ih=>
  intro l' q h1 h2;rcases l' with _ | ⟨y,r'⟩
  ·exact (Nat.noConfusion (h1.trans h2.symm))
  ·subst h1;rw [List.zip_cons_cons,List.all_cons,fZ,ih rfl (Nat.succ.inj h2)];refine ⟨λh3 i hi=> ?_,λh3=>⟨h3 0 (cN _),λi hi=>h3 (i+1) (dY hi)⟩⟩;rcases i with _ | i
   ·exact h3.1
   ·exact h3.2 i (fq hi)
structure Y4(q tx N:Nat)(O:List gj)(g:Nat->Option By)(l num b a:Nat)(iY ch:List (Tr l)):Prop where
 p:ptr q (l+1) (nd b a ch)=ptr q (l+1) (nd b a iY)
 r:tR q tx N O g (l+1) num (nd b a ch)
 f:dH (l+1) (nd b a iY)=dH (l+1) (nd b a ch)
 x:ch.flatMap (qm q l)=iY.flatMap (qm q l)
theorem xi {q num b:Nat} {O:List gj} {iY ch:List (Tr l)} (w:WF q tx (l+1) (nd b a iY)) (hq:0<q) (s:Sub q (l+1) num O (aC q (l+1) num (nd b a iY))) (l1:ch.length=q)
  (H:∀ i,i<q->tR q tx N O g l (num*q+i) (ch.getD i (dP l))) (hU:∀ i,i<q->jk l (iY.getD i (dP l)) (ch.getD i (dP l))=true):Y4 q tx N O g l num b a iY ch:=by
 have hlen:iY.length=q:=w.2.2.1;have hc:=w.2.2.2.1;have hpb:=sg (qm q l) (dP l) hlen l1 λi hi=>FZ (hU i hi);have JB:=sg (dH l) (dP l) hlen l1 λi hi=>(qM (hU i hi)).2;have hhd:=sg (dE l) (dP l) hlen l1 λi hi=>(qM (hU i hi)).1;have hr:=((s _).mp (mQ (q:=q) (l:=l+1) (num:=num) (t:=nd b a iY) rfl)).1;refine ⟨?_,xm l1 hq H ⟨w.1,w.2.1⟩ (λt ht pp e=> ?_) ?_ (.inl ⟨_,hr,rfl,rfl,λZ=>⟨rfl,rfl⟩,λht=> ?_⟩),av List.sum JB,by rw [List.flatMap_def,List.flatMap_def,hpb]⟩
 ·show KC _ _ _ ((ch.map (dH l)).sum:Nat) _=KC _ _ _ ((iY.map (dH l)).sum:Nat) _;rw [JB];exact Eq.refl (KC _ _ _ _ (some (b,a)))
 ·refine ag (ba.mp (show dE l t∈iY.map (dE l)by rw [hhd]; exact ba.mpr ⟨t,ht,rfl⟩)) λt0 z1=>And.elim (λh0 e0=> ?_) z1;exact (hc t0 h0).2 pp (e0.trans e)
 ·refine ag (w.2.2.2.2) λt0 z1=>And.elim (λh0 hn=> ?_) z1;refine ag (ba.mp (show dE l t0∈ch.map (dE l)by rw [<-hhd]; exact ba.mpr ⟨t0,h0,rfl⟩)) λt z1=>And.elim (λht e=> ?_) z1;exact ⟨t,ht,by rw [e]; exact hn⟩
 ·have hb:=Kl w s H hU hq ht;exact ⟨hb,λZ=>rfl,λh=>absurd hb h⟩
section
abbrev Qe(ch:List (Tr l)):List OC:=ch.map λt=>⟨l,t⟩
section
variable{q:Nat}{ch:List (Tr l)}
theorem Fy:((Qe ch).map (Jv q)).sum=(ch.map (dS q l)).sum:=by rw [aU]; rfl
theorem LY:(Qe ch).flatMap (uJ q)=ch.flatMap (ents q l):=by rw [List.flatMap_map]
theorem KA:(Qe ch).map (kz q)=ch.map (ptr q l):=by rw [aU]; rfl
theorem sf(f:α->β)(d:α)(l:List α)(j:Nat):(l.map f).getD j (f d)=f (l.getD j d):=by rw [cJ,cJ,bB]; rcases l[j]? with _ | _ <;> rfl
end
variable{q num:Nat}{O:List gj}
section
variable(hq:q=2\/q=3)(hE:wD E 11)(hl:l<=3)(gF:tx<=1000)
include hq hE hl gF
theorem Hl{b:Nat}{ch:List (Tr l)}(w:WF q tx (l+1) (nd b a ch))(ok:iw h k)(p:h.H.Perm (ents q (l+1) (nd b a ch)++F)):
  ai (m+4) 42 [.glob 1,ptr q (l+1) (nd b a ch)] (bM E h [wr q tx wu])=some (.bytes (ch.flatMap (qm q l)),bM E h [wr q tx wu])/\ai (m+4) 55 [.bytes (ch.flatMap (qm q l))] (bM E h [wr q tx wu])=some (.lst (ch.map (ptr q l)),bM E h [wr q tx wu]):=by
 have mm:(a,bC q (l+1),j3 q (l+1) (nd b a ch))∈h.H:=p.symm.subset aq;refine ⟨BF ok w rfl mm,O6 (by rw [w.2.2.1]; exact hq) (kZ q l) λt ht=>O7 (w.2.2.2.1 t ht).1 (q3 hq) (bz hl) gF (λpp e=> ?_) (jJ hE (nB ..) h)⟩;exact ok.MG (p.symm.subset (eW _ (aw _ (g9.mpr ⟨t,ht,ou (q:=q) (b:=pp.1) (a:=pp.2) e⟩))))
variable(ih:sZ E q tx N O g l)(ig:1<=tx)(bb:wH q g (l+1) num B)
include ih ig bb
theorem C5{b:Nat}{iY:List (Tr l)}(A:A4 q tx N O (l+1) num ⟨l+1,nd b a iY⟩ h F k):MH E q tx N O g m (l+1) num ⟨l+1,nd b a iY⟩ B h wu F k:=by
 have q0:0<q:=ax ∅ (q2 hq);have w:WF q tx (l+1) (nd b a iY):=A.w;have s:Sub q (l+1) num O (aC q (l+1) num (nd b a iY)):=A.s;have hlen:iY.length=q:=w.2.2.1;have e':dE (l+1) (nd b a iY)=some (b,a):=rfl;have p:h.H.Perm (ents q (l+1) (nd b a iY)++F):=A.p;refine And.elim (λtj Jx=> ?_) (Hl (m:=m+l+3) (wu:=wu) hq hE hl gF w A.ok p);have yi:ai (m+l+8) 36 [.glob 10,ptr q (l+1) (nd b a iY),.int ((l+1:Nat):Int)] (bM E h [wr q tx wu])=some (.lst (iY.map (ptr q l)),bM E h [wr q tx wu]):=by rw [bK e'] at tj ⊢;exact aa6 tj Jx
 induction pQ (m:=m) (wu:=wu) (F:=F) (o:=ptr q (l+1) (nd b a iY)) (ow:=nd b a iY) (rest:=Qe iY) ih hq hE hl ig gF bb (by rw [ao,hlen]) (λj hj=>by
  rw [sf];exact ⟨aA _,λhc=>absurd hc (eM _),λhc=>absurd hc (eM _),(w.2.2.2.1 _ (ee _ (hlen▸hj))).1,mO w s hj⟩) A.ok A.hN (th.same _) (by rw [LY]; exact p.trans List.perm_middle.symm)with | mk ch h1 gY x7 x8 x9 e1 len H S r1 j=>
 have u1:=r1.u;have v1:=r1.v;rw [Fy] at u1 v1;rw [KA] at e1;have SI:∀ i,i<q->(∀ n,n / q ^ l=num*q+i->¬ chg O g n)->jk l (iY.getD i (dP l)) (ch.getD i (dP l))=true:=λi hi tM=>by
  have:=S i hi;rw [sf] at this;have:=this rfl tM;exact BC this.1 (.inr this.2)
 have yh:=Ug (m:=m+l+5) (W:=bM E h1 [wr q tx gY]) (q:=q) (l:=l) (c:=iY) (c':=ch) (by rw [hlen]; exact hq) (by rw [len,hlen]);have hz:=Bg (jk l) (dP l) hlen len;have l0:=Qt ih hq hE hl ig gF bb;have pw:=pN hq (bz hl);have uc:∀ c:List (Tr l),dS q (l+1) (nd b a c)=bC q (l+1)+(c.map (dS q l)).sum:=λZ=>rfl;induction ha:(iY.zip ch).all λp=>jk l p.1 p.2 using eK with
 | false=>
  have QQ:¬ ∀ n,n / q ^ (l+1)=num->¬ chg O g n:=λtM=>by
   rw [hz.mpr λi hi=>SI i hi λn hn=>tM n (kG hi hn)] at ha; exact (Bool.noConfusion ha)
  have ht:EG q O g (l+1) num:=Classical.byContradiction λhc=>QQ λn hn hg=>hc ⟨n,hg,hn⟩;injection j with t' h2 va e2 jr p2 o2 n2 u2 v2;refine And.elim (λR z=> ?_) (mT len H q0 ig jr λa' f x hp=>kW w s (kY hp (af A.hN r1.n)) λZ=>ht);have on:own q (l+1) (nd b a iY)=bC q (l+1):=rfl;rw [on] at u2 v2;refine ⟨t',h2,va,?_,R,λZ tM=>absurd tM QQ,p2,o2,af r1.n n2,by rw [z]; show _+((dS q (l+1) (nd b a iY):Nat):Int)=_; rw [uc]; lia,by rw [z]; show _+((dS q (l+1) (nd b a iY):Nat):Int)=_; rw [uc]; lia⟩;rw [ha] at yh;show ai _ _ [_,ptr q (l+1) (nd b a iY),_,_] _=_;rw [bK e'] at yi e1 e2 ⊢;exact JZ l0 pw yi e1 yh e2
 | true=>
  have se:=xi w q0 s len H (hz.mp ha);refine ⟨nd b a ch,h1,gY,?_,se.r,λZ Z=>⟨rfl,se.f⟩,?_,r1.ok.mono (bG (aB _ _) 1),r1.n,?_,?_⟩
  ·rw [ha] at yh;rw [se.p];show ai _ _ [_,ptr q (l+1) (nd b a iY),_,_] _=_;rw [bK e'] at yi e1 ⊢;exact E6 l0 pw yi e1 yh
  ·show h1.H.Perm ((a,bC q (l+1),ch.flatMap (qm q l))::ch.flatMap (ents q l)++F);rw [se.x]; exact r1.p.trans List.perm_middle
  ·show h1.ku+((dS q (l+1) (nd b a iY):Nat):Int)=_;rw [uc,uc]; lia
  ·show gY+((dS q (l+1) (nd b a iY):Nat):Int)=_;rw [uc,uc]; lia
end
theorem written(hq:q=2\/q=3)(hE:wD E 11)(ig:1<=tx)(gF:tx<=1000)(l:Nat):l<=4->sZ E q tx N O g l:=by
 induction l with
 | zero=>exact λZ=>EV hq hE ig
 | succ l ih=>
  intro hl c num B m h wu F k A b gx;have hl:=dN hl;have ih:=@ih (bz hl);rcases e:dE c.l c.t with _ | ⟨b',a'⟩
  ·exact C6 ih hq hE hl ig gF b A e
  ·by_cases jt:c.l<=l
   ·obtain rfl:=A.z (fk jt);exact C4 ih hq hE hl ig gF b A jt e
   ·obtain ⟨l0,t⟩:=c;obtain rfl:l0=l+1:=fz A.le (Nat.lt_of_not_le jt);rcases (t:Option _)with _ | ⟨b1,a1,iY⟩
    ·exact nn e
    ·exact C5 hq hE hl gF ih ig b A
end
def nS(l:Nat)(t:Tr (l+1)):Tr l:=match(t:Option (Nat×Nat×List (Tr l)))with
 | none=>dP l
 | some p=>p.2.2.getD 0 (dP l)
section
variable{h1:HS}{W1 W2:List aV}{k p p0:V}{l b f q tx:Int}{x:Option LV}{B:By}
theorem UD:ai (m+1) 38 [.glob 10,.none] W=some (.none,W):=au (aZ ..) [] ⋯
theorem He(Q9:ai m 33 [.glob 10,v] (bM E h [wr q tx wu])=some (.none,W1)):
  cj (ai m) 38 [2] v ⟨[~~~(.glob 10),~~~p,~~~p0,x],[],bM E h [wr q tx wu]⟩=some (.ez,⟨[~~~(.glob 10),~~~p,~~~p0,~~~v],[],W1⟩):=by
 exact au (fH ..) [fC 0 Q9] ⋯
theorem abk:lR W (.lst (p0::ps)) (.int 0)=some p0:=by show(bif true&&decide ((0:Int)<((p0::ps).length:Nat))then some 0 else none).bind (λj=>(p0::ps)[j]?)=_;have z:(0:Int)<((p0::ps).length:Nat):=cz.mpr (cN ps.length);rw [ak z]; rfl
theorem abp:pI (.lst (p0::ps)) (.int 1) .none=some (.lst ps):=by show some (V.lst (((p0::ps).drop (clipAt (p0::ps).length ((1:Nat):Int))).take ((p0::ps).length-clipAt (p0::ps).length ((1:Nat):Int))))=_;rw [clipAt_nat,Nat.min_eq_left (show 1<=(p0::ps).length from cC (bw _))];show some (V.lst (ps.take ps.length))=_;rw [List.take_length]
theorem w38 (Aw:ai m 42 [.glob 1,PV k s l b f] (bM E h [wr q tx wu])=some (.bytes B,bM E h [wr q tx wu])) (HU:ai m 55 [.bytes B] (bM E h [wr q tx wu])=some (.lst (p0::ps),bM E h [wr q tx wu]))
  (hl:dO bT (cj (ai m) 38 [2]) ps ⟨[~~~(.glob 10),~~~(PV k s l b f),~~~(.lst (p0::ps)),none],[],bM E h [wr q tx wu]⟩=some (.ez,⟨[~~~(.glob 10),~~~(PV k s l b f),~~~(.lst (p0::ps)),x],[],bM E h1 [wr q tx gY]⟩))
  (Cm:ai m 32 [.glob 10,PV k s l b f] (bM E h1 [wr q tx gY])=some (.none,W2)):ai (m+1) 38 [.glob 10,PV k s l b f] (bM E h [wr q tx wu])=some (p0,W2):=by
 exact au (aZ ..) [fC 2 Aw,fC 0 HU,fV 0 (abp (p0:=p0) (ps:=ps)),fO 1 hl,fC 0 Cm,fV 0 (abk (W:=W2) (p0:=p0) (ps:=ps))] ⋯
end
inductive LL(E:WE)(q tx:Nat){l:Nat}(P cs:V)(ch rest:List (Tr l))(h:HS)(wu:Int)(k:Nat)(R:List En):St->Prop
 | mk (x:Option LV) (h1:HS) (gY:Int) (hm:∀ t∈rest,t∈ch) (p:h1.H.Perm (rest.flatMap (ents q l)++R)) (o:iw h1 (k+1)) (n:h1.next=h.next)
  (u:h1.ku+((ch.map (dS q l)).sum:Nat)=h.ku+((rest.map (dS q l)).sum:Nat)) (w:gY+((ch.map (dS q l)).sum:Nat)=wu+((rest.map (dS q l)).sum:Nat)):
   LL E q tx P cs ch rest h wu k R ⟨[~~~(.glob 10),~~~P,~~~cs,x],[],bM E h1 [wr q tx gY]⟩
inductive aeD(E:WE)(q tx m l:Nat)(t:Tr (l+1))(h:HS)(wu:Int)(F:List En)(k:Nat):Prop
 | mk (h':HS) (jy:Int) (e:ai (m+l+7) 38 [.glob 10,ptr q (l+1) t] (bM E h [wr q tx wu])=some (ptr q l (nS l t),bM E h' [wr q tx jy])) (p:h'.H.Perm (ents q l (nS l t)++F)) (o:iw h' (k+1)) (n:h'.next=h.next)
  (u:h'.ku+dS q (l+1) t=h.ku+dS q l (nS l t)) (v:jy+dS q (l+1) t=wu+dS q l (nS l t))
theorem lowered{q:Nat}{t:Tr (l+1)}(hq:q=2\/q=3)(hE:wD E 11)(ig:tx<=1000)(hl:l<=3)(w:WF q tx (l+1) t)(o:iw h (k+1))(p:h.H.Perm (ents q (l+1) t++F)):aeD E q tx m l t h wu F k:=by
 have jq:=q3 hq;rcases (t:Option _)with _ | ⟨b,a,ch⟩
 ·refine ⟨h,wu,?_,?_,o,rfl,?_,?_⟩
  ·rw [show nS l (none:Option (Nat×Nat×List (Tr l)))=dP l from rfl,cY (jC l)]; exact UD
  ·rw [show nS l (none:Option (Nat×Nat×List (Tr l)))=dP l from rfl,kA]; exact p
  ·rw [show nS l (none:Option (Nat×Nat×List (Tr l)))=dP l from rfl,nP]; rfl
  ·rw [show nS l (none:Option (Nat×Nat×List (Tr l)))=dP l from rfl,nP]; rfl
 ·have e':dE (l+1) (nd b a ch)=some (b,a):=rfl;have hlen:ch.length=q:=w.2.2.1;have hc:=w.2.2.2.1;have EL:=bz hl;obtain ⟨tj,Jx⟩:=Hl (m:=m+l+2) (wu:=wu) hq hE hl ig w o p;rcases ch with _ | ⟨c0,rs⟩
  ·rw [<-hlen] at hq; exact hq.elim (λq=>nomatch q) λq=>nomatch q
  ·have lp:=mW (f:=cj (ai (m+l+6)) 38 [2]) (ptr q l) (λrest σ=>LL E q tx (ptr q (l+1) (nd b a (c0::rs))) (.lst ((c0::rs).map (ptr q l))) rs rest h wu k ((a,bC q (l+1),j3 q (l+1) (nd b a (c0::rs)))::(ents q l c0++F)) σ)
    (λt r σ I=>by
     injection I with x h1 gY hm p1 o1 n1 u1 w1;rw [cO,cw] at p1;rw [bu,cP] at u1 w1;injection wb (tx:=tx) hq ig hE l (m:=m) (wu:=gY) EL (hc t (aw _ (hm t aq))).1 o1 p1 with h2 c2 p2 o2 n2 k2;exact ⟨_,He c2,.mk _ h2 _ (λt ht=>hm t (aw _ ht)) p2 o2 (n2.trans n1) (by rw [k2]; lia) (by lia)⟩)
    (l:=rs) (.mk none h wu (λZ ht=>ht) (p.trans (by
     show((a,bC q (l+1),j3 q (l+1) (nd b a (c0::rs)))::((c0::rs).flatMap (ents q l)++F)).Perm _;rw [cO,cw];exact ((kq _ _ _).cons _).trans List.perm_middle.symm)) o rfl rfl rfl)
   obtain ⟨σ',e1,I⟩:=lp;injection I with x h1 gY _ p1 o1 n1 u1 w1;have VE:h1.H.Perm ((a,bC q (l+1),j3 q (l+1) (nd b a (c0::rs)))::(ents q l c0++F)):=p1;have V0:=VE.symm.subset aq;have d:=yt (m:=m+l+2) (E:=E) (wu:=gY) (tx:=tx) o1 jq e' V0;obtain ⟨o2,p2⟩:=o1.drop tx V0;have s:dS q (l+1) (nd b a (c0::rs))=bC q (l+1)+(dS q l c0+(rs.map (dS q l)).sum):=rfl;have z:((([]:List (Tr l)).map (dS q l)).sum:Nat)=0:=rfl;rw [z] at u1 w1;refine ⟨h1.drop tx a (bC q (l+1)),gY-bC q (l+1),?_,(List.perm_cons _).mp (p2.symm.trans VE),o2,n1,?_,?_⟩
   ·rw [bK e'] at tj e1 d ⊢;exact w38 tj Jx e1 d
   ·show h1.ku-(bC q (l+1):Nat)+((dS q (l+1) (nd b a (c0::rs)):Nat):Int)=h.ku+((dS q l c0:Nat):Int);rw [s]; lia
   ·show gY-(bC q (l+1):Nat)+((dS q (l+1) (nd b a (c0::rs)):Nat):Int)=wu+((dS q l c0:Nat):Int);rw [s]; lia
section
abbrev tS(o:V)(l f:Int)(sp cs:Option LV):List (Option LV):=[~~~(.glob 10),~~~o,~~~(.int l),~~~(.int f),sp,cs,none]
variable{h1:HS}{W1 W2:List aV}{k o p p' r:V}{b fi l f q tx sp sp1 i x:Int}{after:List V}{B:By}{c0 c1:Option V}{cv:List (Option V)}
theorem UB:ai (m+1) 39 [.glob 10,.none,.int l,.int f] W=some (.none,W):=au (aZ ..) [] ⋯
theorem Pr(hm:d7 .Mult (.int i) (.int sp)=some (.int x))(h39:ai m 39 [.glob 10,p,.int (l-1),.int (f-x)] (bM E h [wr q tx wu])=some (p',W1)):
  cD (ai m) 39 [3] [0] (.tup [.int i,p]) ⟨tS o l f (~~~(.int sp)) (~~~(.lst cs)),[c0,c1],bM E h [wr q tx wu]⟩=some ([p'],⟨tS o l f (~~~(.int sp)) (~~~(.lst cs)),[some (.int i),some p],W1⟩):=by
 exact au (qB ..) [fV 2 hm,fC 1 h39] ⋯
section
variable(hp:d7 .Pow (.int q) (.int l)=some (.int sp))
include hp
theorem O8(h0:decide (sp<=f)=true):ai (m+1) 39 [.glob 10,PV k s l' b fi,.int l,.int f] (bM E h [wr q tx wu])=some (PV k s l' b fi,bM E h [wr q tx wu]):=au (aZ ..) [fV 3 hp,fT 1 h0] ⋯
variable(h0:decide (sp<=f)=false)
include h0
theorem UC(hf:decide (f<=0)=true)(Q9:ai m 33 [.glob 10,PV k s l' b fi] (bM E h [wr q tx wu])=some (.none,W1)):ai (m+1) 39 [.glob 10,PV k s l' b fi,.int l,.int f] (bM E h [wr q tx wu])=some (.none,W1):=au (aZ ..) [fV 3 hp,fF 1 h0,fT 2 hf,fC 0 Q9] ⋯
variable(hf:decide (f<=0)=false)(W8:d7 .Pow (.int q) (.int (l-1))=some (.int sp1))
 (Aw:ai m 42 [.glob 1,PV k s l b fi] (bM E h [wr q tx wu])=some (.bytes B,bM E h [wr q tx wu])) (HU:ai m 55 [.bytes B] (bM E h [wr q tx wu])=some (.lst ps,bM E h [wr q tx wu]))
 (hl:dj bT (cD (ai m) 39 [3] [0]) (eQ 0 ps) ⟨tS (PV k s l b fi) l f (~~~(.int sp1)) (~~~(.lst ps)),[none,none],bM E h [wr q tx wu]⟩=some (after,⟨tS (PV k s l b fi) l f (~~~(.int sp1)) (~~~(.lst ps)),cv,bM E h1 [wr q tx gY]⟩))
 (ha:jR after.length=true)
include hf W8 Aw HU hl ha
theorem E5(yh:ai m 63 [.lst ps,.lst after] (bM E h1 [wr q tx gY])=some (.bool true,bM E h1 [wr q tx gY])):ai (m+1) 39 [.glob 10,PV k s l b fi,.int l,.int f] (bM E h [wr q tx wu])=some (PV k s l b fi,bM E h1 [wr q tx gY]):=au (aZ ..) [fV 3 hp,fF 0 h0,fF 2 hf,fV 4 W8,fC 1 Aw,fC 0 HU,fL 1 hl,fT 0 ha,fC 0 yh] ⋯
theorem JY(yh:ai m 63 [.lst ps,.lst after] (bM E h1 [wr q tx gY])=some (.bool false,bM E h1 [wr q tx gY]))(Q8:ai m 35 [.glob 10,PV k s l b fi,.int l,.lst after] (bM E h1 [wr q tx gY])=some (r,W2)):
  ai (m+1) 39 [.glob 10,PV k s l b fi,.int l,.int f] (bM E h [wr q tx wu])=some (r,W2):=by
 exact au (aZ ..) [fV 3 hp,fF 0 h0,fF 2 hf,fV 4 W8,fC 1 Aw,fC 0 HU,fL 1 hl,fT 0 ha,fC 0 yh,fC 1 Q8] ⋯
end
theorem B0{q tx:Nat}(hq:0<q)(l:Nat):∀ {num:Nat} {t:Tr l},WF q tx l t->dE l t≠none->∃ n x,leaf (aC q l num t) n x/\n / q ^ l=num:=by
 induction l with
 | zero=>
  intro num t w h;rcases (t:Option _)with _ | ⟨b,a,x⟩
  ·exact absurd rfl h
  ·exact ⟨num,x,⟨_,ay.mpr rfl,rfl,rfl,rfl⟩,rF⟩
 | succ l ih=>
  intro num t w h;rcases (t:Option _)with _ | ⟨b,a,ch⟩
  ·exact absurd rfl h
  ·refine ag (w.2.2.2.2) λt z1=>And.elim (λht hn=> ?_) z1;refine ag (oH (dP l) ht) λj z1=>And.elim (λhj e=> ?_) z1;have QU:j<q:=w.2.2.1▸hj;obtain ⟨n,x,⟨r,h1,h2⟩,h3⟩:=ih (num:=num*q+j) (w.2.2.2.1 t ht).1 hn;exact ⟨n,x,⟨r,aw _ ((dU (dP l)).mpr ⟨j,hj,by rw [e]; exact h1⟩),h2⟩,kG QU h3⟩
end
section
def Be(q:Nat)(g:Nat->Option By)(l num:Nat)(f:Int):Prop:=∀ rel:Nat,rel<q ^ l->g (num*q ^ l+rel)=bif decide (f<=(rel:Int))then some [] else none
inductive OG(E:WE)(q tx N:Nat)(O:List gj)(g:Nat->Option By)(m l num:Nat)(t:Tr l)(f:Int)(h:HS)(wu:Int)(F:List En)(k:Nat):Prop
 | mk (t':Tr l) (h':HS) (jy:Int) (e:ai (m+l+8) 39 [.glob 10,ptr q l t,.int l,.int f] (bM E h [wr q tx wu])=some (ptr q l t',bM E h' [wr q tx jy])) (r:Jf q tx N O g l num ⟨l,t⟩ h wu F k t' h' jy)
def OI(E:WE)(q tx N:Nat)(O:List gj)(g:Nat->Option By)(l:Nat):Prop:=
 ∀ {t:Tr l} {num:Nat} {f:Int} {m:Nat} {h:HS} {wu:Int} {F:List En} {k:Nat},A4 q tx N O l num ⟨l,t⟩ h F k->Be q g l num f->OG E q tx N O g m l num t f h wu F k
variable{q num:Nat}{O:List gj}{f:Int}{o:V}
theorem Ed(hn:n<q)(c:Be q g (l+1) num f):Be q g l (num*q+n) (f-((n*q ^ l:Nat):Int)):=λrel hr=>by
 have h1:n*q ^ l+rel<q ^ (l+1):=by rw [f7,fj (q ^ l) q];exact ax (Nat.add_lt_add_left hr _) (by rw [<-iN]; exact bU _ hn)
 rw [show(num*q+n)*q ^ l+rel=num*q ^ (l+1)+(n*q ^ l+rel)by rw [f7,Nat.add_mul,Nat.mul_assoc,fj q (q ^ l),bP],c _ h1];rw [show decide (f<=((n*q ^ l+rel:Nat):Int))=decide (f-((n*q ^ l:Nat):Int)<=(rel:Int))from decide_eq_decide.mpr (by lia)]
theorem Qk{a b:Int}(ha:small a=true)(hb:small b=true):d7 .Mult (.int a) (.int b)=some (.int (a*b)):=by show iv (small a&&small b) (V.int (a*b))=_;rw [ha,hb]; rfl
theorem j6{b:Nat}(ha:a<=1000000)(hb:b<=1000000):d7 .Mult (.int (a:Nat)) (.int (b:Nat))=some (.int ((a*b:Nat):Int)):=by rw [Qk (vm (aN a) (cG.mpr ha)) (vm (aN b) (cG.mpr hb)),Int.natCast_mul]
theorem rN{f:V->St->Option (List V×St)}{r:List V}{km ES:St}{a b:List V}(h:f v σ=some (a,km))(h2:dj bT f r km=some (b,ES)):dj bT f (v::r) σ=some (a++b,ES):=by show(f v σ).bind _=_;rw [h];show(dj bT f r km).bind _=_;rw [h2]; rfl
inductive TL(E:WE)(q tx N:Nat)(O:List gj)(g:Nat->Option By)(m l num n:Nat)(f:Int)(rest:List (Tr l))(h:HS)(wu:Int)(R:List En)(k:Nat)(o:V)(cs:List V)(c0 c1:Option V):Prop
 | mk (new:List (Tr l)) (h':HS) (jy:Int) (cv:List (Option V))
  (e:dj bT (cD (ai (m+l+8)) 39 [3] [0]) (eQ n (rest.map (ptr q l))) ⟨tS o ((l+1:Nat):Int) f (~~~(.int (q ^ l:Nat))) (~~~(.lst cs)),[c0,c1],bM E h [wr q tx wu]⟩=
   some (new.map (ptr q l),⟨tS o ((l+1:Nat):Int) f (~~~(.int (q ^ l:Nat))) (~~~(.lst cs)),cv,bM E h' [wr q tx jy]⟩))
  (r:Sy q tx N O g l num n (Qe rest) h wu R k new h' jy)
theorem Dd(ih:OI E q tx N O g l)(jq:q<=3)(hl:l<=3)(c:Be q g (l+1) num f)(rest:List (Tr l)):∀ {n:Nat} {h:HS} {wu:Int} {R:List En} {c0 c1:Option V},
  n+rest.length=q->(∀ j,j<rest.length->WF q tx l (rest.getD j (dP l))/\Sub q l (num*q+(n+j)) O (aC q l (num*q+(n+j)) (rest.getD j (dP l))))->
   iw h (k+rest.length*wk l+1)->N<=h.next->h.H.Perm (rest.flatMap (ents q l)++R)->TL E q tx N O g m l num n f rest h wu R k o cs c0 c1:=by
 induction rest with
 | nil=>exact λ{n h wu R c0 c1} Z Z ok Z p=>⟨[],h,wu,[c0,c1],rfl,rfl,λj hj=>absurd hj (fy _),p,ok.mono (bG (aB _ _) 1),aA _,rfl,rfl⟩
 | cons t r ihr=>
  intro n h wu R c0 c1 hn hk ok hN p;have k0:WF q tx l t/\Sub q l (num*q+n) O (aC q l (num*q+n) t):=hk 0 (cN _);rw [cO,cw] at p;rw [bZ] at hn ok;have Xe:n<q:=by lia
  rw [iN,show k+(r.length*wk l+wk l)+1=k+r.length*wk l+wk l+1 by lia] at ok;injection ih (m:=m) (wu:=wu) ⟨aA _,λhc=>absurd hc (eM _),k0.1,k0.2,ok,hN,p⟩ (Ed Xe c)with t' h1 gY e1 r1;have e0:∀ j,n+1+j=n+(j+1):=λj=>by rw [bP,dy 1]
  induction ihr (n:=n+1) (h:=h1) (wu:=gY) (R:=ents q l t'++R) (c0:=some (.int n)) (c1:=some (ptr q l t)) (by rw [<-hn,bP,dy 1])
   (λj hj=>by rw [e0]; exact hk (j+1) (dY hj)) r1.ok (af hN r1.n) (r1.p.trans (kq _ _ _))with | mk new h2 va cv e2 r2=>
  have w1:=Pr (o:=o) (cs:=cs) (c0:=c0) (c1:=c1) (l:=((l+1:Nat):Int)) (j6 (af (bV Xe) (af jq ∅)) (af (jg jq (bz hl)) ∅)) (by rw [tq]; exact e1);refine ⟨t'::new,h2,va,cv,?_,av (· +1) r2.len,λj hj=> ?_,?_,r2.ok,af r1.n r2.n,?_,?_⟩
  ·exact rN w1 e2
  ·rcases j with _ | j
   ·exact ⟨r1.r,r1.s⟩
   ·have:=r2.r j (fq hj);rw [e0] at this; exact this
  ·rw [cO,cw]; exact r2.p.trans (kq _ _ _)
  ·have u1:=r1.u;have u2:=r2.u;show _+(((dS q l t::(Qe r).map (Jv q)).sum:Nat):Int)=_+(((dS q l t'::new.map (dS q l)).sum:Nat):Int);rw [cP,cP]; lia
  ·have u1:=r1.v;have u2:=r2.v;show _+(((dS q l t::(Qe r).map (Jv q)).sum:Nat):Int)=_+(((dS q l t'::new.map (dS q l)).sum:Nat):Int);rw [cP,cP]; lia
theorem RS(hq:0<q)(c:Be q g l num f)(h1:((q ^ l:Nat):Int)<=f)(hn:n / q ^ l=num):¬ chg O g n:=λ⟨y,hy,hc⟩=>by
 obtain ⟨rel,h2,rfl⟩:=ky hq hn;rw [c rel h2,aT (Int.not_le.mpr (Int.lt_of_lt_of_le (cz.mpr h2) h1))] at hy; exact (mK hy)
theorem IC(hq:0<q)(c:Be q g l num f)(s:Sub q l num O (aC q l num t))(e:dE l t=none)(hn:n / q ^ l=num):¬ chg O g n:=λ⟨y,hy,hc⟩=>by
 obtain ⟨rel,h2,e2⟩:=ky hq hn;rw [e2,c rel h2] at hy;induction z:decide (f<=(rel:Int))using eK with
 | false=>rw [z] at hy; exact (mK hy)
 | true=>rw [z] at hy;obtain rfl:=ae hy;refine hc.elim (λq=>Bool.noConfusion q) λ⟨x,hx⟩=> ?_;obtain ⟨r,hr,_⟩:=(qR s hn).mpr hx;rw [iD e] at hr; exact (eX hr)
variable(hq:q=2\/q=3)(hE:wD E 11)(gF:tx<=1000)
include hq hE gF
theorem t7(hl:l<=4)(A:A4 q tx N O l num ⟨l,t⟩ h F k)(c:Be q g l num f)(he:dE l t=none\/((q ^ l:Nat):Int)<=f\/f<=0):OG E q tx N O g m l num t f h wu F k:=by
 have q0:0<q:=ax ∅ (q2 hq);have hp:=jB hq hl;have Nt:iw h (k+1):=A.ok.mono (bG (aB _ _) 1);have U0:(∀ n,n / q ^ l=num->¬ chg O g n)->Jf q tx N O g l num ⟨l,t⟩ h wu F k t h wu:=λtM=>⟨rA A.w A.s tM,λZ Z=>⟨rfl,rfl⟩,A.p,Nt,aA _,rfl,rfl⟩
 rcases e:dE l t with _ | ⟨b,a⟩
 ·exact ⟨t,h,wu,by rw [cY e]; exact UB,U0 λn hn=>IC q0 c A.s e hn⟩
 ·by_cases h1:((q ^ l:Nat):Int)<=f
  ·exact ⟨t,h,wu,by rw [bK e]; exact O8 hp (ak h1),U0 λn hn=>RS q0 c h1 hn⟩
  ·have h0:f<=0:=(he.resolve_left λhe=>nn (he.symm.trans e)).resolve_left h1;have gz:∀ {rel:Nat},rel<q ^ l->g (num*q ^ l+rel)=some []:=λ{rel} h2=>by rw [c rel h2,ak (cn h0 (aN rel))]; rfl
   have w:WF q tx l t:=A.w;injection wb (tx:=tx) hq gF hE l (m:=m+1) (wu:=wu) hl w Nt A.p with h' c1 p1 o1 n1 k1;refine ⟨dP l,h',wu-dS q l t,?_,⟨zZ _ _ _,?_,λn x hn=> ?_⟩,λZ tM=> ?_,?_,o1,bW n1.symm,?_,?_⟩
   ·rw [cY (jC l)];rw [bK e] at c1 ⊢;refine UC hp (aT h1) (ak h0) ?_;rw [show m+l+7=m+1+l+6 by lia]; exact c1
   ·rw [me]; exact λr hr=>(eX hr)
   ·obtain ⟨rel,h2,rfl⟩:=ky q0 hn;unfold vC;rw [gz h2,me];exact ⟨(λ⟨r,hr,_⟩=>(eX hr)),λhc=>(Bool.noConfusion (hc.2))⟩
   ·obtain ⟨n,x,hx,hn⟩:=B0 q0 l (num:=num) w (λq=>nn (q.symm.trans e));refine absurd ⟨[],?_,.inr ⟨x,(qR A.s hn).mp hx⟩⟩ (tM n hn);obtain ⟨rel,h2,rfl⟩:=ky q0 hn;exact gz h2
   ·rw [kA]; exact p1
   ·rw [nP,k1]; show h.ku-_+_=_; lia
   ·rw [nP]; show wu-_+_=_; lia
end
theorem J4{q:Nat}{O:List gj}(hq:q=2\/q=3)(hE:wD E 11)(ig:1<=tx)(gF:tx<=1000)(l:Nat):l<=4->OI E q tx N O g l:=by
 induction l with
 | zero=>exact λZ {t num f m h wu F k} A c=>t7 hq hE gF (bw 4) A c (.inr (by rw [Nat.pow_zero]; exact (Int.lt_or_le 0 f).imp_left id))
 | succ l ih=>
  intro hl t num f m h wu F k A c;by_cases he:dE (l+1) t=none\/((q ^ (l+1):Nat):Int)<=f\/f<=0
  ·exact t7 hq hE gF hl A c he
  ·have jt:¬ ((q ^ (l+1):Nat):Int)<=f:=λhc=>he (.inr (.inl hc));have Te:¬ f<=0:=λhc=>he (.inr (.inr hc));have q0:0<q:=ax ∅ (q2 hq);have jq:=q3 hq;have HN:=dN hl;rcases (t:Option _)with _ | ⟨b,a,iY⟩
   ·exact absurd (.inl rfl) he
   ·have w:WF q tx (l+1) (nd b a iY):=A.w;have s:Sub q (l+1) num O (aC q (l+1) num (nd b a iY)):=A.s;have hlen:iY.length=q:=w.2.2.1;have e':dE (l+1) (nd b a iY)=some (b,a):=rfl;have p:h.H.Perm (ents q (l+1) (nd b a iY)++F):=A.p;refine And.elim (λtj Jx=> ?_) (Hl (m:=m+l+4) (wu:=wu) hq hE HN gF w A.ok p);have hb:k+12+iY.length*wk l+1<=k+wk (l+1)+1:=by rw [hlen,bP k]; exact cC (bf (bf (bU _ jq) 12) k)
    induction Dd (m:=m) (k:=k+12) (o:=ptr q (l+1) (nd b a iY)) (cs:=iY.map (ptr q l)) (n:=0) (wu:=wu) (c0:=none) (c1:=none) (@ih (iO hl)) jq HN c iY (by rw [bF,hlen])
     (λj hj=>by rw [bF]; exact ⟨(w.2.2.2.1 _ (ee _ hj)).1,mO w s (hlen▸hj)⟩) (A.ok.mono hb) A.hN (p.trans List.perm_middle.symm)with | mk ch h1 gY cv e1 r1=>
    have len:ch.length=q:=r1.len.trans (by rw [ao,hlen]);have rr:=r1.r;rw [ao,hlen] at rr;have H:∀ i,i<q->tR q tx N O g l (num*q+i) (ch.getD i (dP l)):=λi hi=>by have:=(rr i hi).1; rw [bF] at this; exact this
    have SI:∀ i,i<q->(∀ n,n / q ^ l=num*q+i->¬ chg O g n)->jk l (iY.getD i (dP l)) (ch.getD i (dP l))=true:=λi hi tM=>by
     have:=(rr i hi).2;rw [bF,sf] at this;have:=this rfl tM;exact BC this.1 (.inr this.2)
    have u1:=r1.u;have v1:=r1.v;rw [Fy] at u1 v1;have yh:=Ug (m:=m+l+5) (W:=bM E h1 [wr q tx gY]) (q:=q) (l:=l) (c:=iY) (c':=ch) (by rw [hlen]; exact hq) (by rw [len,hlen]);have hz:=Bg (jk l) (dP l) hlen len;have hp:=jB hq hl;have pw:=pN hq (iO hl);have uc:∀ c:List (Tr l),dS q (l+1) (nd b a c)=bC q (l+1)+(c.map (dS q l)).sum:=λZ=>rfl;have ye:jR (ch.map (ptr q l)).length=true:=ak (by rw [ao,len]; exact af jq ∅);have d0:=aT jt;have d1:=aT Te;induction ha:(iY.zip ch).all λp=>jk l p.1 p.2 using eK with
    | false=>
     have QQ:¬ ∀ n,n / q ^ (l+1)=num->¬ chg O g n:=λtM=>by
      rw [hz.mpr λi hi=>SI i hi λn hn=>tM n (kG hi hn)] at ha; exact (Bool.noConfusion ha)
     have ht:EG q O g (l+1) num:=Classical.byContradiction λhc=>QQ λn hn hg=>hc ⟨n,hg,hn⟩;injection B6 (m:=m+l+2) (o:=ptr q (l+1) (nd b a iY)) (ow:=nd b a iY) (ch:=ch) (wu:=gY) (F:=F) (k:=k) (r1.ok.mono (da _)) hq HN gF hE len (EY len H) (HI r1.ok r1.p) (th.same _) (r1.p.trans List.perm_middle)with t' h2 va e2 jr p2 o2 n2 u2 v2;refine And.elim (λR z=> ?_) (mT len H q0 ig jr λa' f x hp=>kW w s (kY hp (af A.hN r1.n)) λZ=>ht);have on:own q (l+1) (nd b a iY)=bC q (l+1):=rfl;rw [on] at u2 v2;refine ⟨t',h2,va,?_,R,λZ tM=>absurd tM QQ,p2,o2,af r1.n n2,by rw [z]; show _+((dS q (l+1) (nd b a iY):Nat):Int)=_; rw [uc]; lia,by rw [z]; show _+((dS q (l+1) (nd b a iY):Nat):Int)=_; rw [uc]; lia⟩;rw [ha] at yh;show ai _ _ [_,ptr q (l+1) (nd b a iY),_,_] _=_;rw [bK e'] at tj e1 e2 ⊢;exact JY hp d0 d1 pw tj Jx e1 ye yh e2
    | true=>
     have se:=xi w q0 s len H (hz.mp ha);refine ⟨nd b a ch,h1,gY,?_,se.r,λZ Z=>⟨rfl,se.f⟩,?_,r1.ok.mono (bG (aB _ _) 1),r1.n,?_,?_⟩
     ·rw [ha] at yh;rw [se.p];show ai _ _ [_,ptr q (l+1) (nd b a iY),_,_] _=_;rw [bK e'] at tj e1 ⊢;exact E5 hp d0 d1 pw tj Jx e1 ye yh
     ·show h1.H.Perm ((a,bC q (l+1),ch.flatMap (qm q l))::ch.flatMap (ents q l)++F);rw [se.x]; exact r1.p.trans List.perm_middle
     ·show h1.ku+((dS q (l+1) (nd b a iY):Nat):Int)=_;rw [uc,uc]; lia
     ·show gY+((dS q (l+1) (nd b a iY):Nat):Int)=_;rw [uc,uc]; lia
def lv(q:Nat)(mo:Int):Nat:=bif decide (1<=mo)then bif decide ((q:Int)<=mo)then bif decide (((q*q:Nat):Int)<=mo)then 4 else 3 else 2 else 1
section
variable{q q2 q3:Int}
theorem Uo(h1:decide (1<=mo)=false):ai (m+1) 56 [.int mo,.int q] W=some (.int 1,W):=au (aZ ..) [fF 2 h1] ⋯
theorem Ua(p0:d7 .Pow (.int q) (.int 0)=some (.int 1))(h1:decide (1<=mo)=false):ai (m+1) 68 [.int mo,.int q] W=some (.int 1,W):=au (aZ ..) [fV 2 p0,fF 1 h1] ⋯
variable(h1:decide (1<=mo)=true)
include h1
section
variable(m1:d7 .Mult (.int 1) (.int q)=some (.int q))
include m1
theorem Un(h2:decide (q<=mo)=false):ai (m+1) 56 [.int mo,.int q] W=some (.int 2,W):=au (aZ ..) [fT 2 h1,fV 1 m1,fF 1 h2] ⋯
variable(h2:decide (q<=mo)=true)(m2:d7 .Mult (.int q) (.int q)=some (.int q2))
include h2 m2
theorem Um(h3:decide (q2<=mo)=false):ai (m+1) 56 [.int mo,.int q] W=some (.int 3,W):=au (aZ ..) [fT 2 h1,fV 1 m1,fT 1 h2,fV 1 m2,fF 1 h3] ⋯
theorem Ul(h3:decide (q2<=mo)=true)(m3:d7 .Mult (.int q2) (.int q)=some (.int q3))(h4:decide (q3<=mo)=false):ai (m+1) 56 [.int mo,.int q] W=some (.int 4,W):=au (aZ ..) [fT 2 h1,fV 1 m1,fT 1 h2,fV 1 m2,fT 1 h3,fV 1 m3,fF 1 h4] ⋯
end
variable(p0:d7 .Pow (.int q) (.int 0)=some (.int 1))(p1:d7 .Pow (.int q) (.int 1)=some (.int q))
include p0 p1
theorem T9(h2:decide (q<=mo)=false):ai (m+1) 68 [.int mo,.int q] W=some (.int 2,W):=au (aZ ..) [fV 2 p0,fT 1 h1,fV 2 p1,fF 1 h2] ⋯
variable(h2:decide (q<=mo)=true)(p2:d7 .Pow (.int q) (.int 2)=some (.int q2))
include h2 p2
theorem T8(h3:decide (q2<=mo)=false):ai (m+1) 68 [.int mo,.int q] W=some (.int 3,W):=au (aZ ..) [fV 2 p0,fT 1 h1,fV 2 p1,fT 1 h2,fV 2 p2,fF 1 h3] ⋯
theorem T7(h3:decide (q2<=mo)=true)(p3:d7 .Pow (.int q) (.int 3)=some (.int q3))(h4:decide (q3<=mo)=false):ai (m+1) 68 [.int mo,.int q] W=some (.int 4,W):=au (aZ ..) [fV 2 p0,fT 1 h1,fV 2 p1,fT 1 h2,fV 2 p2,fT 1 h3,fV 2 p3,fF 1 h4] ⋯
end
section
variable{q:Nat}(hq:q=2\/q=3)
include hq
theorem Pm(h:mo<=6):decide (((q*q*q:Nat):Int)<=mo)=false:=aT λe=>by
 have:=cn e h;rcases hq with rfl | rfl <;> exact absurd this ∅
theorem w56(h:mo<=6):ai (m+1) 56 [.int mo,.int q] W=some (.int (lv q mo),W):=by
 have ml:∀ {a:Nat},a<=9->d7 .Mult (.int (a:Nat)) (.int q)=some (.int ((a*q:Nat):Int)):=λ{a} ha=>j6 (af ha ∅) (af (q3 hq) ∅);have m1:d7 .Mult (.int 1) (.int q)=some (.int q):=(ml (a:=1) ∅).trans (by rw [Nat.one_mul]);have m2:=ml (af (q3 hq) ∅);have m3:=ml (a:=q*q) (Nat.mul_le_mul (q3 hq) (q3 hq));unfold lv;induction h1:decide (1<=mo)using eK with
 | false=>exact Uo h1
 | true=>
  induction h2:decide ((q:Int)<=mo)using eK with
  | false=>exact Un h1 m1 h2
  | true=>
   induction h3:decide (((q*q:Nat):Int)<=mo)using eK with
   | false=>exact Um h1 m1 h2 m2 h3
   | true=>exact Ul h1 m1 h2 m2 h3 m3 (Pm hq h)
theorem w68(h:mo<=6):ai (m+1) 68 [.int mo,.int q] W=some (.int (lv q mo),W):=by
 have p0:=jB (l:=0) hq ∅;have p1:=jB (l:=1) hq ∅;have p2:=jB (l:=2) hq ∅;have p3:=jB (l:=3) hq ∅;rw [Nat.pow_one] at p1;rw [Nat.pow_two] at p2;rw [f7,Nat.pow_two] at p3;unfold lv;induction h1:decide (1<=mo)using eK with
 | false=>exact Ua p0 h1
 | true=>
  induction h2:decide ((q:Int)<=mo)using eK with
  | false=>exact T9 h1 p0 p1 h2
  | true=>
   induction h3:decide (((q*q:Nat):Int)<=mo)using eK with
   | false=>exact T8 h1 p0 p1 h2 p2 h3
   | true=>exact T7 h1 p0 p1 h2 p2 h3 p3 (Pm hq h)
end
def nb(q:Nat):Int:=bif q==2 then 2048 else 177147
theorem Uk:ai (m+1) 57 [.int 2] W=some (.int 2048,W):=au (aZ ..) [] ⋯
theorem Uj:ai (m+1) 57 [.int 3] W=some (.int 177147,W):=au (aZ ..) [] ⋯
theorem w57{q:Nat}(hq:q=2\/q=3):ai (m+1) 57 [.int q] W=some (.int (nb q),W):=by
 rcases hq with rfl | rfl
 ·exact Uk
 ·exact Uj
theorem NA{q:Nat}(hq:q=2\/q=3):2000<=nb q:=by rcases hq with rfl | rfl <;> decide
theorem Af(q:Nat)(mo:Int):1<=lv q mo:=by unfold lv;induction decide (1<=mo) <;> cases decide ((q:Int)<=mo) <;> cases decide (((q*q:Nat):Int)<=mo) <;> exact bH rfl
theorem ur(q:Nat)(mo:Int):lv q mo<=4:=by unfold lv;induction decide (1<=mo) <;> cases decide ((q:Int)<=mo) <;> cases decide (((q*q:Nat):Int)<=mo) <;> exact bH rfl
section
variable{q:Nat}(hq:q=2\/q=3){a b:Int}
include hq
theorem vG(h:mo<=6):mo<((q ^ (lv q mo-1):Nat):Int):=by
 unfold lv;induction h1:decide (1<=mo)using eK with
 | false=>exact Int.not_le.mp (eU h1)
 | true=>
  induction h2:decide ((q:Int)<=mo)using eK with
  | false=>show mo<((q ^ 1:Nat):Int); rw [Nat.pow_one]; exact Int.not_le.mp (eU h2)
  | true=>
   induction h3:decide (((q*q:Nat):Int)<=mo)using eK with
   | false=>show mo<((q ^ 2:Nat):Int); rw [Nat.pow_two]; exact Int.not_le.mp (eU h3)
   | true=>show mo<((q ^ 3:Nat):Int); rw [f7,Nat.pow_two]; exact Int.not_le.mp (eU (Pm hq h))
theorem vH(h:a<=b):lv q a<=lv q b:=by
 have up:∀ {c:Int},decide (c<=a)=true->decide (c<=b)=true:=λh1=>ak (cn (fc h1) h);have lb:=ur q a;unfold lv at*;induction h1:decide (1<=a)using eK with
 | false=>exact Af q b
 | true=>
  rw [up h1];cases h2:decide ((q:Int)<=a)with
  | false=>induction decide ((q:Int)<=b) <;> cases decide (((q*q:Nat):Int)<=b) <;> exact bH rfl
  | true=>
   rw [up h2];induction h3:decide (((q*q:Nat):Int)<=a)using eK with
   | false=>induction decide (((q*q:Nat):Int)<=b) <;> exact bH rfl
   | true=>rw [up h3]; exact aA 4
end
abbrev dn(lv mo:Int)(p:V)(us:Int):aV:=.inst 2 [.int 8,.int 4,.int lv,.int mo,.bytes [],p,.int us]
abbrev iq(q:Int):V:=.inst 6 (kU (.int q))
abbrev dW(E:WE)(lv mo:Int)(p:V)(us:Int)(h:HS)(tl:List aV):List aV:=bM {E with w4:=dn lv mo p us} h tl
def TQ(k:Nat)(p:List Nat):Option (Expr×List Stmt):=(fn k).bind λf=>(FH f.body p).bind λs=>match s with
 | .While c b _ _=>some (c,b)
 | _=>none
def vc(k:Nat)(p:List Nat)(z:α)(f:Expr×List Stmt->α):α:=((TQ k p).map f).getD z
def O1(cf:CF)(k:Nat)(p:List Nat)(n:Nat)(σ:St):Option (Out×St):=vc k p none λx=>nF bT (i7 cf eN (nr k) x.1) (yo cf (nr k) (12-p.length) x.2) n σ
def O2(cf:CF)(k:Nat)(p:List Nat)(σ:St):Option (V×St):=vc k p none λx=>i7 cf eN (nr k) x.1 σ
def TV(cf:CF)(k:Nat)(p:List Nat)(σ:St):Option (Out×St):=vc k p none λx=>yo cf (nr k) (12-p.length) x.2 σ
def TR(n k:Nat)(p:List Nat)(σ:St):O (V×St):=vc k p eu.fail λx=>Og eu (ai n) eN (nr k) x.1 σ
def TU(n k:Nat)(p:List Nat)(σ:St):O (Out×St):=vc k p eu.fail λx=>Tp eu (ai n) (nr k) (12-p.length) x.2 σ
theorem abu(n k:Nat)(p:List Nat)(σ:St):bg (TR n k p σ) (O2 (ai n) k p σ):=by
 unfold TR O2 vc;rcases TQ k p with _ | x
 ·exact bg.fail
 ·exact Nl ..
theorem abv(n k:Nat)(p:List Nat)(σ:St):bg (TU n k p σ) (TV (ai n) k p σ):=by
 unfold TU TV vc;rcases TQ k p with _ | x
 ·exact bg.fail
 ·exact Vg ..
theorem aaK{p:List Nat}{km ES:St}{r:Out×St}(h1:O2 cf k p σ=some (.bool true,km))(h2:TV cf k p km=some (.ez,ES))(h3:O1 cf k p n ES=some r):O1 cf k p (n+1) σ=some r:=by
 unfold O2 TV O1 vc at*;rcases e:TQ k p with _ | x
 ·rw [e] at h1; exact (mK h1)
 ·rw [e] at h1 h2 h3;show(i7 cf eN (nr k) x.1 σ).bind _=_;rw [show i7 cf eN (nr k) x.1 σ=_ from h1];show(yo cf (nr k) (12-p.length) x.2 km).bind _=_;rw [show yo cf (nr k) (12-p.length) x.2 km=_ from h2]; exact h3
theorem aaL{p:List Nat}{km:St}(h1:O2 cf k p σ=some (.bool false,km)):O1 cf k p (n+1) σ=some (.ez,km):=by
 unfold O2 O1 vc at*;rcases e:TQ k p with _ | x
 ·rw [e] at h1; exact (mK h1)
 ·rw [e] at h1;show(i7 cf eN (nr k) x.1 σ).bind _=_;rw [show i7 cf eN (nr k) x.1 σ=_ from h1]; rfl
section
variable{h1 h2:HS}{q tx va lvl tm lv' mx n nn f ls:Int}{p p1 p' P x:V}{bs:List V}{a0 a1 a3 a4 a5 a6 a8:Option LV}{B:By}
theorem w83:ai (m+1) 83 [.glob 10,.glob 1,iq q,.int 8,dD,.int tx,.glob 5] (bM E h [.inst 3 []])=some (.none,bM E h [wr q tx 0]):=au (aZ ..) [] ⋯
theorem IT(g:lR (dW E lvl mo p us h []) (.df D) (.int n)=some (.bytes B))(g0:decide (0<=n)=true)(g1:decide (n<nn)=true)(g2:((B.length:Int)==4)=true):
  cD (ai m) 64 [1] [0,0,0] (.int n) ⟨[a0,a1,~~~(.glob 4),~~~(.df D),a4,a5,a6,~~~(.int nn),a8],[y],dW E lvl mo p us h []⟩=
   some ([.bool true],⟨[a0,a1,~~~(.glob 4),~~~(.df D),a4,a5,a6,~~~(.int nn),a8],[some (.int n)],dW E lvl mo p us h []⟩):=by
 exact au (qB ..) [fT 1 g0,fT 0 g1,fV 1 g,fT 2 g2] ⋯
theorem w64 (h57:ai m 57 [.int q] (dW E lvl mo p us h [])=some (.int nn,dW E lvl mo p us h []))
  (hc:dj bT (cD (ai m) 64 [1] [0,0,0]) (D.map (·.1)) ⟨[~~~(.glob 1),~~~(iq q),~~~(.glob 4),~~~(.df D),~~~dD,~~~(.int tx),~~~(.glob 5),~~~(.int nn),none],[none],dW E lvl mo p us h []⟩=
   some (bs,⟨[~~~(.glob 1),~~~(iq q),~~~(.glob 4),~~~(.df D),~~~dD,~~~(.int tx),~~~(.glob 5),~~~(.int nn),none],[y],dW E lvl mo p us h []⟩))
  (hb:jR bs.length=true) (ha:jN (dW E lvl mo p us h []) 3 [.lst bs]=some (.bool true)) (gx:(D.isEmpty != false)=false)
  (Cg:jN (dW E lvl mo p us h [wr q tx 0]) 5 [.lst (D.map (·.1))]=some (.int mx)) (Xh:jN (dW E lvl mo p us h [wr q tx 0]) 5 [.int mo,.int mx]=some (.int kB))
  (LH:ai m 56 [.int kB,.int q] (dW E lvl kB p us h [wr q tx 0])=some (.int tm,dW E lvl kB p us h [wr q tx 0])) (wJ:jN (dW E lvl kB p us h [wr q tx 0]) 5 [.int lvl,.int tm]=some (.int lv'))
  (XF:ai m 83 [.glob 10,.glob 1,iq q,.int 8,dD,.int tx,.glob 5] (dW E lvl mo p us h [.inst 3 []])=some (.none,dW E lvl mo p us h [wr q tx 0]))
  (XM:ai m 37 [.glob 10,p,.int (lv'-1),.df D] (dW E lv' kB p us h [wr q tx 0])=some (p',dW E lv' kB p us h1 [wr q tx wu])) (hA:(dW E lv' kB p' (us+wu) h1 []).all (nk 10)=true):
  ai (m+1) 64 [.glob 1,iq q,.glob 4,.df D,dD,.int tx,.glob 5] (dW E lvl mo p us h [])=some (.none,dW E lv' kB p' (us+wu) h1 []):=by
 exact au (aZ ..) [fC 1 h57,fL 1 hc,fT 0 hb,fV 0 ha,fF 1 gx,fC 1 XF,fV 2 Cg,fV 0 Xh,fC 4 LH,fV 0 wJ,fC 4 XM,fT 5 hA] ⋯
theorem O4(h0:decide (mo<f)=true)(hA:(dW E lvl mo p us h []).all (nk 10)=true):ai (m+1) 65 [.glob 1,iq q,.glob 4,.int f,dD,.int tx,.glob 5] (dW E lvl mo p us h [])=some (.none,dW E lvl mo p us h []):=au (aZ ..) [fT 1 h0,fT 1 hA] ⋯
abbrev cL(q f tx:Int)(w ls p:Option LV):List (Option LV):=[~~~(.glob 1),~~~(iq q),~~~(.glob 4),~~~(.int f),~~~dD,~~~(.int tx),~~~(.glob 5),w,ls,p]
abbrev Ou(q f tx ls:Int)(p:V):List (Option LV):=cL q f tx (~~~(.glob 10)) (~~~(.int ls)) (~~~p)
theorem TX{b:Bool}(h0:decide (ls<lvl)=b):O2 (ai m) 65 [3] ⟨Ou q f tx ls p,[],dW E lvl mo P us h [wr q tx wu]⟩=some (.bool b,⟨Ou q f tx ls p,[],dW E lvl mo P us h [wr q tx wu]⟩):=by subst h0;exact au (abu ..) [] ⋯
theorem aaM(h38:ai m 38 [.glob 10,p] (dW E lvl mo P us h [wr q tx wu])=some (p',dW E lvl mo P us h1 [wr q tx gY])):
  TV (ai m) 65 [3] ⟨Ou q f tx ls p,[],dW E lvl mo P us h [wr q tx wu]⟩=some (.ez,⟨Ou q f tx ls p',[],dW E (lvl-1) mo P us h1 [wr q tx gY]⟩):=by
 exact au (abv ..) [fC 0 h38] ⋯
theorem w65 (h0:decide (mo<f)=false) (XF:ai m 83 [.glob 10,.glob 1,iq q,.int 8,dD,.int tx,.glob 5] (dW E lvl mo P us h [.inst 3 []])=some (.none,dW E lvl mo P us h [wr q tx 0]))
  (LH:ai m 56 [.int (f-1),.int q] (dW E lvl mo P us h [wr q tx 0])=some (.int tm,dW E lvl mo P us h [wr q tx 0]))
  (hw:O1 (ai m) 65 [3] 64 ⟨Ou q f tx tm P,[],dW E lvl mo P us h [wr q tx 0]⟩=some (.ez,⟨Ou q f tx tm p1,[],dW E tm mo P us h1 [wr q tx gY]⟩))
  (h39:ai m 39 [.glob 10,p1,.int (tm-1),.int f] (dW E tm mo P us h1 [wr q tx gY])=some (p',dW E tm mo P us h2 [wr q tx va]))
  (Xh:jN (dW E tm mo p' us h2 [wr q tx va]) 5 [.int f,.int 0]=some (.int f)) (hA:(dW E tm (f-1) p' (us+va) h2 []).all (nk 10)=true):
  ai (m+1) 65 [.glob 1,iq q,.glob 4,.int f,dD,.int tx,.glob 5] (dW E lvl mo P us h [])=some (.none,dW E tm (f-1) p' (us+va) h2 []):=by
 exact au (aZ ..) [fF 1 h0,fC 2 XF,fC 2 LH,fO 1 hw,fC 2 h39,fV 1 Xh,fT 6 hA] ⋯
theorem w66 (Oa:ai m 49 [] (dW E lvl mo P us h [])=some (dD,dW E lvl mo P us h [])) (XF:ai m 83 [.glob 10,.glob 1,iq q,.int 8,dD,.int tx,.glob 5] (dW E lvl mo P us h [.inst 3 []])=some (.none,dW E lvl mo P us h [wr q tx 0]))
  (Q9:ai m 33 [.glob 10,P] (dW E lvl mo P us h [wr q tx 0])=some (.none,dW E lvl mo P us h1 [wr q tx wu])) (hA:(dW E 1 (-1) .none 0 h1 []).all (nk 10)=true):
  ai (m+1) 66 [.glob 1,iq q,.glob 4,.int tx,.glob 5] (dW E lvl mo P us h [])=some (.none,dW E 1 (-1) .none 0 h1 []):=by
 exact au (aZ ..) [fC 1 Oa,fC 0 XF,fC 1 Q9,fT 4 hA] ⋯
end
structure MI(E:WE):Prop where
 ok:∀ n,10<=n->wD E n
section
variable{q:Nat}{lvl:Int}
theorem J1:tv n (ptr q l t)=true:=by
 rcases e:dE l t with _ | ⟨b,a⟩
 ·rw [cY e]; rfl
 ·rw [bK e]; rfl
theorem MI.at(w:MI E)(hn:10<=n):wD {E with w4:=dn lvl mo (ptr q l t) us} n:=
 have e:=w.ok n hn
 ⟨e.w0,(show(tv n (ptr q l t)&&true)=true from dk J1 rfl),e.w6,e.w7,e.w8,e.w9⟩
theorem MI.all(w:MI E)(h:HS):(dW E lvl mo (ptr q l t) us h []).all (nk 10)=true:=jJ (tl:=[]) (w.at (aA _)) rfl h
end
def mV(a b:Int):Int:=bif decide (a<b)then b else a
theorem z0{a b:Int}(h:a<=b):mV a b=b:=by
 unfold mV;induction e:decide (a<b)using eK with
 | true=>rfl
 | false=>exact Int.le_antisymm h (Int.not_lt.mp (eU e))
theorem G2{a b:Int}(h:b<=a):mV a b=a:=by unfold mV; rw [aT (Int.not_lt.mpr h)]; rfl
theorem oG(a b:Int):a<=mV a b:=by
 unfold mV;induction e:decide (a<b)using eK with
 | true=>exact Int.le_of_lt (fc e)
 | false=>exact Int.le_refl a
theorem rJ(a b:Int):b<=mV a b:=by
 unfold mV;induction e:decide (a<b)using eK with
 | true=>exact Int.le_refl b
 | false=>exact Int.not_lt.mp (eU e)
theorem nQ{a b c:Int}(h:a<=c)(h':b<=c):mV a b<=c:=by unfold mV; induction decide (a<b) <;> assumption
structure MS(B:List (Nat×By))(mx:Nat):Prop where
 e:∀ W,jN W 5 [.lst ((B.map bE).map (·.1))]=some (.int mx)
 le:∀ e∈B,e.1<=mx
 ex:∃ e∈B,e.1=mx
theorem G8(B:List (Nat×By)):∀ {n:Nat},∃ mx:Nat,(B.map λe=>((e.1:Nat):Int)).foldl (λm j=>bif decide (m<j)then j else m) (n:Int)=(mx:Int)/\n<=mx/\(∀ e∈B,e.1<=mx)/\(mx=n\/∃ e∈B,e.1=mx):=by
 induction B with
 | nil=>exact λ{n}=>⟨n,rfl,aA _,(λe he=>(eX he)),.inl rfl⟩
 | cons e r ih=>
  intro n;rw [bu,List.foldl_cons];induction h:decide ((n:Int)<(e.1:Int))using eK with
  | true=>refine ag (ih (n:=e.1)) λmx z1=>And.elim (λh1 z2=>And.elim (λh2 z3=>And.elim (λh3 h4=> ?_) z3) z2) z1;exact ⟨mx,h1,af (bV (cz.mp (fc h))) h2,ah.mpr ⟨h2,h3⟩,.inr (h4.elim (λh4=>⟨e,aq,h4.symm⟩) λ⟨f,hf,h4⟩=>⟨f,aw _ hf,h4⟩)⟩
  | false=>refine ag (ih (n:=n)) λmx z1=>And.elim (λh1 z2=>And.elim (λh2 z3=>And.elim (λh3 h4=> ?_) z3) z2) z1;exact ⟨mx,h1,h2,ah.mpr ⟨af (cG.mp (Int.not_lt.mp (eU h))) h2,h3⟩,h4.imp_right λ⟨f,hf,h4⟩=>⟨f,aw _ hf,h4⟩⟩
theorem kQ(f:α->Int)(l:List α):dG (l.map λe=>V.int (f e))=some (l.map f):=jo l λZ Z=>rfl
theorem ab9(B:List (Nat×By))(h:B≠ []):∃ mx,MS B mx:=by
 rcases B with _ | ⟨e,r⟩
 ·exact absurd rfl h
 ·refine ag (G8 r (n:=e.1)) λmx z1=>And.elim (λh1 z2=>And.elim (λh2 z3=>And.elim (λh3 h4=> ?_) z3) z2) z1;refine ⟨mx,λW=> ?_,ah.mpr ⟨h2,h3⟩,h4.elim (λh4=>⟨e,aq,h4.symm⟩) λ⟨f,hf,h4⟩=>⟨f,aw _ hf,h4⟩⟩;rw [aU];show(dG ((e::r).map λe=>V.int e.1)).bind G7=_;rw [kQ (λe:Nat×By=>(e.1:Int))];exact av (λi=>some (V.int i)) h1
theorem pG{q:Nat}{t:Tr L}(w:WF q tx L t)(hl:L<=l):Sub q l 0 (aC q L 0 t) (aC q L 0 t):=λr=>
 ⟨λh=>⟨h,by
  have h1:=fv L w r h;refine ⟨af h1.1 hl,?_⟩;rw [show l-r.l=(L-r.l)+(l-L)by have:=h1.1; lia,Nat.pow_add,<-gT,h1.2,Nat.zero_div]⟩,λh=>h.1⟩
theorem YH(h:l<=4):wk l<=1452:=by
 rcases l with _ | _ | _ | _ | _ | l
 ·decide
 ·decide
 ·decide
 ·decide
 ·decide
 ·exact absurd h (Nat.not_le_of_lt (cR 5 l))
structure Chg(q tx L:Nat)(T:Tr L)(h:HS)(us:Int)(g:Nat->Option By)(L2 k:Nat)(T':Tr L2)(h':HS)(EE:Int):Prop where
 r:tR q tx h.next (aC q L 0 T) g L2 0 T'
 p:h'.H.Perm (ents q L2 T')
 ok:iw h' (k+1)
 n:h.next<=h'.next
 u:h'.ku+dS q L T=h.ku+dS q L2 T'
 v:EE+dS q L T=us+dS q L2 T'
inductive WBr(E:WE)(q tx m L:Nat)(T:Tr L)(mo:Int)(B:List (Nat×By))(kB us:Int)(h:HS)(k L2:Nat):Prop
 | mk (T':Tr L2) (h':HS) (EE:Int) (e:ai (m+13) 64 [.glob 1,iq q,.glob 4,.df (B.map bE),dD,.int tx,.glob 5] (dW E ((L+1:Nat):Int) mo (ptr q L T) us h [])=some (.none,dW E ((L2+1:Nat):Int) kB (ptr q L2 T') EE h' []))
  (r:Chg q tx L T h us (cK B) L2 k T' h' EE)
theorem IU{W:List aV}{a0 a1 a4 a5 a6 a8:Option LV}{lvl n:Int}{p:V}(hn:2000<=n)(hB:KN B)(hr:∀ e∈B,e.1<=6/\e.2.length=4):
  ∃ y,dj bT (cD (ai m) 64 [1] [0,0,0]) ((B.map bE).map (·.1)) ⟨[a0,a1,~~~(.glob 4),~~~(.df (B.map bE)),a4,a5,a6,~~~(.int n),a8],[none],dW E lvl mo p us h []⟩=
   some (B.map (λZ=>V.bool true),⟨[a0,a1,~~~(.glob 4),~~~(.df (B.map bE)),a4,a5,a6,~~~(.int n),a8],[y],dW E lvl mo p us h []⟩):=by
 rw [aU,<-gh (λZ:Nat×By=>V.bool true)];exact gQ (λe:Nat×By=>V.int e.1) _ (λe he y=>IT (m7 hB he) (ak (aN _)) (ak (Int.lt_of_lt_of_le (mj (c:=2000) (hr e he).1 ∅) hn)) (by rw [(hr e he).2]; rfl)) none
theorem wK {q L2:Nat} (hw:MI E) (hq:q=2\/q=3) (ig:1<=tx) (gF:tx<=1000) (w:WF q tx L T) (h6:mo<=6)
  (hL:L+1=lv q mo) (hB:KN B) (hr:∀ e∈B,e.1<=6/\e.2.length=4) (XE:B.length<=1000) (gx:B≠ []) (Cg:MS B mx) (qp:L2+1=lv q (mV mo mx)) (ok:iw h (k+1452+1)) (p:h.H.Perm (ents q L T)):
  WBr E q tx m L T mo B (mV mo mx) us h k L2:=by
 refine ag Cg.ex λe0 z1=>And.elim (λXs hm3=> ?_) z1;have acM:(mx:Int)<=6:=cG.mpr (hm3▸(hr e0 Xs).1);have LA:=nQ h6 acM;have hle:L<=L2:=by have:=vH hq (oG mo mx);rw [<-hL,<-qp] at this; exact dN this
 have pX:L2<=4:=af (da L2) (by show L2+1<=4; rw [qp]; exact ur q _);have Ce:=vG hq LA;rw [<-qp,Nat.add_sub_cancel] at Ce;refine ag (IU (m:=m+12) (W:=[]) (a0:= ~~~(.glob 1)) (a1:= ~~~(iq q)) (a4:= ~~~dD) (a5:= ~~~(.int tx)) (a6:= ~~~(.glob 5)) (a8:=none) (E:=E) (h:=h) (lvl:=((L+1:Nat):Int)) (mo:=mo) (us:=us) (p:=ptr q L T) (NA hq) hB hr) λy hc=> ?_;have LH:=w56 (m:=m+11) (W:=dW E ((L+1:Nat):Int) (mV mo mx) (ptr q L T) us h [wr q tx 0]) hq LA;rw [<-qp] at LH;have lt:∀ e∈B,e.1<q ^ L2:=λe he=>cz.mp (Int.lt_of_le_of_lt (cn (cG.mpr (Cg.le e he)) (rJ mo mx)) Ce);induction written (E:={E with w4:=dn ((L2+1:Nat):Int) (mV mo mx) (ptr q L T) us}) (N:=h.next) (O:=aC q L 0 T) (g:=cK B) hq (hw.at ∅) ig gF L2 pX (c:=⟨L,T⟩) (num:=0) (B:=B) (m:=m+(4-L2)) (h:=h) (wu:=0) (F:=[]) (k:=k)
  ⟨hle,λZ=>rfl,w,pG w hle,ok.mono (bG (bf (YH pX) k) 1),aA _,by rw [bS]; exact p⟩ ⟨hB,λe he=>⟨lt e he,(hr e he).2⟩,XE,λrel Z=>by rw [Nat.zero_mul,bF]⟩ (λZ=>gx)with | mk T' h' jy c37 r=>
 rw [bP m,Nat.sub_add_cancel pX] at c37;have p':=r.p;rw [bS] at p';have v:jy+dS q L T=0+dS q L2 T':=r.v;have ha:=mH (W:=dW E ((L+1:Nat):Int) mo (ptr q L T) us h []) (B.map λZ=>true);rw [aU,show(B.map λZ=>true).all id=true by rw [f9]; exact aK.mpr λZ Z=>rfl] at ha;refine ⟨T',h',us+jy,w64 (w57 hq) hc (ak (by rw [ao]; exact af XE ∅)) ha ?_ (Cg.e _) rfl LH (av (λi=>some (V.int i)) (z0 (cG.mpr (cC hle)))) w83 ?_ (hw.all h'),r.r,p',r.ok,r.n,r.u,by lia⟩
 ·rcases B with _ | ⟨e,r⟩
  ·exact absurd rfl gx
  ·rfl
 ·rw [tq]; exact c37
section
def qC:(d l:Nat)->Tr (l+d)->Tr l
 | 0,_,t=>t
 | d+1,l,t=>qC d l (nS (l+d) t)
section
variable{q:Nat}{O:List gj}{t:Tr (l+1)}
theorem Qp(w:WF q tx (l+1) t)(hq:0<q):WF q tx l (nS l t):=by
 rcases (t:Option _)with _ | ⟨b,a,ch⟩
 ·exact zZ _ _ _
 ·exact (w.2.2.2.1 _ (ee _ (by rw [w.2.2.1]; exact hq))).1
theorem K7(w:WF q tx (l+1) t)(hq:0<q)(s:Sub q (l+1) 0 O (aC q (l+1) 0 t)):Sub q l 0 O (aC q l 0 (nS l t)):=by
 have z:0*q+0=0:=by rw [Nat.zero_mul]
 rcases (t:Option _)with _ | ⟨b,a,ch⟩
 ·have:=wX s hq;rw [z] at this;rw [show nS l (none:Option (Nat×Nat×List (Tr l)))=dP l from rfl,me]; exact this
 ·have:=mO w s (i:=0) hq;rw [z] at this; exact this
end
inductive LwN(E:WE)(q tx m l d:Nat)(O:List gj)(t:Tr (l+d))(n:Nat)(f mo us:Int)(P:V)(h:HS)(wu:Int)(k:Nat):Prop
 | mk (h':HS) (jy:Int) (e:O1 (ai (m+12)) 65 [3] n ⟨Ou q f tx ((l+1:Nat):Int) (ptr q (l+d) t),[],dW E ((l+d+1:Nat):Int) mo P us h [wr q tx wu]⟩=some (.ez,⟨Ou q f tx ((l+1:Nat):Int) (ptr q l (qC d l t)),[],dW E ((l+1:Nat):Int) mo P us h' [wr q tx jy]⟩))
  (w:WF q tx l (qC d l t)) (s:Sub q l 0 O (aC q l 0 (qC d l t))) (p:h'.H.Perm (ents q l (qC d l t))) (ok:iw h' (k+1)) (n:h'.next=h.next)
  (u:h'.ku+dS q (l+d) t=h.ku+dS q l (qC d l t)) (v:jy+dS q (l+d) t=wu+dS q l (qC d l t))
theorem M6(hW:W.all (nk W.length)=true):ai (m+2) 49 [] W=some (dD,W):=by have w:=V4 (m:=m) hW;exact au (aZ ..) [fC 0 w] ⋯
variable{q:Nat}(hw:MI E)(hq:q=2\/q=3)(gF:tx<=1000)
include hw hq gF
theorem Hf{O:List gj}{f:Int}{L0:Nat}{T:Tr L0}(d:Nat):∀ {t:Tr (l+d)} {n:Nat} {h:HS} {wu:Int},d<n->l+d<=4->WF q tx (l+d) t->Sub q (l+d) 0 O (aC q (l+d) 0 t)->iw h (k+1)->h.H.Perm (ents q (l+d) t)->
  LwN E q tx m l d O t n f mo us (ptr q L0 T) h wu k:=by
 have q0:0<q:=ax ∅ (q2 hq);induction d with
 | zero=>
  intro t n h wu hn hl w s ok p;rcases n with _ | n
  ·exact absurd hn (eM 0)
  ·exact ⟨h,wu,aaL (TX (aT (Int.lt_irrefl _))),w,s,p,ok,rfl,rfl,rfl⟩
 | succ d ih=>
  intro t n h wu hn hl w s ok p;rcases n with _ | n
  ·exact absurd hn (fy _)
  ·have HN:l+d<=3:=dN hl;have hl5:l+d<=5:=af HN ∅;injection lowered (m:=m+(5-(l+d))) (l:=l+d) (wu:=wu) (F:=[]) hq (hw.at (E:=E) (lvl:=((l+(d+1)+1:Nat):Int)) (mo:=mo) (us:=us) (q:=q) (t:=T) (n:=11) ∅) gF HN w ok (by rw [bS]; exact p)with h1 gY e1 p1 o1 n1 k1 u1;rw [bP m,Nat.sub_add_cancel hl5] at e1;rw [bS] at p1;injection ih (t:=nS (l+d) t) (n:=n) (h:=h1) (wu:=gY) (fq hn) (iO hl) (Qp w q0) (K7 w q0 s) o1 p1 with h2 va e2 w2 s2 p2 o2 n2 k2 u2;refine ⟨h2,va,?_,w2,s2,p2,o2,n2.trans n1,?_,?_⟩
   ·refine aaK (TX (ak (cz.mpr (dY (gA (cN d)))))) (aaM e1) ?_;rw [tq]; exact e2
   ·show h2.ku+dS q (l+d+1) t=h.ku+dS q l (qC d l (nS (l+d) t));lia
   ·show va+dS q (l+d+1) t=wu+dS q l (qC d l (nS (l+d) t));lia
def gC(f n:Nat):Option By:=bif decide (f<=n)then some [] else none
inductive CTr(E:WE)(q tx m L:Nat)(T:Tr L)(mo:Int)(f:Nat)(us:Int)(h:HS)(k L2:Nat):Prop
 | mk (T':Tr L2) (h':HS) (EE:Int) (e:ai (m+13) 65 [.glob 1,iq q,.glob 4,.int f,dD,.int tx,.glob 5] (dW E ((L+1:Nat):Int) mo (ptr q L T) us h [])=some (.none,dW E ((L2+1:Nat):Int) ((f:Int)-1) (ptr q L2 T') EE h' []))
  (r:Chg q tx L T h us (gC f) L2 k T' h' EE)
theorem aea{L2 f:Nat}(ig:1<=tx)(w:WF q tx L T)(h6:mo<=6)(hL:L+1=lv q mo)(hf:(f:Int)<=mo)(qp:L2+1=lv q ((f:Int)-1))(ok:iw h (k+1452+1))(p:h.H.Perm (ents q L T)):
  CTr E q tx m L T mo f us h k L2:=by
 have hle:L2<=L:=by have:=vH hq (cn (Int.sub_le_self (f:Int) (by decide:(0:Int)<=1)) hf);rw [<-hL,<-qp] at this; exact dN this
 have pX:L<=4:=af (da L) (by show L+1<=4; rw [hL]; exact ur q _);have Td:=af hle pX;refine ag (Nat.exists_eq_add_of_le hle) λd z1=> ?_;obtain rfl:=z1;have LH:=w56 (m:=m+11) (W:=dW E ((L2+d+1:Nat):Int) mo (ptr q (L2+d) T) us h [wr q tx 0]) hq (cn (cn (Int.sub_le_self (f:Int) (by decide:(0:Int)<=1)) hf) h6);rw [<-qp] at LH;injection Hf (m:=m) (f:=(f:Int)) (mo:=mo) (us:=us) (T:=T) (wu:=0) hw hq gF d (n:=64) (az (af (cR d L2) pX) ∅) pX w (pG w (aA _)) ok p with h1 gY e1 w1 s1 p1 o1 n1 u1 v1;induction J4 (E:={E with w4:=dn ((L2+1:Nat):Int) mo (ptr q (L2+d) T) us}) (N:=h.next) (O:=aC q (L2+d) 0 T) (g:=gC f) hq (hw.at ∅) ig gF L2 Td (t:=qC d L2 T) (num:=0) (f:=(f:Int)) (m:=m+(4-L2)) (h:=h1) (wu:=gY) (F:=[]) (k:=k)
  ⟨aA _,λZ=>rfl,w1,s1,o1.mono (bG (bf (YH Td) k) 1),bW n1.symm,by rw [bS]; exact p1⟩ (λrel Z=>by rw [Nat.zero_mul,bF,show decide ((f:Int)<=(rel:Int))=decide (f<=rel)from decide_eq_decide.mpr cG]; rfl)with | mk T' h' jy c39 r=>
 rw [bP m,Nat.sub_add_cancel Td] at c39;have p':=r.p;rw [bS] at p';have u:h'.ku+dS q L2 (qC d L2 T)=h1.ku+dS q L2 T':=r.u;have v:jy+dS q L2 (qC d L2 T)=gY+dS q L2 T':=r.v;refine ⟨T',h',us+jy,w65 (aT (Int.not_lt.mpr hf)) w83 LH e1 ?_ (av (λi=>some (V.int i)) (G2 (aN f))) (hw.all h'),r.r,p',r.ok,by rw [<-n1]; exact r.n,by lia,by lia⟩;rw [tq]; exact c39
theorem Yu{f:Nat}{lvl:Int}(hf:mo<(f:Int)):ai (m+13) 65 [.glob 1,iq q,.glob 4,.int f,dD,.int tx,.glob 5] (dW E lvl mo (ptr q L T) us h [])=some (.none,dW E lvl mo (ptr q L T) us h []):=
 O4 (ak hf) (hw.all h)
inductive DTr(E:WE)(q m t L:Nat)(T:Tr L)(lvl mo us:Int)(h:HS):Prop
 | mk (h':HS) (e:ai (m+13) 66 [.glob 1,iq q,.glob 4,.int t,.glob 5] (dW E lvl mo (ptr q L T) us h [])=some (.none,dW E 1 (-1) .none 0 h' [])) (z:h'.H=[]) (u:h'.ku=h.ku-dS q L T)
theorem Ip{t:Nat}{lvl:Int}(hl:L<=4)(w:WF q tx L T)(ok:iw h (k+1))(p:h.H.Perm (ents q L T)):DTr E q m t L T lvl mo us h:=by
 induction wb (E:={E with w4:=dn lvl mo (ptr q L T) us}) (tx:=t) hq gF (hw.at ∅) L (m:=m+(6-L)) (wu:=0) (F:=[]) hl w ok (by rw [bS]; exact p)with | mk h' c1 p1 o1 n1 k1=>
 rw [bP m,Nat.sub_add_cancel (af hl ∅)] at c1;exact ⟨h',w66 (M6 (hw.all h)) w83 c1 (hw.all (q:=q) (t:=dP 0) h'),p1.eq_nil,k1⟩
end
def kg(q:Nat)(r:gj):V:=.tup [.int r.l,.int r.n,PV (key r.a (bC q r.l)) (jz q r.l) r.l r.b r.f]
def EH:Nat->Nat
 | 0=>1
 | l+1=>1+3*EH l
theorem DW{g:Nat->α->List β}{b:Nat}{l:List α}:∀ {i:Nat},(∀ x∈l,∀ j,(g j x).length<=b)->(jH g i l).length<=l.length*b:=by
 induction l with
 | nil=>exact λ{i} Z=>bw _
 | cons x r ih=>intro i h;rw [m8];rw [aQ,bZ,iN,dy];refine And.elim (λh1 h2=> ?_) (ah.mp h);exact Nat.add_le_add (ih h2) (h1 i)
theorem xl{q:Nat}(hq:q<=3)(l:Nat):∀ {num:Nat} {t:Tr l},WF q tx l t->(aC q l num t).length<=EH l:=by
 induction l with
 | zero=>
  intro num t w;rcases (t:Option _)with _ | ⟨b,a,x⟩
  ·exact bw _
  ·exact aA _
 | succ l ih=>
  intro num t w;rcases (t:Option _)with _ | ⟨b,a,ch⟩
  ·exact bw _
  ·show(jH (aC q l) (num*q) ch).length+1<=1+3*EH l;rw [dy];exact bf (af (DW λx hx j=>ih (w.2.2.2.1 x hx).1) (bU _ (by rw [w.2.2.1]; exact hq))) 1
theorem rz{q:Nat}(l:Nat):∀ {num:Nat} {t:Tr l} {b a:Nat},WF q tx l t->dE l t=some (b,a)->∀ r∈aC q l num t,r.b<=b:=by
 induction l with
 | zero=>
  intro num t b a w e r h;rcases (t:Option _)with _ | ⟨b',a',x⟩
  ·exact (eX h)
  ·rw [ay.mp h]; exact bW (xV e).1
 | succ l ih=>
  intro num t b a w e r h;rcases (t:Option _)with _ | ⟨b',a',ch⟩
  ·exact (eX h)
  ·have eb:=(xV e).1;rcases aH.mp h with h | h
   ·rw [h]; exact bW eb
   ·refine ag ((dU (dP l)).mp h) λj z1=>And.elim (λhj h=> ?_) z1;have hw:=w.2.2.2.1 _ (ee (dP l) hj);rcases e2:dE l (ch.getD j (dP l))with _ | ⟨b2,a2⟩
    ·rw [iD e2] at h; exact (eX h)
    ·exact eb▸af (ih hw.1 e2 r h) (hw.2 _ e2)
abbrev bL(q:Int)(p:V)(n s:Int)(x5 x6 x7:Option LV):List (Option LV):=[~~~(.glob 1),~~~(iq q),~~~p,~~~(.int n),~~~(.int s),x5,x6,x7]
section
variable{k p0 p:V}{q n sz l b f i x:Int}{B:By}{acc new fin:List V}{x7:Option LV}
theorem M4:ai (m+1) 60 [.glob 1,iq q,.none,.int n,.int s] W=some (.lst [],W):=au (aZ ..) [] ⋯
theorem Bl(h0:decide (b<=s)=true):ai (m+1) 60 [.glob 1,iq q,PV k sz l b f,.int n,.int s] W=some (.lst [],W):=au (aZ ..) [fT 3 h0] ⋯
theorem E2(h0:decide (b<=s)=false)(hl:decide (0<l)=false):ai (m+1) 60 [.glob 1,iq q,PV k sz l b f,.int n,.int s] W=some (.lst [.tup [.int l,.int n,PV k sz l b f]],W):=au (aZ ..) [fF 3 h0,fF 4 hl] ⋯
theorem Se(hm:d7 .Mult (.int n) (.int q)=some (.int x))(hl:iv (jR (acc.length+new.length)) (acc++new)=some (acc++new))(LF:ai m 60 [.glob 1,iq q,p,.int (x+i),.int s] W=some (.lst new,W)):
  cj (ai m) 60 [2,0] (.tup [.int i,p]) ⟨bL q p0 n s (some (.ol acc)) x6 x7,[],W⟩=some (.ez,⟨bL q p0 n s (some (.ol (acc++new))) (~~~(.int i)) (~~~p),[],W⟩):=by
 exact au (fH ..) [fV 1 hm,fC 1 LF,fX 0 hl] ⋯
theorem E1 (h0:decide (b<=s)=false) (hl:decide (0<l)=true) (Aw:ai m 42 [.glob 1,PV k sz l b f] (bM E h [])=some (.bytes B,bM E h [])) (HU:ai m 55 [.bytes B] (bM E h [])=some (.lst ps,bM E h []))
  (ya:dO bT (cj (ai m) 60 [2,0]) (eQ 0 ps) ⟨bL q (PV k sz l b f) n s (some (.ol [.tup [.int l,.int n,PV k sz l b f]])) none none,[],bM E h []⟩=some (.ez,⟨bL q (PV k sz l b f) n s (some (.ol fin)) x6 x7,[],bM E h []⟩)):
  ai (m+1) 60 [.glob 1,iq q,PV k sz l b f,.int n,.int s] (bM E h [])=some (.lst fin,bM E h []):=by
 exact au (aZ ..) [fF 2 h0,fT 4 hl,fC 1 Aw,fC 0 HU,fO 1 ya] ⋯
end
def ja(s:Int)(R:List gj):List gj:=R.filter λr=>decide (s<(r.b:Int))
theorem gk{f:V->St->Option (Out×St)}{r:List V}{km:St}{y:Option (Out×St)}(h:f v σ=some (.ez,km))(h2:dO bT f r km=y):dO bT f (v::r) σ=y:=by show(f v σ).bind _=_;rw [h]; exact h2
theorem Dy{f:V->St->Option (Out×St)}{x:V}{r:List V}{km:St}(h:f v σ=some (.ret x,km)):dO bT f (v::r) σ=some (.ret x,km):=by show(f v σ).bind _=_;rw [h]; rfl
theorem wo{q num M:Nat}{p0:V}(jq:q<=3)(tn:3*EH l<=1000)(hn:num<=100000)(rest:List (Tr l)):∀ {n:Nat} {acc:List V} {x6 x7:Option LV},n+rest.length<=3->acc.length<=1+n*EH l->
   (∀ j,j<rest.length->ai M 60 [.glob 1,iq q,ptr q l (rest.getD j (dP l)),.int ((num*q+(n+j):Nat):Int),.int s] W=some (.lst ((ja s (aC q l (num*q+(n+j)) (rest.getD j (dP l)))).map (kg q)),W)/\
    (aC q l (num*q+(n+j)) (rest.getD j (dP l))).length<=EH l)->
  ∃ x6' x7',dO bT (cj (ai M) 60 [2,0]) (eQ n (rest.map (ptr q l))) ⟨bL q p0 num s (some (.ol acc)) x6 x7,[],W⟩=
   some (.ez,⟨bL q p0 num s (some (.ol (acc++(ja s (jH (aC q l) (num*q+n) rest)).map (kg q)))) x6' x7',[],W⟩):=by
 induction rest with
 | nil=>exact λ{n acc x6 x7} Z Z Z=>⟨x6,x7,by rw [show acc++(ja s (jH (aC q l) (num*q+n) [])).map (kg q)=acc from bS _]; rfl⟩
 | cons c r ih=>
  intro n acc x6 x7 hlen ha hk;rw [bZ] at hlen;have k0:ai M 60 [.glob 1,iq q,ptr q l c,.int ((num*q+n:Nat):Int),.int s] W=some (.lst ((ja s (aC q l (num*q+n) c)).map (kg q)),W)/\(aC q l (num*q+n) c).length<=EH l:=hk 0 (cN _);have hls:((ja s (aC q l (num*q+n) c)).map (kg q)).length<=EH l:=by rw [ao]; exact af (dx _ _) k0.2
  have hac:(acc++(ja s (aC q l (num*q+n) c)).map (kg q)).length<=1+(n+1)*EH l:=by rw [aQ,iN,<-bP]; exact Nat.add_le_add ha hls
  have hn3:(n+1)*EH l<=3*EH l:=bU _ (af (cC (aB n r.length)) hlen);have e0:∀ j,n+1+j=n+(j+1):=λj=>by rw [bP,dy 1]
  have t:=Se (p0:=p0) (i:=(n:Int)) (x6:=x6) (x7:=x7) (acc:=acc) (j6 (af hn ∅) (af jq ∅)) (gv (ak (by
   rw [<-aQ]; exact af hac (af (bf (af hn3 tn) 1) ∅)))) (by rw [<-Int.natCast_add]; exact k0.1)
  refine ag (ih (n:=n+1) (x6:= ~~~(.int n)) (x7:= ~~~(ptr q l c)) (by rw [bP,dy 1]; exact hlen) hac (λj hj=>by rw [e0]; exact hk (j+1) (dY hj))) λx6' z1=>ag z1 λx7' e=> ?_;refine ⟨x6',x7',gk t ?_⟩;rw [cw,<-iH] at e;unfold ja at e ⊢;rw [<-List.filter_append] at e;exact e
theorem Qi(h:l<=4):EH l<=121:=by
 rcases l with _ | _ | _ | _ | _ | l
 ·decide
 ·decide
 ·decide
 ·decide
 ·decide
 ·exact absurd h (Nat.not_le_of_lt (cR 5 l))
section
variable{q:Nat}(o:iw h k)(hq:q=2\/q=3)(ig:tx<=1000)(hE:wD E 10)
include o hq ig hE
theorem NM{b:Nat}{ch:List (Tr l)}(hl:l<=4)(w:WF q tx (l+1) (nd b a ch))(hs:∀ e∈ents q (l+1) (nd b a ch),e∈h.H):
  ai (m+4) 42 [.glob 1,ptr q (l+1) (nd b a ch)] (bM E h [])=some (.bytes (ch.flatMap (qm q l)),bM E h [])/\∀ t∈ch,∀ j,ai (j+2) 53 [.bytes (qm q l t)] (bM E h [])=some (ptr q l t,bM E h []):=
 ⟨BF o w rfl (hs _ aq),λt ht j=>O7 (w.2.2.2.1 t ht).1 (q3 hq) hl ig (λpp e=>o.MG (hs _ (aw _ (g9.mpr ⟨t,ht,ou (q:=q) (b:=pp.1) (a:=pp.2) e⟩)))) (jJ hE rfl h)⟩
theorem I1(l:Nat):∀ {num:Nat} {t:Tr l},l<=4->(num+1)*q ^ l<=10000->WF q tx l t->(∀ e∈ents q l t,e∈h.H)->
  ai (m+l+5) 60 [.glob 1,iq q,ptr q l t,.int num,.int s] (bM E h [])=some (.lst ((ja s (aC q l num t)).map (kg q)),bM E h []):=by
 have q0:0<q:=ax ∅ (q2 hq);have old:∀ {l num b a:Nat} {t:Tr l},WF q tx l t->dE l t=some (b,a)->(b:Int)<=s->ja s (aC q l num t)=[]:=λ{l num b a t} w e hb=>
  List.filter_eq_nil_iff.mpr λr hr hc=>absurd (fc hc) (Int.not_lt.mpr (cn (cG.mpr (rz l w e r hr)) hb))
 have new:∀ {b:Nat} {r:gj} {R:List gj},r.b=b->¬ (b:Int)<=s->ja s (r::R)=r::ja s R:=λ{b r R} e hb=>by
  unfold ja;rw [List.filter_cons,ak (e▸Int.not_le.mp hb)]; rfl
 induction l with
 | zero=>
  intro num t _ _ w hs;rcases (t:Option _)with _ | ⟨b,a,x⟩
  ·exact M4
  ·have e':dE 0 (lf b a x)=some (b,a):=rfl;show ai _ _ [_,_,ptr q 0 (lf b a x),_,_] _=some (.lst ((ja s (aC q 0 num (lf b a x))).map (kg q)),_);by_cases hb:(b:Int)<=s
   ·rw [old w e' hb,bK e']; exact Bl (ak hb)
   ·rw [bK e',show aC q 0 num (lf b a x)=[⟨0,num,b,a,1,x⟩] from rfl,new rfl hb]; exact E2 (aT hb) rfl
 | succ l ih=>
  intro num t hl Xd w hs;rcases (t:Option _)with _ | ⟨b,a,ch⟩
  ·exact M4
  ·have e':dE (l+1) (nd b a ch)=some (b,a):=rfl;have hlen:ch.length=q:=w.2.2.1;have HN:=dN hl;show ai _ _ [_,_,ptr q (l+1) (nd b a ch),_,_] _=some (.lst ((ja s (aC q (l+1) num (nd b a ch))).map (kg q)),_);by_cases hb:(b:Int)<=s
   ·rw [old w e' hb,bK e']; exact Bl (ak hb)
   ·have⟨tj,r53⟩:=NM (m:=m+l+1) o hq ig hE (iO hl) w hs;have Jx:=O6 (m:=m+l+4) (W:=bM E h []) (by rw [hlen]; exact hq) (kZ q l) λt ht=>r53 t ht (m+l+2);have tn:=Qi (iO hl);obtain ⟨x6,x7,e1⟩:=wo (M:=m+l+5) (W:=bM E h []) (s:=s) (num:=num) (p0:=ptr q (l+1) (nd b a ch)) (q3 hq) (af (Nat.mul_le_mul_left 3 tn) ∅)
     (af (af (da num) (af (Nat.le_mul_of_pos_right _ (Nat.pow_pos q0)) Xd)) ∅) ch (n:=0) (acc:=[.tup [.int ((l+1:Nat):Int),.int num,ptr q (l+1) (nd b a ch)]]) (x6:=none) (x7:=none) (by rw [bF,hlen]; exact q3 hq) (aB _ _)
     (λj hj=>by
      have hm:=ee (dP l) hj;have hw:=(w.2.2.2.1 _ hm).1;rw [bF];refine ⟨ih (iO hl) (af ?_ Xd) hw λe he=>hs e (aw _ (g9.mpr ⟨_,hm,he⟩)),xl (q3 hq) l hw⟩;rw [f7,fj (q ^ l) q,<-Nat.mul_assoc];refine bU _ ?_;rw [iN,<-hlen];exact bf hj (num*ch.length))
    rw [bK e'] at tj e1 ⊢;rw [show aC q (l+1) num (nd b a ch)=⟨l+1,num,b,a,(ch.map (dH l)).sum,ch.flatMap (qm q l)⟩::jH (aC q l) (num*q) ch from rfl,new rfl hb];exact E1 (aT hb) (ak (Int.natCast_pos.mpr (cN l))) tj Jx e1
end
def nv(q:Nat):(l:Nat)->Tr l->Nat->Tr 0
 | 0,t,_=>t
 | l+1,t,n=>match(t:Option (Nat×Nat×List (Tr l)))with
  | none=>dP 0
  | some p=>nv q l (p.2.2.getD (n / q ^ l % q) (dP l)) n
def CC:Nat->List V
 | 0=>[]
 | l+1=>.int ((l+1:Nat):Int)::CC l
theorem Gg(h:l<=3):jh W (.ql ((l:Nat):Int) 0 (-1))=some (.ql ((l:Nat):Int) 0 (-1),CC l):=by
 rcases l with _ | _ | _ | _ | l
 ·rfl
 ·rfl
 ·rfl
 ·rfl
 ·exact absurd h (Nat.not_le_of_lt (cR 4 l))
abbrev gL(q:Int)(n:Int)(x4 x5 x6:Option LV):List (Option LV):=[~~~(.glob 1),~~~(iq q),~~~(.glob 4),~~~(.int n),x4,x5,x6]
section
variable{k p p':V}{q n v sp d i lo hi l b f lvl:Int}{B C:By}{x4 x5:Option LV}
theorem Ru:cj (ai m) 58 [2] (.int v) ⟨gL q n (some (.v .none)) x5 x6,[],W⟩=some (.ret .none,⟨gL q n (some (.v .none)) (~~~(.int v)) x6,[],W⟩):=au (fH ..) [] ⋯
theorem Rt (hp:d7 .Pow (.int q) (.int (v-1))=some (.int sp)) (hd:d7 .FloorDiv (.int n) (.int sp)=some (.int d)) (hm:d7 .Mod (.int d) (.int q)=some (.int i)) (Aw:ai m 42 [.glob 1,PV k s l b f] (bM E h [])=some (.bytes B,bM E h []))
  (hm1:d7 .Mult (.int i) (.int 53)=some (.int lo)) (Xk:d7 .Mult (.int (i+1)) (.int 53)=some (.int hi)) (hs:pI (.bytes B) (.int lo) (.int hi)=some (.bytes C)) (h53:ai m 53 [.bytes C] (bM E h [])=some (p',bM E h [])):
  cj (ai m) 58 [2] (.int v) ⟨gL q n (~~~(PV k s l b f)) x5 x6,[],bM E h []⟩=some (.ez,⟨gL q n (some (.v p')) (~~~(.int v)) (~~~(.int i)),[],bM E h []⟩):=by
 exact au (fH ..) [fV 3 hp,fV 0 hd,fV 1 hm,fC 0 Aw,fV 0 hm1,fV 1 Xk,fV 0 hs,fC 0 h53] ⋯
variable(h0:decide ((0:Int)<=n)=true)
include h0
theorem JX(h1:decide (n<=mo)=false):ai (m+1) 58 [.glob 1,iq q,.glob 4,.int n] (dW E lvl mo p us h [])=some (.none,dW E lvl mo p us h []):=au (aZ ..) [fT 0 h0,fF 1 h1] ⋯
variable(h1:decide (n<=mo)=true)(hp:d7 .Pow (.int q) (.int (lvl-1))=some (.int sp))(h2:decide (sp<=n)=false)(hit:jh (dW E lvl mo p us h []) (.ql (lvl-1) 0 (-1))=some (.ql (lvl-1) 0 (-1),xO))
include h1 hp h2 hit
theorem O5(hl:dO bT (cj (ai m) 58 [2]) xO ⟨gL q n (~~~p) none none,[],dW E lvl mo p us h []⟩=some (.ez,⟨gL q n (some (.v p')) x5 x6,[],dW E lvl mo p us h []⟩)):
  ai (m+1) 58 [.glob 1,iq q,.glob 4,.int n] (dW E lvl mo p us h [])=some (p',dW E lvl mo p us h []):=by
 exact au (aZ ..) [fT 0 h0,fT 1 h1,fV 4 hp,fF 0 h2,fI 6 hit,fO 0 hl] ⋯
theorem JW(hl:dO bT (cj (ai m) 58 [2]) xO ⟨gL q n (~~~p) none none,[],dW E lvl mo p us h []⟩=some (.ret .none,⟨gL q n x4 x5 x6,[],dW E lvl mo p us h []⟩)):
  ai (m+1) 58 [.glob 1,iq q,.glob 4,.int n] (dW E lvl mo p us h [])=some (.none,dW E lvl mo p us h []):=by
 exact au (aZ ..) [fT 0 h0,fT 1 h1,fV 4 hp,fF 0 h2,fI 6 hit,fO 0 hl] ⋯
end
section
variable{k p:V}{q n l b f lvl:Int}
theorem M5(LG:ai m 58 [.glob 1,iq q,.glob 4,.int n] (dW E lvl mo p us h [])=some (.none,dW E lvl mo p us h [])):ai (m+1) 59 [.glob 1,iq q,.glob 4,.int n] (dW E lvl mo p us h [])=some (.bytes [0,0,0,0],dW E lvl mo p us h []):=au (aZ ..) [fC 0 LG] ⋯
theorem Ui(LG:ai m 58 [.glob 1,iq q,.glob 4,.int n] (dW E lvl mo p us h [])=some (PV k s l b f,dW E lvl mo p us h []))(Aw:ai m 42 [.glob 1,PV k s l b f] (dW E lvl mo p us h [])=some (.bytes x,dW E lvl mo p us h [])):
  ai (m+1) 59 [.glob 1,iq q,.glob 4,.int n] (dW E lvl mo p us h [])=some (.bytes x,dW E lvl mo p us h []):=by
 exact au (aZ ..) [fC 0 LG,fC 1 Aw] ⋯
end
theorem Kh{g:α->By}(hb:∀ x,(g x).length=53){ch:List α}(d:α)(h:i<ch.length):pI (.bytes (ch.flatMap g)) (.int ((i*53:Nat):Int)) (.int (((i+1)*53:Nat):Int))=some (.bytes (g (ch.getD i d))):=by
 have e:ch=ch.take i++(ch.getD i d::ch.drop (i+1)):=by rw [cJ,aP h];show _=ch.take i++(ch[i]::_);rw [<-List.drop_eq_getElem_cons h,List.take_append_drop]
 have e2:=av (List.flatMap g) e;rw [List.flatMap_append,cO] at e2;rw [iN];exact pH e2 (by rw [p5 hb,List.length_take,Nat.min_eq_left (bV h)]) (hb _)
theorem nz{b:Nat}(h0:0<b):decide ((b:Int)≠0)=true:=ak λe=>absurd (cx e) (dM h0)
theorem oS{b:Nat}(h0:0<b)(hb:b<=1000000):d7 .FloorDiv (.int a) (.int b)=some (.int ((a / b:Nat):Int)):=
 (gv (dk (nz h0) (ak (az hb ∅)))).trans (av (λi=>some (V.int i)) (yn _ _))
theorem Cw{b:Nat}(h0:0<b):d7 .Mod (.int a) (.int b)=some (.int ((a % b:Nat):Int)):=
 (gv (nz h0)).trans (av (λi=>some (V.int i)) (yl _ _))
inductive FpR(m q n l:Nat)(t:Tr l)(W:List aV)(x5 x6:Option LV):Prop
 | ez (y5 y6:Option LV) (e:dO bT (cj (ai m) 58 [2]) (CC l) ⟨gL q n (~~~(ptr q l t)) x5 x6,[],W⟩=some (.ez,⟨gL q n (~~~(ptr q 0 (nv q l t n))) y5 y6,[],W⟩))
 | ret (y4 y5 y6:Option LV) (z:nv q l t n=dP 0) (e:dO bT (cj (ai m) 58 [2]) (CC l) ⟨gL q n (~~~(ptr q l t)) x5 x6,[],W⟩=some (.ret .none,⟨gL q n y4 y5 y6,[],W⟩))
section
variable{q:Nat}(o:iw h k)(hq:q=2\/q=3)(ig:tx<=1000)
include o hq ig
theorem LO(hE:wD E 10)(l:Nat):∀ {t:Tr l} {x5 x6:Option LV},l<=4->WF q tx l t->(∀ e∈ents q l t,e∈h.H)->FpR (m+4) q n l t (bM E h []) x5 x6:=by
 have q0:0<q:=ax ∅ (q2 hq);induction l with
 | zero=>exact λ{t x5 x6} Z Z Z=>.ez x5 x6 rfl
 | succ l ih=>
  intro t x5 x6 hl w hs;rcases (t:Option _)with _ | ⟨b,a,ch⟩
  ·refine .ret (some (.v .none)) (~~~(.int ((l+1:Nat):Int))) x6 rfl (Dy Ru)
  ·have e':dE (l+1) (nd b a ch)=some (b,a):=rfl;have hi3:n / q ^ l % q<q:=Nat.mod_lt _ q0;have hi:n / q ^ l % q<ch.length:=by rw [w.2.2.1]; exact hi3
   have hm:=ee (dP l) hi;have EL:=iO hl;refine And.elim (λtj r53=> ?_) (NM (m:=m) o hq ig hE EL w hs);have i3:n / q ^ l % q+1<=1000000:=af hi3 (af (q3 hq) ∅);rw [bK e'] at tj;have t1:=Rt (n:=(n:Int)) (x5:=x5) (x6:=x6) (pN hq EL) (oS (Nat.pow_pos q0) (af (jg (q3 hq) EL) ∅)) (Cw q0) tj (j6 (b:=53) (iO i3) ∅) (j6 (b:=53) i3 ∅) (Kh (kZ q l) (dP l) hi) (r53 _ hm (m+2));rw [<-bK e'] at t1;induction ih (t:=ch.getD (n / q ^ l % q) (dP l)) (x5:= ~~~(.int ((l+1:Nat):Int))) (x6:= ~~~(.int ((n / q ^ l % q:Nat):Int))) EL (w.2.2.2.1 _ hm).1 (λe he=>hs e (aw _ (g9.mpr ⟨_,hm,he⟩)))with
   | ez y5 y6 e=>exact .ez y5 y6 (gk t1 e)
   | ret y4 y5 y6 z e=>exact .ret y4 y5 y6 z (gk t1 e)
end
def El(q l:Nat)(t:Tr l)(n:Nat):By:=match(nv q l t n:Option (Nat×Nat×By))with
 | none=>[0,0,0,0]
 | some p=>p.2.2
theorem Lb{q:Nat}(hq:0<q)(l:Nat):∀ {t:Tr l},WF q tx l t->WF q tx 0 (nv q l t n)/\∀ e∈ents q 0 (nv q l t n),e∈ents q l t:=by
 induction l with
 | zero=>exact λ{t} w=>⟨w,λe he=>he⟩
 | succ l ih=>
  intro t w;rcases (t:Option _)with _ | ⟨b,a,ch⟩
  ·exact ⟨trivial,λe he=>he⟩
  ·have hm:=ee (dP l) (l:=ch) (j:=n / q ^ l % q) (by rw [w.2.2.1]; exact Nat.mod_lt _ hq);have:=ih (w.2.2.2.1 _ hm).1;exact ⟨this.1,λe he=>aw _ (g9.mpr ⟨_,hm,this.2 e he⟩)⟩
theorem xI{q:Nat}(hq:0<q)(l:Nat):∀ {num:Nat} {t:Tr l},WF q tx l t->n / q ^ l=num->(leaf (aC q l num t) n x<->∃ b a,nv q l t n=lf b a x):=by
 induction l with
 | zero=>
  intro num t w h;rcases (t:Option _)with _ | ⟨b,a,y⟩
  ·exact ⟨(λ⟨r,hr,_⟩=>(eX hr)),λ⟨b,a,h⟩=>(mK ((show(none:Option (Nat×Nat×By))=some _ from h)))⟩
  ·refine ⟨λ⟨r,hr,_,_,h4⟩=>⟨b,a,?_⟩,λ⟨b',a',e⟩=>⟨_,ay.mpr rfl,rfl,(P6 h).symm,?_⟩⟩
   ·rw [ay.mp hr] at h4; exact av (λz=>some (b,a,z)) h4
   ·exact (cu (cu (ae (show some (b,a,y)=some (b',a',x)from e))).2).2
 | succ l ih=>
  intro num t w h;rcases (t:Option _)with _ | ⟨b,a,ch⟩
  ·exact ⟨(λ⟨r,hr,_⟩=>(eX hr)),λ⟨b,a,h⟩=>(mK ((show(none:Option (Nat×Nat×By))=some _ from h)))⟩
  ·have hi:n / q ^ l % q<q:=Nat.mod_lt _ hq;have hlen:ch.length=q:=w.2.2.1;have hn:n / q ^ l=num*q+n / q ^ l % q:=by rw [f7,<-gT] at h;rw [<-h,fj]; exact (Nat.div_add_mod _ _).symm
   have h1:=ux (r0:=⟨l+1,num,b,a,(ch.map (dH l)).sum,ch.flatMap (qm q l)⟩) (x:=x) hlen (λt ht=>(w.2.2.2.1 t ht).1) (Nat.succ_ne_zero l) hi hn;exact h1.trans (ih (w.2.2.2.1 _ (ee (dP l) (hlen▸hi))).1 hn)
theorem Dn{q:Nat}(o:iw h k)(hq:q=2\/q=3)(ig:tx<=1000)(hl:L<=3)(w:WF q tx L T)(hs:∀ e∈ents q L T,e∈h.H)(hw:MI E)(Xh:mo<((q ^ L:Nat):Int)):
  ai (m+6) 59 [.glob 1,iq q,.glob 4,.int n] (dW E ((L+1:Nat):Int) mo (ptr q L T) us h [])=some (.bytes (bif decide ((n:Int)<=mo)then El q L T n else [0,0,0,0]),dW E ((L+1:Nat):Int) mo (ptr q L T) us h []):=by
 have q0:0<q:=ax ∅ (q2 hq);have n0:decide ((0:Int)<=(n:Int))=true:=ak (aN n);have hE:wD {E with w4:=dn ((L+1:Nat):Int) mo (ptr q L T) us} 10:=hw.at (aA 10);induction hn:decide ((n:Int)<=mo)using eK with
 | false=>exact M5 (JX n0 hn)
 | true=>
  have EL:=bz hl;have hp:=pN (l:=L) hq EL;have lt:decide (((q ^ L:Nat):Int)<=(n:Int))=false:=aT (Int.not_le.mpr (Int.lt_of_le_of_lt (fc hn) Xh));have hit:=Gg (W:=dW E ((L+1:Nat):Int) mo (ptr q L T) us h []) hl;rw [<-tq (l:=L)] at hit;have LG:ai (m+5) 58 [.glob 1,iq q,.glob 4,.int n] (dW E ((L+1:Nat):Int) mo (ptr q L T) us h [])=some (ptr q 0 (nv q L T n),dW E ((L+1:Nat):Int) mo (ptr q L T) us h []):=by
   induction LO (m:=m) (n:=n) (x5:=none) (x6:=none) o hq ig hE L EL w hs with
   | ez y5 y6 e=>exact O5 n0 hn hp lt hit e
   | ret y4 y5 y6 z e=>rw [z]; exact JW n0 hn hp lt hit e
  have QM:=Lb (n:=n) q0 L w;show _=some (V.bytes (El q L T n),_);unfold El;rcases e:(nv q L T n:Option (Nat×Nat×By))with _ | ⟨b,a,x⟩
  ·rw [e] at LG; exact M5 LG
  ·rw [e] at LG QM;have e':dE 0 (lf b a x)=some (b,a):=rfl;have tj:=BF (m:=m+3) (tl:=[]) (E:={E with w4:=dn ((L+1:Nat):Int) mo (ptr q L T) us}) o QM.1 e' (hs _ (QM.2 _ aq));rw [show ptr q 0 (some (b,a,x):Option (Nat×Nat×By))=_ from bK e'] at LG;rw [bK e'] at tj;exact Ui LG tj
section
variable{lt:α->α->Bool}(o:Tt lt){l m:List α}(p:l.Perm m)(hn:l.Nodup)
include o p hn
theorem xe(h:OK lt m):jj lt l=m:=ro o ((jU l).trans p) (kT o hn) h
theorem tB:jj lt l=jj lt m:=xe o (p.trans (jU m).symm) hn (kT o (p.nodup_iff.mp hn))
end
section
variable{l:List α}
theorem ra{f:α->List Int}(hn:n≠0)(h1:∀ e∈l,(f e).length=n)(h2:(l.map f).Nodup):nu (l.map λe=>V.tup ((f e).map V.int))=some ((jj uu (l.map f)).map λt=>V.tup (t.map V.int)):=by
 rcases l with _ | ⟨a,r⟩
 ·rfl
 ·show(A1 ((a::r).map λe=>V.tup ((f e).map V.int))).bind Ff=_;have e:A1 ((a::r).map λe=>V.tup ((f e).map V.int))=some ((a::r).map f):=jo _ λe Z=>show dG ((f e).map V.int)=some (f e)from(kQ (λi:Int=>i) (f e)).trans (by rw [List.map_id'])
  rw [e];show(bif Fq _&&decide _ then some _ else none)=_;rw [dk _ (ak h2)]; rfl;refine aK.mpr λt ht=> ?_;refine ag (ba.mp ht) λe z1=>And.elim (λhe z2=> ?_) z1;obtain rfl:=z2;have h5:(List.headD ((a::r).map f) []).length=n:=h1 a aq;rw [h5,h1 e he];exact dk (aG n) (bne_iff_ne.mpr hn)
theorem zh{f:α->Int}(h2:(l.map f).Nodup):nu (l.map λe=>V.int (f e))=some ((jj (λa b=>decide (a<b)) (l.map f)).map V.int):=by unfold nu;rw [kQ f l];show(bif decide _ then some _ else none)=_;rw [ak h2]; rfl
end
section
variable{g:Nat->α->List β}(d:α)
theorem DV{f:β->γ}{h:α->List γ}(hh:∀ i x,(g i x).map f=h x){l:List α}:∀ {i:Nat},(jH g i l).map f=l.flatMap h:=by
 induction l with
 | nil=>exact λ{i}=>rfl
 | cons x r ih=>exact λ{i}=>by rw [m8]; rw [iH,hh,ih,cO]
theorem RH:i+1+j=i+(j+1):=by rw [bP,dy 1]
theorem DU{p:β->Bool}{l:List α}:∀ {i j:Nat},j<l.length->(∀ j',j'<l.length->j'≠j->∀ s∈g (i+j') (l.getD j' d),p s=false)->(jH g i l).filter p=(g (i+j) (l.getD j d)).filter p:=by
 have no:∀ {R:List β},(∀ s∈R,p s=false)->R.filter p=[]:=λh=>List.filter_eq_nil_iff.mpr λs hs hc=>(Bool.noConfusion ((h s hs).symm.trans hc))
 induction l with
 | nil=>exact λ{i j} h=>absurd h (fy _)
 | cons x r ih=>
  intro i j h hn;rw [m8];rw [List.filter_append];rcases j with _ | j
  ·rw [no (R:=jH g (i+1) r) λs hs=> ?_,bS]; rfl;refine ag ((dU d).mp hs) λj' z1=>And.elim (λQU hs=> ?_) z1;exact hn (j'+1) (dY QU) (Nat.succ_ne_zero _) s (by rw [<-RH]; exact hs)
  ·rw [no (R:=g i x) λs hs=>hn 0 (cN _) (Nat.succ_ne_zero _).symm s hs,List.nil_append,ih (fq h) λj' QU gx s hs=>hn (j'+1) (dY QU) (λe=>gx (Nat.succ.inj e)) s (by rw [<-RH]; exact hs),RH]; rfl
theorem Ie{R:β->β->Prop}{l:List α}:∀ {i:Nat},(∀ j,j<l.length->(g (i+j) (l.getD j d)).Pairwise R)->(∀ j k,j<k->k<l.length->∀ x∈g (i+j) (l.getD j d),∀ y∈g (i+k) (l.getD k d),R x y)->(jH g i l).Pairwise R:=by
 induction l with
 | nil=>exact λ{i} Z Z=>List.Pairwise.nil
 | cons x r ih=>
  intro i h1 h2;rw [m8];refine List.pairwise_append.mpr ⟨h1 0 (cN _),ih (λj hj=> ?_) λj k JA hk a ha b hb=> ?_,λa ha b hb=> ?_⟩
  ·rw [RH]; exact h1 (j+1) (dY hj)
  ·rw [RH] at ha hb;exact h2 (j+1) (k+1) (dY JA) (dY hk) a ha b hb
  ·refine ag ((dU d).mp hb) λk z1=>And.elim (λhk hb=> ?_) z1;rw [RH] at hb;exact h2 0 (k+1) (cN _) (dY hk) a ha b hb
end
section
variable{q:Nat}
theorem um(l:Nat):∀ {num:Nat} {t:Tr l},(aC q l num t).map (λr=>(r.a,bC q r.l,r.x))=ents q l t:=by
 induction l with
 | zero=>intro num t; rcases (t:Option _)with _ | ⟨b,a,x⟩ <;> rfl
 | succ l ih=>
  intro num t;rcases (t:Option _)with _ | ⟨b,a,ch⟩
  ·rfl
  ·exact av (_::·) (DV λi x=>ih (num:=i) (t:=x))
theorem uG{g:Nat->α->List β}{f:List β->Nat}{h:α->Nat}(f0:f []=0)(fa:∀ a b,f (a++b)=f a+f b)(hh:∀ i x,f (g i x)=h x){l:List α}:∀ {i:Nat},f (jH g i l)=(l.map h).sum:=by
 induction l with
 | nil=>exact λ{i}=>f0
 | cons x r ih=>exact λ{i}=>by rw [m8]; rw [fa,hh,ih,bu,cP]
theorem Km(l:Nat):∀ {num:Nat} {t:Tr l},((aC q l num t).map (λr=>bC q r.l)).sum=dS q l t:=by
 induction l with
 | zero=>intro num t; rcases (t:Option _)with _ | ⟨b,a,x⟩ <;> rfl
 | succ l ih=>
  intro num t;rcases (t:Option _)with _ | ⟨b,a,ch⟩
  ·rfl
  ·exact cP.trans (av (bC q (l+1)+·) (uG (f:=λR=>(R.map λr:gj=>bC q r.l).sum) rfl (λa b=>by rw [iH,List.sum_append]) λi x=>ih (num:=i) (t:=x)))
theorem Dk(l:Nat):∀ {num:Nat} {t:Tr l},((aC q l num t).filter (λr=>r.l==0)).length=dH l t:=by
 induction l with
 | zero=>intro num t; rcases (t:Option _)with _ | ⟨b,a,x⟩ <;> rfl
 | succ l ih=>
  intro num t;rcases (t:Option _)with _ | ⟨b,a,ch⟩
  ·rfl
  ·exact uG (f:=λR=>(R.filter λr:gj=>r.l==0).length) rfl (λa b=>by rw [List.filter_append,aQ]) λi x=>ih (num:=i) (t:=x)
end
section
variable{q num:Nat}{s:gj}
theorem RJ(h:NO q l num r)(hs:n / q ^ r.l=r.n):n / q ^ l=num:=by rw [<-gK h.1,Nat.pow_add,<-gT,hs]; exact h.2
theorem Gf(l:Nat):∀ {num:Nat} {t:Tr l},WF q tx l t->∀ r∈aC q l num t,r.f=((aC q l num t).filter (λs=>s.l==0&&s.n / q ^ r.l==r.n)).length:=by
 induction l with
 | zero=>
  intro num t w r h;rcases (t:Option _)with _ | ⟨b,a,x⟩
  ·exact (eX h)
  ·rw [ay.mp h];have z:(num / q ^ 0==num)=true:=by rw [rF]; exact aG num
   exact (av List.length (List.filter_cons_of_pos (p:=λs:gj=>s.l==0&&s.n / q ^ 0==num) (a:=⟨0,num,b,a,1,x⟩) (l:=[]) z)).symm
 | succ l ih=>
  intro num t w r h;rcases (t:Option _)with _ | ⟨b,a,ch⟩
  ·exact (eX h)
  ·rcases aH.mp h with h | h
   ·rw [h];refine (Dk (q:=q) (l+1) (num:=num) (t:=nd b a ch)).symm.trans (av List.length (List.filter_congr λs hs=> ?_));induction e:s.l==0 using eK with
    | false=>rfl
    | true=>have:=(fv (l+1) (t:=nd b a ch) w s hs).2;rw [aD.mp e,Nat.sub_zero] at this;exact (aD.mpr this).symm
   ·refine ag ((dU (dP l)).mp h) λj z1=>And.elim (λhj h=> ?_) z1;have hw:=λ(j:Nat) (hj:j<ch.length)=>(w.2.2.2.1 _ (ee (dP l) hj)).1;have hr:=fv l (hw j hj) r h;rw [ih (hw j hj) r h];refine av List.length (Eq.symm ((DU (g:=aC q l) (dP l) (p:=λs:gj=>s.l==0&&s.n / q ^ r.l==r.n) hj λj' QU gx s hs=> ?_)));induction e:s.l==0 using eK with
    | false=>rfl
    | true=>refine Bool.and_eq_false_iff.mpr (.inr (aI.mpr λhc=>gx ?_));have h1:=RJ hr hc;have h2:=(fv l (hw j' QU) s hs).2;rw [aD.mp e,Nat.sub_zero] at h2;exact Nat.add_left_cancel (h2.symm.trans h1)
def kR(q:Nat)(r:gj):List Int:=[((r.n*q ^ r.l:Nat):Int), -(r.l:Int)]
theorem Hr:uu (kR q r) (kR q s)=true<->r.n*q ^ r.l<s.n*q ^ s.l\/(r.n*q ^ r.l=s.n*q ^ s.l/\s.l<r.l):=by
 refine ⟨λh=> ?_,λh=>h.elim (λh=>mn (cz.mpr h)) λh=>(nR (av Int.ofNat h.1)).trans (mn (Int.neg_lt_neg (cz.mpr h.2)))⟩;induction xF h with
 | lt h=>exact .inl (cz.mp h)
 | eq h h'=>
  induction xF h' with
  | lt h'=>exact .inr ⟨cx h,cz.mp (Int.neg_lt_neg_iff.mp h')⟩
  | eq _ h'=>exact (Bool.noConfusion h')
theorem sS(hq:0<q)(h:NO q l num r):num*q ^ l<=r.n*q ^ r.l/\r.n*q ^ r.l<(num+1)*q ^ l:=by
 have e:q ^ l=q ^ (l-r.l)*q ^ r.l:=by rw [<-Nat.pow_add,Nat.sub_add_cancel h.1]
 have h4:num*q ^ (l-r.l)<=r.n:=by rw [<-h.2]; exact Nat.div_mul_le_self _ _
 have h5:r.n<(num+1)*q ^ (l-r.l):=by rw [<-h.2,fj]; exact Nat.lt_mul_div_succ _ (Nat.pow_pos hq)
 rw [e,<-Nat.mul_assoc,<-Nat.mul_assoc];exact ⟨bU _ h4,Nat.mul_lt_mul_of_pos_right h5 (Nat.pow_pos hq)⟩
theorem qk(hq:0<q)(l:Nat):∀ {num:Nat} {t:Tr l},WF q tx l t->(aC q l num t).Pairwise (λr s=>uu (kR q r) (kR q s)=true):=by
 induction l with
 | zero=>
  intro num t w;rcases (t:Option _)with _ | ⟨b,a,x⟩
  ·exact List.Pairwise.nil
  ·exact List.pairwise_singleton _ _
 | succ l ih=>
  intro num t w;rcases (t:Option _)with _ | ⟨b,a,ch⟩
  ·exact List.Pairwise.nil
  ·have hw:=λ(j:Nat) (hj:j<ch.length)=>(w.2.2.2.1 _ (ee (dP l) hj)).1;refine fU.mpr ⟨λs hs=> ?_,Ie (dP l) (λj hj=>ih (hw j hj)) λj k JA hk r hr s hs=> ?_⟩
   ·refine ag ((dU (dP l)).mp hs) λj z1=>And.elim (λhj hs=> ?_) z1;have h1:=fv l (hw j hj) s hs;have h3:num*q ^ (l+1)<=(num*q+j)*q ^ l:=by rw [f7,fj (q ^ l) q,<-Nat.mul_assoc]; exact bU _ (aB _ _)
    exact Hr.mpr ((Nat.lt_or_eq_of_le (af h3 (sS hq h1).1)).imp_right λe=>⟨e,fk h1.1⟩)
   ·have h1:=(sS hq (fv l (hw j (di JA hk)) r hr)).2;have h2:=(sS hq (fv l (hw k hk) s hs)).1;exact Hr.mpr (.inl (ax h1 (af (bU _ (bf JA _)) h2)))
theorem jV(hq:0<q)(w:WF q tx l t):((aC q l num t).map λr=>(r.l,r.n)).Nodup:=
 br.mpr ((qk hq l w).imp λ{r s} h hc=>by
  have e:=cu hc;have h:=Hr.mp h;rw [e.1,e.2] at h;exact h.elim (eM _) λh=>eM _ h.2)
theorem uk(hq:0<q)(l:Nat):∀ {num:Nat} {t:Tr l},WF q tx l t->∀ r∈aC q l num t,∃ s∈aC q l num t,s.l=0/\s.n / q ^ r.l=r.n:=by
 induction l with
 | zero=>
  intro num t w r h;rcases (t:Option _)with _ | ⟨b,a,x⟩
  ·exact (eX h)
  ·refine ⟨r,h,?_⟩;rw [ay.mp h]; exact ⟨rfl,rF⟩
 | succ l ih=>
  intro num t w r h;rcases (t:Option _)with _ | ⟨b,a,ch⟩
  ·exact (eX h)
  ·rcases aH.mp h with h | h
   ·obtain ⟨n,x,⟨s,h1,h2,h3,_⟩,h4⟩:=B0 hq (l+1) (num:=num) (t:=nd b a ch) w (λe=>nn e.symm);exact ⟨s,h1,h2,by rw [h3,h]; exact h4⟩
   ·refine ag ((dU (dP l)).mp h) λj z1=>And.elim (λhj h=> ?_) z1;refine ag (ih (w.2.2.2.1 _ (ee (dP l) hj)).1 r h) λs z1=>And.elim (λh1 h2=> ?_) z1;exact ⟨s,aw _ ((dU (dP l)).mpr ⟨j,hj,h1⟩),h2⟩
theorem Gd(hq:0<q)(l:Nat):∀ {num:Nat} {t:Tr l},WF q tx l t->∀ s∈aC q l num t,s.l=0->∀ k,k<=l->∃ r∈aC q l num t,r.l=k/\r.n=s.n / q ^ k:=by
 induction l with
 | zero=>intro num t w s h h0 k hk;obtain rfl:=Nat.le_zero.mp hk;exact ⟨s,h,h0,rF.symm⟩
 | succ l ih=>
  intro num t w s h h0 k hk;have hs:=fv (l+1) w s h;rcases (t:Option _)with _ | ⟨b,a,ch⟩
  ·exact (eX h)
  ·rcases aH.mp h with h' | h'
   ·rw [h'] at h0; exact absurd h0 (Nat.succ_ne_zero l)
   ·by_cases e:k=l+1
    ·subst e;refine ⟨_,aq,rfl,?_⟩;have:=hs.2;rw [h0,Nat.sub_zero] at this; exact this.symm
    ·refine ag ((dU (dP l)).mp h') λj z1=>And.elim (λhj h'=> ?_) z1;refine ag (ih (w.2.2.2.1 _ (ee (dP l) hj)).1 s h' h0 k (d9 (ic hk e))) λr z1=>And.elim (λh1 h2=> ?_) z1;exact ⟨r,aw _ ((dU (dP l)).mpr ⟨j,hj,h1⟩),h2⟩
end
structure aeF where
 k:gr
 t:Tg
 k2:Kv
 t2:Tg
 e:Expr
def DA(k:Nat)(p r:List Nat):Option aeF:=(fn k).bind λf=>(FH f.body p).bind λs=>(Ry (Nh s) r).bind λe=>match vw f.k e with
 | .Wh sc t _ t2 ki elt=>some ⟨qd f.k sc,t,oK (qd f.k sc) ki,t2,elt⟩
 | _=>none
def lV(cf:CF)(k:Nat)(p r:List Nat)(v:V)(σ:St):Option (List V×St):=((DA k p r).map λx=>Lg bT (i7 cf (20-r.length) x.k) (i7 cf (20-r.length) x.k) x.t x.k2 x.t2 x.e v σ).getD none
def wU(cf:CF)(k:Nat)(p r:List Nat)(v:V)(σ:St):Option (List V×St):=((DA k p r).map λx=>qh bT (i7 cf (20-r.length) x.k) x.t2 [] x.e v σ).getD none
def Wg(n k:Nat)(p r:List Nat)(v:V)(σ:St):O (List V×St):=((DA k p r).map λx=>Lg eu (Og eu (ai n) (20-r.length) x.k) (i7 (ai n) (20-r.length) x.k) x.t x.k2 x.t2 x.e v σ).getD eu.fail
def Wf(n k:Nat)(p r:List Nat)(v:V)(σ:St):O (List V×St):=((DA k p r).map λx=>qh eu (Og eu (ai n) (20-r.length) x.k) x.t2 [] x.e v σ).getD eu.fail
theorem PL(n k:Nat)(p r:List Nat)(v:V)(σ:St):bg (Wg n k p r v σ) (lV (ai n) k p r v σ):=by
 unfold Wg lV;rcases DA k p r with _ | x
 ·exact bg.fail
 ·exact (bg.lift _).bx λcg=>(F4 (Nl _ _ _) _ _).bx λr=>xk λl fN=>.ask (ry (rx (Nl _ _ _) x.t2 [] x.e) l fN)
theorem aby(n k:Nat)(p r:List Nat)(v:V)(σ:St):bg (Wf n k p r v σ) (wU (ai n) k p r v σ):=by
 unfold Wf wU;rcases DA k p r with _ | x
 ·exact bg.fail
 ·exact rx (Nl _ _ _) ..
theorem jX(C:List (Option V)->Prop)(a:α->V)(r:α->List V){l:List α}(h:∀ x∈l,∀ c,C c->∃ c',C c'/\f (a x) ⟨loc,c,W⟩=some (r x,⟨loc,c',W⟩)):
  ∀ {c},C c->∃ c',C c'/\dj bT f (l.map a) ⟨loc,c,W⟩=some (l.flatMap r,⟨loc,c',W⟩):=by
 induction l with
 | nil=>exact λ{c} hc=>⟨c,hc,rfl⟩
 | cons x l ih=>intro c hc;refine ag (h x aq c hc) λc1 z1=>And.elim (λh1 e1=> ?_) z1;refine ag (ih (λx hx=>h x (aw _ hx)) h1) λc2 z1=>And.elim (λh2 e2=> ?_) z1;exact ⟨c2,h2,rN e1 e2⟩
def gO(q b8:Nat)(ns:List Nat):List (Nat×Nat):=ns.flatMap λn=>(List.range b8).map λl=>(l,n / q ^ l)
def kV(k:Nat×Nat):V:=.tup [.int k.1,.int k.2]
theorem zI(h:l<=4):jh W (.ql 0 ((l:Nat):Int) 1)=some (.ql 0 ((l:Nat):Int) 1,(List.range l).map λi:Nat=>V.int i):=by
 rcases l with _ | _ | _ | _ | _ | l
 ·rfl
 ·rfl
 ·rfl
 ·rfl
 ·rfl
 ·exact absurd h (Nat.not_le_of_lt (cR 5 l))
section
variable{a0 a1:Option LV}{x z:Option V}{q n l sp d:Int}{rs ns:List V}{cv:List (Option V)}
theorem aaN(hp:d7 .Pow (.int q) (.int l)=some (.int sp))(hd:d7 .FloorDiv (.int n) (.int sp)=some (.int d)):wU (ai m) 69 [0] [0] (.int l) ⟨[a0,a1,~~~(.int q)],[some (.int n),y],W⟩=some ([.tup [.int l,.int d]],⟨[a0,a1,~~~(.int q)],[some (.int n),some (.int l)],W⟩):=au (aby ..) [fV 1 hp,fV 0 hd] ⋯
theorem T2(hit:jh W (.ql 0 b8 1)=some (.ql 0 b8 1,xO))(e:dj bT (wU (ai m) 69 [0] [0]) xO ⟨[a0,~~~(.int b8),~~~(.int q)],[some (.int n),y],W⟩=some (rs,⟨[a0,~~~(.int b8),~~~(.int q)],cv,W⟩)):
  lV (ai m) 69 [0] [0] (.int n) ⟨[a0,~~~(.int b8),~~~(.int q)],[x,y],W⟩=some (rs,⟨[a0,~~~(.int b8),~~~(.int q)],cv,W⟩):=by
 exact au (PL ..) [fI 1 hit,fL 0 e] ⋯
theorem aaW(e:dj bT (lV (ai m) 69 [0] [0]) ns ⟨[~~~(.lst ns),~~~(.int b8),~~~(.int q)],[none,none],W⟩=some (rs,⟨[~~~(.lst ns),~~~(.int b8),~~~(.int q)],cv,W⟩))(hr:jR rs.length=true):
  ai (m+1) 69 [.lst ns,.int b8,.int q] W=some (.lst rs,W):=by
 exact au (aZ ..) [fL 1 e,fT 0 hr] ⋯
end
theorem q8{q b8:Nat}(ns:List Nat):(gO q b8 ns).length=ns.length*b8:=by
 unfold gO;induction ns with
 | nil=>exact (Nat.zero_mul _).symm
 | cons a r ih=>rw [cO,aQ,ih,ao,iP,bZ,iN,dy]
theorem w69{q b8:Nat}(hq:q=2\/q=3)(hl:b8<=4){ns:List Nat}(hn:ns.length<=1000):ai (m+1) 69 [.lst (ns.map λn:Nat=>V.int n),.int b8,.int q] W=some (.lst ((gO q b8 ns).map kV),W):=by
 have q0:0<q:=ax ∅ (q2 hq);have inn:∀ (n:Nat) (y:Option V),∃ c',(∃ y,c'=[some (V.int n),y])/\dj bT (wU (ai m) 69 [0] [0]) ((List.range b8).map λi:Nat=>V.int i) ⟨[~~~(.lst (ns.map λn:Nat=>V.int n)),~~~(.int b8),~~~(.int q)],[some (.int n),y],W⟩=
   some (((List.range b8).map λl=>(l,n / q ^ l)).map kV,⟨[~~~(.lst (ns.map λn:Nat=>V.int n)),~~~(.int b8),~~~(.int q)],c',W⟩):=λn y=>by
  rw [aU,<-gh (kV∘λl=>(l,n / q ^ l))];refine jX (λc=>∃ y,c=[some (V.int n),y]) (λi:Nat=>V.int i) _ (λl hx c ⟨y,hc⟩=>⟨_,⟨some (.int l),rfl⟩,?_⟩) ⟨y,rfl⟩;subst hc;have EL:l<=4:=bV (ax (ft.mp hx) hl);exact aaN (jB hq EL) (oS (Nat.pow_pos q0) (af (jg (q3 hq) EL) ∅))
 obtain ⟨cv,_,e⟩:=jX (f:=lV (ai m) 69 [0] [0]) (W:=W) (loc:=[~~~(.lst (ns.map λn:Nat=>V.int n)),~~~(.int b8),~~~(.int q)]) (λc=>∃ x y,c=[x,y]) (λn:Nat=>V.int n) (λn=>((List.range b8).map λl=>(l,n / q ^ l)).map kV) (l:=ns) (λn _ c ⟨x,y,hc⟩=>by
  subst hc;obtain ⟨c',⟨z,rfl⟩,e⟩:=inn n y;exact ⟨_,⟨_,_,rfl⟩,T2 (zI hl) e⟩) (c:=[none,none]) ⟨none,none,rfl⟩
 rw [<-List.map_flatMap] at e;refine aaW e (ak ?_);rw [ao,q8 ns];exact af (Nat.mul_le_mul hn hl) ∅
abbrev Wy:=Nat×Nat
section
def DM(k:Wy)(e:Wy×α):Bool:=e.1.1==k.1&&e.1.2==k.2
def iE(k:Wy)(F:List (Wy×α)):Option α:=(F.find? (DM k)).map (·.2)
def xo(k:Wy)(x:α):List (Wy×α)->List (Wy×α)
 | []=>[(k,x)]
 | e::r=>bif DM k e then(e.1,x)::r else e::xo k x r
theorem Gw{k:Wy}{x:α}{e:Wy×α}{r:List (Wy×α)}:xo k x (e::r)=bif DM k e then(e.1,x)::r else e::xo k x r:=rfl
def sx(f:α->V)(e:Wy×α):V×V:=(kV e.1,f e.2)
theorem oO{k:Wy}{e:Wy×α}:DM k e=true<->e.1=k:=by unfold DM;rw [fZ,aD,aD];exact Prod.ext_iff.symm
theorem xQ{k:Wy}{x:α}:DM k (k,x)=true:=oO.mpr rfl
theorem xM(a b:Wy):dK (kV a) (kV b)=(a.1==b.1&&a.2==b.2):=by show decide ([(a.1:Int),a.2]=[(b.1:Int),b.2])=_;rw [iJ,fZ,aD,aD,decide_eq_true_iff];exact ⟨λh=>⟨cx (cQ h).1,cx (cQ (cQ h).2).1⟩,λh=>by rw [h.1,h.2]⟩
variable{f:α->V}{k:Wy}{x:α}{F:List (Wy×α)}
theorem nZ:ju (kV k) (F.map (sx f))=true:=by show(F.map (sx f)).all _=true;rw [f9];exact aK.mpr λe Z=>rfl
theorem Wm(e:Wy×α):dK (kV e.1) (kV k)=DM k e:=xM _ _
theorem lx:ey (kV k) (F.map (sx f))=(iE k F).map f:=by
 induction F with
 | nil=>rfl
 | cons e r ih=>unfold iE;show(bif dK (kV e.1) (kV k)then some (f e.2)else ey (kV k) (r.map (sx f)))=_;rw [Wm,List.find?_cons,ih];induction DM k e <;> rfl
theorem D8:gq (kV k) (f x) (F.map (sx f))=(xo k x F).map (sx f):=by
 induction F with
 | nil=>rfl
 | cons e r ih=>show(bif dK (kV e.1) (kV k)then(kV e.1,f x)::r.map (sx f)else sx f e::gq (kV k) (f x) (r.map (sx f)))=(bif DM k e then _ else _:List _).map _;rw [Wm,ih];induction DM k e <;> rfl
abbrev NK(F:List (Wy×α)):Prop:=(F.map (·.1)).Nodup
theorem NK.no{e:Wy×α}(h:NK (e::F))(m:(k,x)∈F):DM k e=false:=eF.mpr λq=>(bj.mp h).1 (ba.mpr ⟨_,m,(oO.mp q).symm⟩)
theorem kC(h:NK F)(m:(k,x)∈F):iE k F=some x:=by
 unfold iE;induction F with
 | nil=>exact (eX m)
 | cons e r ih=>
  rw [List.find?_cons];rcases aH.mp m with q | m
  ·rw [<-q,xQ]; rfl
  ·rw [NK.no h m]; exact ih (bj.mp h).2 m
theorem rO(h:iE k F=some x):(k,x)∈F:=by
 unfold iE at h;rcases e:F.find? (DM k)with _ | y
 ·rw [e] at h; exact nn h
 ·rw [e] at h;rw [<-ae h,<-oO.mp (List.find?_some e)]; exact List.mem_of_find?_eq_some e
theorem Gu(h:∀ e∈F,e.1≠k):xo k x F=F++ [(k,x)]:=by
 induction F with
 | nil=>rfl
 | cons e r ih=>rw [Gw];refine And.elim (λh1 h2=> ?_) (ah.mp h);rw [eF.mpr λq=>h1 (oO.mp q)];exact av (e::·) (ih h2)
theorem Ds(h:NK F)(m:(k,x)∈F):xo k x F=F:=by
 induction F with
 | nil=>exact (eX m)
 | cons e r ih=>
  rw [Gw];rcases aH.mp m with q | m
  ·rw [<-q,xQ]; rfl
  ·rw [NK.no h m]; exact av (e::·) (ih (bj.mp h).2 m)
end
theorem Pd(a b:Wy):zj (kV a) (kV b)=some (decide (a=b)):=by show some (((a.1:Int)==(b.1:Int))&&(((a.2:Int)==(b.2:Int))&&true))=_;refine av some (iJ.mpr ?_);rw [Bool.and_true,fZ,aD,aD,decide_eq_true_iff];exact ⟨λh=>Prod.ext (cx h.1) (cx h.2),λh=>by rw [h]; exact ⟨rfl,rfl⟩⟩
theorem QH(k:Wy)(ks:List Wy):Lx (kV k) (ks.map kV)=some (decide (k∈ks)):=by
 induction ks with
 | nil=>rfl
 | cons a r ih=>show(zj (kV a) (kV k)).bind (λb=>(Lx (kV k) (r.map kV)).map (b||·))=_;rw [Pd,ih];refine av some (iJ.mpr ?_);rw [Bool.or_eq_true,decide_eq_true_iff,decide_eq_true_iff,decide_eq_true_iff,aH];exact or_congr eq_comm Iff.rfl
abbrev Bt:=Wy×Nat
variable{Bi:List Bt}
abbrev lu:Bt->V×V:=sx λb:Nat=>V.int b
structure BV(W:List aV)(bv:V)(Bi:List Bt):Prop where
 ni:∀ k,iA W .NotIn (kV k) bv=some (iE k Bi).isNone
 get:∀ {k b},iE k Bi=some b->lR W bv (kV k)=some (.int (b:Nat))
theorem BV.df(W:List aV)(Bi:List Bt):BV W (.df (Bi.map lu)) Bi:=by
 refine ⟨λk=> ?_,λ{k b} h=>sE nZ ?_⟩
 ·show(iv (ju (kV k) (Bi.map lu)) (ey (kV k) (Bi.map lu)).isSome).map (!·)=_;rw [gv nZ,lx];rcases iE k Bi with _ | _ <;> rfl
 ·rw [lx,h]; rfl
theorem BV.glob(h:W[n]? =some (.dict [])):BV W (.glob n) []:=by refine ⟨λk=> ?_,λh=>nn h⟩;show((eJ W n).bind (inD (kV k))).map (!·)=_;unfold eJ;rw [h]; rfl
structure A8(val:Wy->Nat)(ks:List Wy)(F:List Bt):Prop where
 nd:NK F
 mem:∀ k v,(k,v)∈F<->k∈ks/\v=val k
 len:F.length<=ks.length
theorem A8.nil(val:Wy->Nat):A8 val [] []:=⟨dR,λk v=>⟨(λh=>(eX h)),λh=>(eX (h.1))⟩,aA 0⟩
theorem A8.put{val:Wy->Nat}{ks:List Wy}{F:List Bt}(s:A8 val ks F)(k:Wy):A8 val (ks++ [k]) (xo k (val k) F):=by
 have l1:ks.length<=(ks++ [k]).length:=by rw [aQ]; exact aB _ _
 by_cases h:k∈ks
 ·rw [Ds s.nd ((s.mem k _).mpr ⟨h,rfl⟩)];refine ⟨s.nd,λk' v=> ?_,af s.len l1⟩;rw [s.mem,List.mem_append,ay];exact ⟨λa=>⟨.inl a.1,a.2⟩,λa=>⟨a.1.elim id λe=>e▸h,a.2⟩⟩
 ·have hn:∀ e∈F,e.1≠k:=λe he hc=>h (hc▸((s.mem e.1 e.2).mp he).1);rw [Gu hn];refine ⟨?_,λk' v=> ?_,by rw [aQ,aQ]; exact cC s.len⟩
  ·show(List.map (·.1) (F++ [(k,val k)])).Nodup;rw [iH,List.nodup_append];refine ⟨s.nd,bj.mpr ⟨(λh=>(eX h)),dR⟩,λa ha b hb=> ?_⟩;refine ag (ba.mp ha) λe z1=>And.elim (λhe z2=> ?_) z1;obtain rfl:=z2;rw [ay.mp hb]; exact hn e he
  ·rw [List.mem_append,List.mem_append,s.mem,ay,ay,Prod.mk.injEq];refine ⟨λa=>a.elim (λa=>⟨.inl a.1,a.2⟩) λa=>⟨.inr a.1,by rw [a.1]; exact a.2⟩,λa=>a.1.elim (λe=>.inl ⟨e,a.2⟩) λe=>.inr ⟨e,by rw [<-e]; exact a.2⟩⟩
abbrev md(q:Int)(bv:V)(mo b8:Int):aV:=.sd [0,1,2,3,4] [.int q,.glob 7,bv,.int mo,.int b8]
abbrev lW(E:WE)(h:HS)(x7:aV)(q:Int)(bv:V)(mo b8:Int):List aV:=bM {E with w7:=x7,w9:=md q bv mo b8} h []
abbrev sL(ts:V)(tx:Int)(x3 x4 x5 x6:Option LV):List (Option LV):=[~~~(.glob 9),~~~ts,~~~(.int tx),x3,x4,x5,x6]
section
variable{q tx b:Int}{bv K:V}{TS ks ns:List V}{FD FD':List (V×V)}{x4 x5 y5 y6:Option LV}
section
variable(hg:(ju K FD&&gS FD)=true)
include hg
theorem abt(h1:iA (lW E h x7 q bv mo b8) .In K (.lst TS)=some true):cj (ai m) 70 [1,0] K ⟨sL (.lst TS) tx (some (.od FD)) x4 x5 x6,[],lW E h x7 q bv mo b8⟩=some (.ez,⟨sL (.lst TS) tx (some (.od (gq K (.int tx) FD))) x4 x5 (~~~K),[],lW E h x7 q bv mo b8⟩):=au (fH ..) [fB 0 h1,fT 2 hg] ⋯
variable(h1:iA (lW E h x7 q bv mo b8) .In K (.lst TS)=some false)
include h1
theorem Va(h2:iA (lW E h x7 q bv mo b8) .NotIn K bv=some true):cj (ai m) 70 [1,0] K ⟨sL (.lst TS) tx (some (.od FD)) x4 x5 x6,[],lW E h x7 q bv mo b8⟩=some (.ez,⟨sL (.lst TS) tx (some (.od (gq K (.int tx) FD))) x4 x5 (~~~K),[],lW E h x7 q bv mo b8⟩):=au (fH ..) [fB 0 h1,fB 2 h2,fT 2 hg] ⋯
theorem U9(h2:iA (lW E h x7 q bv mo b8) .NotIn K bv=some false)(h3:lR (lW E h x7 q bv mo b8) bv K=some (.int b)):cj (ai m) 70 [1,0] K ⟨sL (.lst TS) tx (some (.od FD)) x4 x5 x6,[],lW E h x7 q bv mo b8⟩=some (.ez,⟨sL (.lst TS) tx (some (.od (gq K (.int b) FD))) x4 x5 (~~~K),[],lW E h x7 q bv mo b8⟩):=au (fH ..) [fB 0 h1,fB 2 h2,fV 3 h3,fT 0 hg] ⋯
end
theorem Ke (Q6:ai m 69 [.lst [v],.int b8,.int q] (lW E h x7 q bv mo b8)=some (.lst ks,lW E h x7 q bv mo b8))
  (hl:dO bT (cj (ai m) 70 [1,0]) ks ⟨sL (.lst TS) tx (some (.od FD)) (~~~(.int q)) (~~~v) x6,[],lW E h x7 q bv mo b8⟩=some (.ez,⟨sL (.lst TS) tx (some (.od FD')) (~~~(.int q)) (~~~v) y6,[],lW E h x7 q bv mo b8⟩)):
  cj (ai m) 70 [1] v ⟨sL (.lst TS) tx (some (.od FD)) (~~~(.int q)) x5 x6,[],lW E h x7 q bv mo b8⟩=some (.ez,⟨sL (.lst TS) tx (some (.od FD')) (~~~(.int q)) (~~~v) y6,[],lW E h x7 q bv mo b8⟩):=by
 exact au (fH ..) [fC 1 Q6,fO 1 hl] ⋯
theorem aaV(hl:dO bT (cj (ai m) 70 [1]) (D.map (·.1)) ⟨sL (.lst TS) tx (some (.od [])) (~~~(.int q)) none none,[],lW E h .dead q bv mo b8⟩=some (.ez,⟨sL (.lst TS) tx (some (.od FD')) (~~~(.int q)) y5 y6,[],lW E h .dead q bv mo b8⟩)):
  ai (m+1) 70 [.glob 9,.lst TS,.int tx] (lW E h (.dict D) q bv mo b8)=some (.none,lW E h (.dict D) q (.df FD') mo b8):=by
 exact au (aZ ..) [fO 3 hl] ⋯
end
def pD(tx:Nat)(ts:List Wy)(Bi:List Bt)(k:Wy):Nat:=bif decide (k∈ts)then tx else(iE k Bi).getD tx
section
variable{q b8:Nat}{bv:V}{ts:List Wy}{x4 x5:Option LV}(hb:BV (lW E h x7 q bv mo b8) bv Bi)
include hb
theorem PH{k:Wy}{F:List Bt}(hF:F.length<100000):
  cj (ai m) 70 [1,0] (kV k) ⟨sL (.lst (ts.map kV)) tx (some (.od (F.map lu))) x4 x5 x6,[],lW E h x7 q bv mo b8⟩=some (.ez,⟨sL (.lst (ts.map kV)) tx (some (.od ((xo k (pD tx ts Bi k) F).map lu))) x4 x5 (~~~(kV k)),[],lW E h x7 q bv mo b8⟩):=by
 have hg:(ju (kV k) (F.map lu)&&gS (F.map lu))=true:=dk nZ (ak (by rw [ao]; exact hF));have h1:iA (lW E h x7 q bv mo b8) .In (kV k) (.lst (ts.map kV))=some (decide (k∈ts)):=QH k ts;have h2:=hb.ni k;unfold pD;rw [<-D8 (f:=λb:Nat=>V.int b)];induction a:decide (k∈ts)using eK with
 | true=>rw [a] at h1; exact abt hg h1
 | false=>
  rw [a] at h1;rcases e:iE k Bi with _ | b
  ·rw [e] at h2; exact Va hg h1 h2
  ·rw [e] at h2; exact U9 hg h1 h2 (hb.get e)
theorem PJ(kl:List Wy):∀ {dn:List Wy} {F:List Bt} {x6:Option LV},A8 (pD tx ts Bi) dn F->dn.length+kl.length<100000->
  ∃ F' y6,dO bT (cj (ai m) 70 [1,0]) (kl.map kV) ⟨sL (.lst (ts.map kV)) tx (some (.od (F.map lu))) x4 x5 x6,[],lW E h x7 q bv mo b8⟩=some (.ez,⟨sL (.lst (ts.map kV)) tx (some (.od (F'.map lu))) x4 x5 y6,[],lW E h x7 q bv mo b8⟩)/\A8 (pD tx ts Bi) (dn++kl) F':=by
 induction kl with
 | nil=>exact λ{dn F x6} s Z=>⟨F,x6,rfl,by rw [bS]; exact s⟩
 | cons k r ih=>intro dn F x6 s hl;refine ag (ih (x6:= ~~~(kV k)) (s.put k) (by rw [aQ,bP,dy [k].length]; exact hl)) λF' z1=>ag z1 λy6 z2=>And.elim (λe s'=> ?_) z2;exact ⟨F',y6,gk (PH hb (az (af s.len (aB _ _)) hl)) e,by rw [cw] at s'; exact s'⟩
variable(hq:q=2\/q=3)(wJ:b8<=4)
include hq wJ
theorem Kf(ns:List Nat):∀ {dn:List Nat} {F:List Bt} {x5 x6:Option LV},A8 (pD tx ts Bi) (gO q b8 dn) F->dn.length+ns.length<=1000->
  ∃ F' y5 y6,dO bT (cj (ai (m+1)) 70 [1]) (ns.map λn:Nat=>V.int n) ⟨sL (.lst (ts.map kV)) tx (some (.od (F.map lu))) (~~~(.int q)) x5 x6,[],lW E h x7 q bv mo b8⟩=
   some (.ez,⟨sL (.lst (ts.map kV)) tx (some (.od (F'.map lu))) (~~~(.int q)) y5 y6,[],lW E h x7 q bv mo b8⟩)/\A8 (pD tx ts Bi) (gO q b8 (dn++ns)) F':=by
 induction ns with
 | nil=>exact λ{dn F x5 x6} s Z=>⟨F,x5,x6,rfl,by rw [bS]; exact s⟩
 | cons n r ih=>
  intro dn F x5 x6 s hl;have Q6:=w69 (m:=m) (W:=lW E h x7 q bv mo b8) hq wJ (ns:=[n]) (bH rfl);have Z5:dn.length+1<=1000:=af (bf (cC (bw _)) _) hl;obtain ⟨F1,y6,e1,s1⟩:=PJ (m:=m+1) (x4:= ~~~(.int q)) (x5:= ~~~(.int n)) (x6:=x6) hb (gO q b8 [n]) s (by
   rw [q8,q8,<-Nat.add_mul];exact az (Nat.mul_le_mul Z5 wJ) ∅)
  have s2:A8 (pD tx ts Bi) (gO q b8 (dn++ [n])) F1:=by unfold gO at*; rw [List.flatMap_append]; exact s1
  obtain ⟨F',z5,z6,e,s'⟩:=ih (x5:= ~~~(.int n)) (x6:=y6) s2 (by rw [aQ,bP,dy [n].length]; exact hl);exact ⟨F',z5,z6,gk (Ke Q6 e1) e,by rw [cw] at s'; exact s'⟩
end
theorem w70{q b8:Nat}{bv:V}{ts:List Wy}(hb:BV (lW E h .dead q bv mo b8) bv Bi)(hq:q=2\/q=3)(wJ:b8<=4)(hB:B.length<=1000):
  ∃ F,ai (m+2) 70 [.glob 9,.lst (ts.map kV),.int tx] (lW E h (.dict (B.map bE)) q bv mo b8)=some (.none,lW E h (.dict (B.map bE)) q (.df (F.map lu)) mo b8)/\A8 (pD tx ts Bi) (gO q b8 (B.map (·.1))) F:=by
 refine ag (Kf (m:=m) (ts:=ts) (tx:=tx) (x5:=none) (x6:=none) hb hq wJ (B.map (·.1)) (dn:=[]) (F:=[]) (A8.nil _) (by rw [ao,List.length_nil,bF]; exact hB)) λF z1=>ag z1 λy5 z2=>ag z2 λy6 z3=>And.elim (λe s=> ?_) z3;rw [aU] at e;exact ⟨F,aaV (by rw [aU]; exact e),s⟩
def nM(n:Nat)(x:By):List (Nat×By)->List (Nat×By)
 | []=>[(n,x)]
 | e::r=>bif e.1==n then(e.1,x)::r else e::nM n x r
theorem zT{e:Nat×By}{r:List (Nat×By)}:nM n x (e::r)=bif e.1==n then(e.1,x)::r else e::nM n x r:=rfl
def qH(n:Nat):List (Nat×By)->List (Nat×By)
 | []=>[]
 | e::r=>bif e.1==n then r else e::qH n r
theorem Iy{e:Nat×By}{r:List (Nat×By)}:qH n (e::r)=bif e.1==n then r else e::qH n r:=rfl
section
variable{y:By}
theorem p9:gq (.int n) (.bytes x) (M.map bE)=(nM n x M).map bE:=by
 induction M with
 | nil=>rfl
 | cons e r ih=>show(bif dK (.int e.1) (.int n)then(V.int e.1,V.bytes x)::r.map bE else bE e::gq (.int n) (.bytes x) (r.map bE))=(bif e.1==n then _ else _:List _).map _;rw [mY,ih];induction e.1==n <;> rfl
theorem Ec:kI (.int n) (M.map bE)=(qH n M).map bE:=by
 induction M with
 | nil=>rfl
 | cons e r ih=>show(bif dK (.int e.1) (.int n)then r.map bE else bE e::kI (.int n) (r.map bE))=(bif e.1==n then _ else _:List _).map _;rw [mY,ih];induction e.1==n <;> rfl
theorem oJ(e:Nat×By):cK (e::M) k=bif e.1==k then some e.2 else cK M k:=rfl
theorem jS:n∈M.map (·.1)<->∃ x,cK M n=some x:=by
 refine ⟨λh=> ?_,λ⟨x,h⟩=>ba.mpr ⟨_,fA h,rfl⟩⟩;rcases e:cK M n with _ | x
 ·refine ag (ba.mp h) λy z1=>And.elim (λhy h=> ?_) z1;exact absurd h (Ag e y hy)
 ·exact ⟨x,rfl⟩
theorem xG(h:n ∉ M.map (·.1)):cK M n=none:=by
 rcases e:cK M n with _ | x
 ·rfl
 ·exact absurd (jS.mpr ⟨x,e⟩) h
theorem mR:cK (nM n x M) k=bif n==k then some x else cK M k:=by
 induction M with
 | nil=>rfl
 | cons e r ih=>
  rw [zT];induction h:e.1==n using eK with
  | true=>rw [show(bif true then(e.1,x)::r else e::nM n x r)=(e.1,x)::r from rfl,oJ,oJ,<-aD.mp h];induction e.1==k <;> rfl
  | false=>
   show(bif e.1==k then some e.2 else cK (nM n x r) k)=_;rw [oJ,ih];induction h1:e.1==k using eK with
   | false=>rfl
   | true=>rw [aI.mpr λhc=>aI.mp h ((aD.mp h1).trans hc.symm)]; rfl
theorem vx(h:KN M):KN (nM n x M):=by
 induction M with
 | nil=>exact bj.mpr ⟨(λh=>(eX h)),dR⟩
 | cons e r ih=>
  have h':=bj.mp h;rw [zT];induction hc:e.1==n using eK with
  | true=>exact h
  | false=>refine bj.mpr ⟨λhm=> ?_,ih h'.2⟩;refine ag (jS.mp hm) λy hy=> ?_;rw [mR,aI.mpr λq=>aI.mp hc q.symm] at hy;exact h'.1 (jS.mpr ⟨y,hy⟩)
theorem rD:(nM n x M).length<=M.length+1:=by
 induction M with
 | nil=>exact aA _
 | cons e r ih=>
  rw [zT];induction e.1==n
  ·exact cC ih
  ·exact da _
theorem yy:(qH n M).Sublist M:=by
 induction M with
 | nil=>exact List.Sublist.refl _
 | cons e r ih=>
  rw [Iy];induction e.1==n
  ·exact ih.cons_cons e
  ·exact List.sublist_cons_self _ _
theorem Mc(h:KN M):KN (qH n M):=(yy.map _).nodup h
theorem D6(h:KN M):cK (qH n M) k=bif n==k then none else cK M k:=by
 induction M with
 | nil=>unfold qH; induction n==k <;> rfl
 | cons e r ih=>
  have h':=bj.mp h;rw [Iy];induction hc:e.1==n using eK with
  | true=>
   show cK r k=_;rw [oJ,<-aD.mp hc];induction h1:e.1==k using eK with
   | false=>rfl
   | true=>rw [<-aD.mp h1]; exact xG h'.1
  | false=>
   show(bif e.1==k then some e.2 else cK (qH n r) k)=_;rw [oJ,ih h'.2];induction h1:e.1==k using eK with
   | false=>rfl
   | true=>rw [aI.mpr λq=>aI.mp hc ((aD.mp h1).trans q.symm)]; rfl
end
def j5(n:Nat)(x:By)(M:List (Nat×By)):List (Nat×By):=bif jF x then nM n x M else qH n M
theorem rm(h:KN M):KN (j5 n x M):=by
 unfold j5;induction jF x
 ·exact Mc h
 ·exact vx h
theorem uf:(j5 n x M).length<=M.length+1:=by
 unfold j5;induction jF x
 ·exact bz yy.length_le
 ·exact rD
theorem rl(h:KN M):cK (j5 n x M) k=bif n==k then(bif jF x then some x else none)else cK M k:=by
 unfold j5;induction jF x
 ·exact D6 h
 ·exact mR
def vb(g:Nat->By)(ns:List Nat)(M:List (Nat×By)):List (Nat×By):=ns.foldl (λM n=>j5 n (g n) M) M
section
variable{g:Nat->By}{ns:List Nat}
theorem Bj:∀ {M:List (Nat×By)},(vb g ns M).length<=M.length+ns.length:=by
 induction ns with
 | nil=>exact λ{M}=>aA _
 | cons n r ih=>exact λ{M}=>af (ih (M:=j5 n (g n) M)) (by rw [bZ,<-bP,Nat.add_right_comm]; exact bG uf _)
theorem EW:∀ {M:List (Nat×By)},KN M->KN (vb g ns M):=by
 induction ns with
 | nil=>exact λ{M} h=>h
 | cons n r ih=>exact λ{M} h=>ih (rm h)
theorem q4:∀ {M:List (Nat×By)},KN M->cK (vb g ns M) k=bif decide (k∈ns)then(bif jF (g k)then some (g k)else none)else cK M k:=by
 induction ns with
 | nil=>exact λ{M} h=>rfl
 | cons n r ih=>
  intro M h;show cK (vb g r (j5 n (g n) M)) k=_;rw [ih (rm h),rl h];by_cases h1:k∈r
  ·rw [ak h1,ak (aw n h1)]; rfl
  ·by_cases h2:n=k
   ·rw [aT h1,h2,aG,ak (aq (a:=k) (l:=r))]; rfl
   ·rw [aT h1,aI.mpr h2,aT λhm=>(aH.mp hm).elim (λe=>h2 e.symm) h1]; rfl
end
section
abbrev vL(x1 x2 x3 x4:Option LV):List (Option LV):=[~~~(.glob 9),x1,x2,x3,x4]
variable{q tx n f tm lv':Int}{bv F:V}{MD u7:List (V×V)}{ws ks:List V}{y:By}{c:Option V}{x1 x2 x3 x4 y3:Option LV}
section
variable(h1:lR (lW E h (.dict MD) q bv mo b8) (.df D) (.int n)=some (.bytes x))
include h1
theorem YF(ha:jF x=true):cD (ai m) 71 [0] [0] (.int n) ⟨vL (~~~(.df D)) x2 x3 x4,[c],lW E h (.dict MD) q bv mo b8⟩=some ([.int n],⟨vL (~~~(.df D)) x2 x3 x4,[some (.int n)],lW E h (.dict MD) q bv mo b8⟩):=au (qB ..) [fV 0 h1,fT 1 ha] ⋯
section
variable(ha:jF x=false)
include ha
theorem aeg(hm:iA (lW E h (.dict MD) q bv mo b8) .In (.int n) (.glob 7)=some true):cD (ai m) 71 [0] [0] (.int n) ⟨vL (~~~(.df D)) x2 x3 x4,[c],lW E h (.dict MD) q bv mo b8⟩=some ([.int n],⟨vL (~~~(.df D)) x2 x3 x4,[some (.int n)],lW E h (.dict MD) q bv mo b8⟩):=au (qB ..) [fV 0 h1,fF 1 ha,fB 1 hm] ⋯
theorem YE(hm:iA (lW E h (.dict MD) q bv mo b8) .In (.int n) (.glob 7)=some false):cD (ai m) 71 [0] [0] (.int n) ⟨vL (~~~(.df D)) x2 x3 x4,[c],lW E h (.dict MD) q bv mo b8⟩=some ([],⟨vL (~~~(.df D)) x2 x3 x4,[some (.int n)],lW E h (.dict MD) q bv mo b8⟩):=au (qB ..) [fV 0 h1,fF 1 ha,fB 1 hm] ⋯
theorem O0(hp:CQ (lW E h (.dict MD) q bv mo b8) (.glob 7) 56 [.int n]=some (.bytes y,lW E h (.dict u7) q bv mo b8)):
  cj (ai m) 71 [3] (.int n) ⟨vL (~~~(.df D)) x2 x3 x4,[],lW E h (.dict MD) q bv mo b8⟩=some (.ez,⟨vL (~~~(.df D)) x2 (~~~(.int n)) x4,[],lW E h (.dict u7) q bv mo b8⟩):=by
 exact au (fH ..) [fV 0 h1,fF 1 ha,fC 1 hp] ⋯
end
theorem OZ(ha:jF x=true)(hs:Dh (lW E h (.dict MD) q bv mo b8) (.glob 7) (.int n) (.bytes x)=some (lW E h (.dict u7) q bv mo b8)):
  cj (ai m) 71 [3] (.int n) ⟨vL (~~~(.df D)) x2 x3 x4,[],lW E h (.dict MD) q bv mo b8⟩=some (.ez,⟨vL (~~~(.df D)) x2 (~~~(.int n)) x4,[],lW E h (.dict u7) q bv mo b8⟩):=by
 exact au (fH ..) [fV 0 h1,fT 1 ha,fV 0 h1,fW 1 hs] ⋯
end
theorem aaU (hc:dj bT (cD (ai m) 71 [0] [0]) (D.map (·.1)) ⟨vL (~~~(.df D)) (~~~(.int tx)) none none,[none],lW E h (.dict MD) q bv mo b8⟩=some (cs,⟨vL (~~~(.df D)) (~~~(.int tx)) none none,[c],lW E h (.dict MD) q bv mo b8⟩))
  (pZ:jR cs.length=true) (hkl:d7 .Add (.lst [.int mo]) (.lst (D.map (·.1)))=some (.lst (.int mo::D.map (·.1)))) (Cg:jN (lW E h (.dict MD) q bv mo b8) 5 [.lst (.int mo::D.map (·.1))]=some (.int kB))
  (LD:ai m 68 [.int kB,.int q] (lW E h (.dict MD) q bv kB b8)=some (.int tm,lW E h (.dict MD) q bv kB b8)) (wJ:jN (lW E h (.dict MD) q bv kB b8) 5 [.int b8,.int tm]=some (.int lv'))
  (hl:dO bT (cj (ai m) 71 [3]) cs ⟨vL (~~~(.df D)) (~~~(.int tx)) none (~~~(.lst cs)),[],lW E h (.dict MD) q bv kB lv'⟩=some (.ez,⟨vL (~~~(.df D)) (~~~(.int tx)) y3 (~~~(.lst cs)),[],lW E h (.dict u7) q bv kB lv'⟩))
  (Q6:ai m 69 [.lst cs,.int lv',.int q] (lW E h (.dict u7) q bv kB lv')=some (.lst ws,lW E h (.dict u7) q bv kB lv')) (h70:ai m 70 [.glob 9,.lst ws,.int tx] (lW E h (.dict u7) q bv kB lv')=some (.none,lW E h (.dict u7) q F kB lv')):
  ai (m+1) 71 [.glob 9,.df D,.int tx] (lW E h (.dict MD) q bv mo b8)=some (.none,lW E h (.dict u7) q F kB lv'):=by
 exact au (aZ ..) [fL 1 hc,fT 0 pZ,fV 2 hkl,fV 0 Cg,fC 4 LD,fV 0 wJ,fO 2 hl,fC 2 Q6,fC 0 h70] ⋯
theorem Mi(hp:CQ (lW E h (.dict MD) q bv mo b8) (.glob 7) 56 [.int n]=some (.bytes y,lW E h (.dict u7) q bv mo b8)):
  cj (ai m) 72 [2] (.int n) ⟨vL x1 x2 x3 x4,[],lW E h (.dict MD) q bv mo b8⟩=some (.ez,⟨vL x1 x2 (~~~(.int n)) x4,[],lW E h (.dict u7) q bv mo b8⟩):=by
 exact au (fH ..) [fC 1 hp] ⋯
theorem adB(h0:decide (f<=n)=true):cD (ai m) 72 [1] [0] (.int n) ⟨vL (~~~(.int f)) x2 x3 x4,[c],lW E h x7 q bv mo b8⟩=some ([.int n],⟨vL (~~~(.int f)) x2 x3 x4,[some (.int n)],lW E h x7 q bv mo b8⟩):=au (qB ..) [fT 1 h0] ⋯
theorem XR(h0:decide (f<=n)=false):cD (ai m) 72 [1] [0] (.int n) ⟨vL (~~~(.int f)) x2 x3 x4,[c],lW E h x7 q bv mo b8⟩=some ([],⟨vL (~~~(.int f)) x2 x3 x4,[some (.int n)],lW E h x7 q bv mo b8⟩):=au (qB ..) [fF 1 h0] ⋯
theorem O3(h0:decide (mo<f)=true):ai (m+1) 72 [.glob 9,.int f,.int tx] (lW E h x7 q bv mo b8)=some (.none,lW E h x7 q bv mo b8):=au (aZ ..) [fT 2 h0] ⋯
theorem aaT (h0:decide (mo<f)=false) (hc:dj bT (cD (ai m) 72 [1] [0]) (MD.map (·.1)) ⟨vL (~~~(.int f)) (~~~(.int tx)) none none,[none],lW E h .dead q bv mo b8⟩=some (cs,⟨vL (~~~(.int f)) (~~~(.int tx)) none none,[c],lW E h .dead q bv mo b8⟩))
  (pZ:jR cs.length=true)
  (hl:dO bT (cj (ai m) 72 [2]) cs ⟨vL (~~~(.int f)) (~~~(.int tx)) none (~~~(.lst cs)),[],lW E h (.dict MD) q bv mo b8⟩=some (.ez,⟨vL (~~~(.int f)) (~~~(.int tx)) y3 (~~~(.lst cs)),[],lW E h (.dict u7) q bv mo b8⟩))
  (LD:ai m 68 [.int (f-1),.int q] (lW E h (.dict u7) q bv (f-1) b8)=some (.int tm,lW E h (.dict u7) q bv (f-1) b8))
  (Q6:ai m 69 [.lst cs,.int tm,.int q] (lW E h (.dict u7) q bv (f-1) tm)=some (.lst ws,lW E h (.dict u7) q bv (f-1) tm)) (h70:ai m 70 [.glob 9,.lst ws,.int tx] (lW E h (.dict u7) q bv (f-1) tm)=some (.none,lW E h (.dict u7) q F (f-1) tm)):
  ai (m+1) 72 [.glob 9,.int f,.int tx] (lW E h (.dict MD) q bv mo b8)=some (.none,lW E h (.dict u7) q F (f-1) tm):=by
 exact au (aZ ..) [fF 1 h0,fL 3 hc,fT 0 pZ,fO 1 hl,fC 4 LD,fC 3 Q6,fC 0 h70] ⋯
end
theorem qV{p:α->Bool}{a:α->β}{l:List α}:(l.flatMap λe=>bif p e then [a e] else [])=(l.filter p).map a:=by
 induction l with
 | nil=>rfl
 | cons b r ih=>rw [cO,ih,List.filter_cons];induction p b <;> rfl
def kM(B M:List (Nat×By)):List Nat:=(B.filter λe=>jF e.2||(cK M e.1).isSome).map (·.1)
def hJ(f:Nat)(M:List (Nat×By)):List Nat:=(M.filter λe=>decide (f<=e.1)).map (·.1)
def gW(B:List (Nat×By))(n:Nat):By:=(cK B n).getD []
section
variable{q:Int}{bv:V}{x0 x1 x2 x3 x4:Option LV}{f:Nat}{y:By}
theorem IV(hB:KN B):∃ c,dj bT (cD (ai m) 71 [0] [0]) ((B.map bE).map (·.1)) ⟨vL (~~~(.df (B.map bE))) x2 x3 x4,[none],lW E h (.dict (M.map bE)) q bv mo b8⟩=
  some ((kM B M).map (λn:Nat=>V.int n),⟨vL (~~~(.df (B.map bE))) x2 x3 x4,[c],lW E h (.dict (M.map bE)) q bv mo b8⟩):=by
 unfold kM;rw [aU,aU,<-qV];refine gQ (λe:Nat×By=>V.int e.1) _ (λe he c=> ?_) none;have h1:=m7 (W:=lW E h (.dict (M.map bE)) q bv mo b8) hB he;have hm:iA (lW E h (.dict (M.map bE)) q bv mo b8) .In (.int e.1) (.glob 7)=some (cK M e.1).isSome:=by show iv (ju (.int e.1) (M.map bE)) (ey (.int e.1) (M.map bE)).isSome=_;rw [gv (jZ _),ly];rcases cK M e.1 with _ | _ <;> rfl
 induction ha:jF e.2 using eK with
 | true=>exact YF h1 ha
 | false=>
  rcases e2:cK M e.1 with _ | z
  ·rw [e2] at hm; exact YE h1 ha hm
  ·rw [e2] at hm; exact aeg h1 ha hm
theorem DR:∃ c,dj bT (cD (ai m) 72 [1] [0]) ((M.map bE).map (·.1)) ⟨vL (~~~(.int f)) x2 x3 x4,[none],lW E h x7 q bv mo b8⟩=
  some ((hJ f M).map (λn:Nat=>V.int n),⟨vL (~~~(.int f)) x2 x3 x4,[c],lW E h x7 q bv mo b8⟩):=by
 unfold hJ;rw [aU,aU,<-qV];refine gQ (λe:Nat×By=>V.int e.1) _ (λe he c=> ?_) none;have h4:decide ((f:Int)<=(e.1:Int))=decide (f<=e.1):=decide_eq_decide.mpr cG;induction ha:decide (f<=e.1)using eK with
 | true=>exact adB (h4.trans ha)
 | false=>exact XR (h4.trans ha)
theorem FK(hl:M.length<100000):gS (M.map bE)=true:=ak (by rw [ao]; exact hl)
theorem Nq(hl:M.length<100000)(hy:cK M n=some y):CQ (lW E h (.dict (M.map bE)) q bv mo b8) (.glob 7) 56 [.int n]=some (.bytes y,lW E h (.dict ((qH n M).map bE)) q bv mo b8):=by rw [<-Ec];exact GA rfl (jZ _) (FK hl) (by rw [ly,hy]; rfl)
theorem JQ(hB:KN B)(hl:M.length<100000)(hx:cK B n=some x)(hc:jF x=true\/∃ y,cK M n=some y):
  cj (ai m) 71 [3] (.int n) ⟨vL (~~~(.df (B.map bE))) x2 x3 x4,[],lW E h (.dict (M.map bE)) q bv mo b8⟩=some (.ez,⟨vL (~~~(.df (B.map bE))) x2 (~~~(.int n)) x4,[],lW E h (.dict ((j5 n (gW B n) M).map bE)) q bv mo b8⟩):=by
 have h1:=m7 (W:=lW E h (.dict (M.map bE)) q bv mo b8) hB (fA hx);unfold j5 gW;rw [hx];show _=some (Out.ez,(⟨_,_,lW E h (.dict ((bif jF x then nM n x M else qH n M).map bE)) q bv mo b8⟩:St));induction ha:jF x using eK with
 | true=>refine OZ h1 ha ?_;show _=some (lW E h (.dict ((nM n x M).map bE)) q bv mo b8);rw [<-p9];exact vp rfl (jZ _) (FK hl)
 | false=>refine ag (hc.resolve_left λq=>(Bool.noConfusion (ha.symm.trans q))) λy hy=> ?_;exact O0 h1 ha (Nq hl hy)
theorem IE(hl:M.length<100000)(hc:jF []=true\/∃ y,cK M n=some y):
  cj (ai m) 72 [2] (.int n) ⟨vL x1 x2 x3 x4,[],lW E h (.dict (M.map bE)) q bv mo b8⟩=some (.ez,⟨vL x1 x2 (~~~(.int n)) x4,[],lW E h (.dict ((j5 n [] M).map bE)) q bv mo b8⟩):=by
 refine ag (hc.resolve_left λq=>Bool.noConfusion q) λy hy=> ?_;exact Mi (Nq hl hy)
end
theorem Bx {f:V->St->Option (Out×St)} {g:Nat->By} {loc:Option LV->List (Option LV)} {mk:List (V×V)->List aV} {P:Nat->Prop}
  (ht:∀ {n M x3},M.length<100000->P n->(jF (g n)=true\/∃ y,cK M n=some y)->f (.int (n:Nat)) ⟨loc x3,[],mk (M.map bE)⟩=some (.ez,⟨loc (~~~(.int (n:Nat))),[],mk ((j5 n (g n) M).map bE)⟩)) (ns:List Nat):
  ∀ {M x3},KN M->M.length+ns.length<100000->ns.Nodup->(∀ n∈ns,P n/\(jF (g n)=true\/∃ y,cK M n=some y))->∃ y3,dO bT f (ns.map λn:Nat=>V.int n) ⟨loc x3,[],mk (M.map bE)⟩=some (.ez,⟨loc y3,[],mk ((vb g ns M).map bE)⟩):=by
 induction ns with
 | nil=>exact λ{M x3} Z Z Z Z=>⟨x3,rfl⟩
 | cons n r ih=>
  intro M x3 hM hl tn hb;obtain ⟨hn,tn⟩:=bj.mp tn;obtain ⟨⟨h1,h2⟩,hb⟩:=ah.mp hb;rw [bZ] at hl;obtain ⟨y3,e⟩:=ih (M:=j5 n (g n) M) (x3:= ~~~(.int n)) (rm hM) (az (af (bG uf _) (bW (by rw [bP,dy 1]))) hl) tn λk hk=>by
   obtain ⟨h3,h4⟩:=hb k hk;refine ⟨h3,h4.imp_right λ⟨y,hy⟩=>⟨y,?_⟩⟩;rw [rl hM,aI.mpr (show n≠k fromλe=>hn (e▸hk))]; exact hy
  exact ⟨y3,gk (ht (az (aB _ _) hl) h1 h2) e⟩
section
variable{O:List gj}{f:Nat}
theorem yH(hB:KN B)(hM:∀ n x,cK M n=some x<->leaf O n x):n∈kM B M<->chg O (cK B) n:=by unfold kM;rw [ba];refine ⟨λ⟨e,he,h⟩=> ?_,λ⟨y,hy,h⟩=>⟨(n,y),bR.mpr ⟨fA hy,Bool.or_eq_true_iff.mpr (h.imp_right λ⟨x,hx⟩=>by rw [(hM n x).mpr hx]; rfl)⟩,rfl⟩⟩;refine And.elim (λh1 h2=> ?_) (bR.mp he);subst h;exact ⟨e.2,jc hB h1,(Bool.or_eq_true_iff.mp h2).imp_right λh=>(f6.mp h).imp λx hx=>(hM _ _).mp hx⟩
theorem Mk(hB:KN B):(kM B M).Nodup:=(List.filter_sublist.map _).nodup hB
theorem uF(hK:KN M)(hM:∀ n x,cK M n=some x<->leaf O n x):n∈hJ f M<->chg O (gC f) n:=by
 unfold hJ;rw [ba];refine ⟨λ⟨e,he,h⟩=> ?_,λ⟨y,hy,h⟩=> ?_⟩
 ·have⟨h1,h2⟩:=bR.mp he;subst h;exact ⟨[],by unfold gC; rw [show decide (f<=e.1)=true from h2]; rfl,.inr ⟨e.2,(hM _ _).mp (jc hK h1)⟩⟩
 ·refine iG hy (λhf hy=> ?_) λZ q=>(mK q)
  rw [<-ae hy] at h;refine ag (h.resolve_left λq=>Bool.noConfusion q) λx hx=> ?_;exact ⟨(n,x),bR.mpr ⟨fA ((hM n x).mpr hx),hf⟩,rfl⟩
theorem HY(hK:KN M):(hJ f M).Nodup:=(List.filter_sublist.map _).nodup hK
end
structure oh(q tx L:Nat)(T:Tr L)(mo:Int)(M:List (Nat×By))(Bi:List Bt):Prop where
 w:WF q tx L T
 m0: -1<=mo
 m6:mo<=6
 lv:L+1=lv q mo
 kn:KN M
 mb:∀ e∈M,(e.1:Int)<=mo
 con:∀ n x,cK M n=some x<->leaf (aC q L 0 T) n x
 bn:NK Bi
 bi:∀ k b,(k,b)∈Bi<->∃ r∈aC q L 0 T,(r.l,r.n)=k/\r.b=b
theorem xD{q b8:Nat}{ns:List Nat}{k:Wy}:k∈gO q b8 ns<->∃ m∈ns,k.1<b8/\k.2=m / q ^ k.1:=by unfold gO;rw [g9];refine ⟨λ⟨m,hm,h⟩=> ?_,λ⟨m,hm,h1,h2⟩=>⟨m,hm,ba.mpr ⟨k.1,ft.mpr h1,Prod.ext rfl h2.symm⟩⟩⟩;refine ag (ba.mp h) λl z1=>And.elim (λhl z2=> ?_) z1;obtain rfl:=z2;exact ⟨m,hm,ft.mp hl,rfl⟩
section
variable{q jQ L':Nat}{T':Tr L'}{F:List Bt}{gg:Nat->By}{ns:List Nat}
 (hq:q=2\/q=3) (I:oh q tx L T mo M Bi) (R:tR q jQ N (aC q L 0 T) g L' 0 T') (wJ:L'+1=lv q kB) (xZ:∀ n,n∈ns<->chg (aC q L 0 T) g n) (EM:∀ n∈ns,g n=some (gg n))
 (m6:kB<=6) (NZ:∀ n x,cK (vb gg ns M) n=some x->(n:Int)<=kB)
include hq I R wJ xZ EM m6 NZ
theorem B9(n:Nat)(x:By):cK (vb gg ns M) n=some x<->leaf (aC q L' 0 T') n x:=by
 by_cases hn:n / q ^ L'=0
 ·rw [R.con n x hn,q4 I.kn];unfold vC;by_cases h:n∈ns
  ·rw [ak h,EM n h];show(bif jF (gg n)then some (gg n)else none)=some x<->_;induction ha:jF (gg n)using eK with
   | true=>exact ⟨λh=>⟨ae h,ha⟩,λh=>av some h.1⟩
   | false=>exact ⟨λh=>nn h,λh=>(Bool.noConfusion (ha.symm.trans h.2))⟩
  ·rw [aT h];have hc:¬ chg (aC q L 0 T) g n:=λhc=>h ((xZ n).mpr hc);show cK M n=some x<->_;rcases e:g n with _ | y
   ·exact I.con n x
   ·exact ⟨λhl=>absurd ⟨y,e,.inr ⟨x,(I.con n x).mp hl⟩⟩ hc,λh=>absurd ⟨y,e,.inl h.2⟩ hc⟩
 ·refine ⟨λh=>absurd (Nat.div_eq_of_lt ?_) hn,λ⟨r,hr,h1,h2,_⟩=>absurd ?_ hn⟩
  ·have Ce:=vG hq m6;rw [<-wJ,Nat.add_sub_cancel] at Ce;exact cz.mp (Int.lt_of_le_of_lt (NZ n x h) Ce)
  ·have:=(fv L' R.wf r hr).2;rw [h1,h2,Nat.sub_zero] at this; exact this
theorem Lr(k:Wy):k∈gO q (L'+1) ((vb gg ns M).map (·.1))<->∃ r∈aC q L' 0 T',(r.l,r.n)=k:=by
 have q0:0<q:=ax ∅ (q2 hq);have Xv:=B9 hq I R wJ xZ EM m6 NZ;rw [xD];refine ⟨λ⟨m,hm,h1,h2⟩=> ?_,λ⟨r,hr,h⟩=> ?_⟩
 ·refine ag (jS.mp hm) λx hx=> ?_;refine ag ((Xv m x).mp hx) λs z1=>And.elim (λhs z2=>And.elim (λh3 z3=>And.elim (λh4 Z=> ?_) z3) z2) z1;refine ag (Gd q0 L' R.wf s hs h3 k.1 (d9 h1)) λr z1=>And.elim (λhr z2=>And.elim (λh5 h6=> ?_) z2) z1;exact ⟨r,hr,Prod.ext h5 (by rw [h2,<-h4]; exact h6)⟩
 ·subst h;refine ag (uk q0 L' R.wf r hr) λs z1=>And.elim (λhs z2=>And.elim (λh1 h2=> ?_) z2) z1;exact ⟨s.n,jS.mpr ⟨s.x,(Xv s.n s.x).mpr ⟨s,hs,h1,rfl,rfl⟩⟩,fk (fv L' R.wf r hr).1,h2.symm⟩
theorem B8(hr:r∈aC q L' 0 T'):r.b=pD jQ (gO q (L'+1) ns) Bi (r.l,r.n):=by
 have ht:(r.l,r.n)∈gO q (L'+1) ns<->EG q (aC q L 0 T) g r.l r.n:=by rw [xD];exact ⟨λ⟨m,hm,_,h⟩=>⟨m,(xZ m).mp hm,h.symm⟩,λ⟨m,hm,h⟩=>⟨m,(xZ m).mpr hm,fk (fv L' R.wf r hr).1,h.symm⟩⟩
 unfold pD;rcases R.row r hr with⟨o,ho,h1,h2,h3,h4⟩ | ⟨h1,h2,_⟩
 ·have hb:iE (r.l,r.n) Bi=some o.b:=kC I.bn ((I.bi _ _).mpr ⟨o,ho,by rw [h1,h2],rfl⟩);by_cases hc:EG q (aC q L 0 T) g r.l r.n
  ·rw [ak (ht.mpr hc)]; exact (h4 hc).1
  ·rw [aT λh=>hc (ht.mp h),hb]; exact (h3 hc).1.symm
 ·have hb:iE (r.l,r.n) Bi=none:=by
   rcases e:iE (r.l,r.n) Bi with _ | b
   ·rfl
   ·refine ag ((I.bi _ _).mp (rO e)) λo z1=>And.elim (λho z2=>And.elim (λh3 Z=> ?_) z2) z1;exact absurd (cu h3) (h1 o ho)
  rw [hb,h2];induction decide ((r.l,r.n)∈gO q (L'+1) ns) <;> rfl
theorem xS(m0: -1<=kB)(S:A8 (pD jQ (gO q (L'+1) ns) Bi) (gO q (L'+1) ((vb gg ns M).map (·.1))) F):oh q jQ L' T' kB (vb gg ns M) F:=by
 refine ⟨R.wf,m0,m6,wJ,EW I.kn,λe he=>NZ e.1 e.2 (jc (EW I.kn) he),B9 hq I R wJ xZ EM m6 NZ,S.nd,λk b=> ?_⟩;rw [S.mem,Lr hq I R wJ xZ EM m6 NZ];refine ⟨λ⟨⟨r,hr,h⟩,hb⟩=>⟨r,hr,h,?_⟩,λ⟨r,hr,h,hb⟩=>⟨⟨r,hr,h⟩,?_⟩⟩
 ·rw [B8 hq I R wJ xZ EM m6 NZ hr,h,hb]
 ·rw [<-hb,B8 hq I R wJ xZ EM m6 NZ hr,h]
end
inductive ER(w8:aV):V->List Bt->Prop
 | df (Bi:List Bt):ER w8 (.df (Bi.map lu)) Bi
 | glob (h:w8=.dict []):ER w8 (.glob 8) []
theorem ER.bv{bv:V}(b:ER E.w8 bv Bi){q:Int}:BV (lW E h x7 q v mo b8) bv Bi:=by
 induction b with
 | df Bi=>exact BV.df _ _
 | glob h8=>exact BV.glob (av some h8)
theorem G6(h:MS B mx):jN W 5 [.lst (.int mo::(B.map bE).map (·.1))]=some (.int (mV mo mx)):=by
 have e:dG (.int mo::(B.map bE).map (·.1))=some (mo::B.map λe=>((e.1:Nat):Int)):=by rw [aU];show(dG (B.map λe=>V.int e.1)).map (mo::·)=_;rw [kQ (λe:Nat×By=>(e.1:Int))]; rfl
 show(dG (.int mo::(B.map bE).map (·.1))).bind G7=_;rw [e];refine av (λi=>some (V.int i)) ?_;have fm:∀ (l:List Int) (a b:Int),l.foldl (λm j=>bif decide (m<j)then j else m) (mV a b)=mV a (l.foldl (λm j=>bif decide (m<j)then j else m) b):=λl=>by
  induction l with
  | nil=>exact λZ Z=>rfl
  | cons y r ih=>intro a b;rw [List.foldl_cons,List.foldl_cons,<-ih];show List.foldl _ (mV (mV a b) y) r=List.foldl _ (mV a (mV b y)) r;rw [show mV (mV a b) y=mV a (mV b y)from Int.le_antisymm (nQ (nQ (oG _ _) (cn (oG b y) (rJ a _))) (cn (rJ b y) (rJ a _))) (nQ (cn (oG a b) (oG _ y)) (nQ (cn (rJ a b) (oG _ y)) (rJ _ y)))]
 have hm:=h.e W;obtain ⟨e0,Xs,_⟩:=h.ex;rcases B with _ | ⟨b,r⟩
 ·exact (eX Xs)
 ·rw [aU] at hm;have hm:(dG ((b::r).map λe=>V.int e.1)).bind G7=some (.int mx):=hm;rw [kQ (λe:Nat×By=>(e.1:Int))] at hm;have hm:(r.map λe=>((e.1:Nat):Int)).foldl (λm j=>bif decide (m<j)then j else m) (b.1:Int)=(mx:Int):=V.int.inj (ae hm);rw [<-hm,<-fm]; rfl
section
variable{q L2:Nat}{bv:V}(hb:ER E.w8 bv Bi)(hq:q=2\/q=3)(h6:mo<=6)(hM:KN M)
include hb hq h6 hM
theorem OY(hL:L+1=lv q mo)(hB:KN B)(hlen:M.length+B.length<=1000)(ZX:mx<=6)(Cg:MS B mx)(qp:L2+1=lv q (mV mo mx)):
  ∃ F,ai (m+4) 71 [.glob 9,.df (B.map bE),.int tx] (lW E h (.dict (M.map bE)) q bv mo ((L+1:Nat):Int))=some (.none,lW E h (.dict ((vb (gW B) (kM B M) M).map bE)) q (.df (F.map lu)) (mV mo mx) ((L2+1:Nat):Int))/\
   A8 (pD tx (gO q (L2+1) (kM B M)) Bi) (gO q (L2+1) ((vb (gW B) (kM B M) M).map (·.1))) F:=by
 have LA:=nQ h6 (cG.mpr ZX:(mx:Int)<=6);have hle:((L+1:Nat):Int)<=((L2+1:Nat):Int):=cG.mpr (by rw [hL,qp]; exact vH hq (oG mo mx));have pX:L2+1<=4:=by rw [qp]; exact ur q _
 have pZ:(kM B M).length<=B.length:=by unfold kM; rw [ao]; exact dx _ _
 have Jz:M.length+(kM B M).length<=1000:=af (bf pZ _) hlen;have HQ:(kM B M).length<=1000:=af (cR _ _) Jz;have hb1:B.length<=1000:=af (cR _ _) hlen;obtain ⟨c,e1⟩:=IV (m:=m+3) (E:=E) (h:=h) (q:=q) (mo:=mo) (b8:=((L+1:Nat):Int)) (bv:=bv) (M:=M) (x2:= ~~~(.int tx)) (x3:=none) (x4:=none) hB;obtain ⟨y3,e2⟩:=Bx (f:=cj (ai (m+3)) 71 [3]) (g:=gW B) (loc:=λx3=>vL (~~~(.df (B.map bE))) (~~~(.int tx)) x3 (~~~(.lst ((kM B M).map λn:Nat=>V.int n)))) (mk:=λD=>lW E h (.dict D) q bv (mV mo mx) ((L2+1:Nat):Int)) (P:=λn=>∃ x,cK B n=some x)
  (λ{n M x3} hl ⟨x,hx⟩ hc=>JQ hB hl hx (by rw [show gW B n=x by unfold gW; rw [hx]; rfl] at hc; exact hc)) (kM B M) (x3:=none) hM (az Jz ∅) (Mk hB) λn hn=>by
   unfold kM at hn;obtain ⟨e,he,h⟩:=ba.mp hn;obtain ⟨h1,h2⟩:=bR.mp he;subst h;have hx:=jc hB h1;exact ⟨⟨_,hx⟩,(Bool.or_eq_true_iff.mp h2).imp (λh=>by unfold gW; rw [hx]; exact h) λh=>f6.mp h⟩
 obtain ⟨F,e3,s⟩:=w70 (m:=m+1) (E:=E) (h:=h) (mo:=mV mo mx) (tx:=tx) (ts:=gO q (L2+1) (kM B M)) (B:=vb (gW B) (kM B M) M) (ER.bv hb) hq pX (af Bj Jz);have LD:=w68 (m:=m+2) (W:=lW E h (.dict (M.map bE)) q bv (mV mo mx) ((L+1:Nat):Int)) hq LA;rw [<-qp] at LD;have sk:∀ l:List (V×V),l.length<=1000->jR (1+(l.map (·.1)).length)=true:=λl hl=>ak (by rw [ao]; exact af (bf hl 1) ∅);exact ⟨F,aaU e1 (ak (by rw [ao]; exact af HQ ∅)) (gv (sk _ (by rw [ao]; exact hb1))) (G6 Cg) LD (av (λi=>some (V.int i)) (z0 hle)) e2 (w69 hq pX HQ) e3,s⟩
theorem JV{f:Nat}(hlen:M.length<=400)(hf:(f:Int)<=mo)(qp:L2+1=lv q ((f:Int)-1)):
  ∃ F,ai (m+4) 72 [.glob 9,.int f,.int tx] (lW E h (.dict (M.map bE)) q bv mo ((L+1:Nat):Int))=some (.none,lW E h (.dict ((vb (λZ=>[]) (hJ f M) M).map bE)) q (.df (F.map lu)) ((f:Int)-1) ((L2+1:Nat):Int))/\
   A8 (pD tx (gO q (L2+1) (hJ f M)) Bi) (gO q (L2+1) ((vb (λZ=>[]) (hJ f M) M).map (·.1))) F:=by
 have pX:L2+1<=4:=by rw [qp]; exact ur q _
 have pZ:(hJ f M).length<=M.length:=by unfold hJ; rw [ao]; exact dx _ _
 have Jz:M.length+(hJ f M).length<=1000:=af (Nat.add_le_add hlen (af pZ hlen)) ∅;have HQ:(hJ f M).length<=1000:=af (cR _ _) Jz;obtain ⟨c,e1⟩:=DR (m:=m+3) (E:=E) (h:=h) (q:=q) (mo:=mo) (b8:=((L+1:Nat):Int)) (bv:=bv) (M:=M) (f:=f) (x7:=.dead) (x2:= ~~~(.int tx)) (x3:=none) (x4:=none);obtain ⟨y3,e2⟩:=Bx (f:=cj (ai (m+3)) 72 [2]) (g:=λZ=>[]) (loc:=λx3=>vL (~~~(.int f)) (~~~(.int tx)) x3 (~~~(.lst ((hJ f M).map λn:Nat=>V.int n)))) (mk:=λD=>lW E h (.dict D) q bv mo ((L+1:Nat):Int)) (P:=λZ=>True)
  (λ{n M x3} hl Z hc=>IE hl hc) (hJ f M) (x3:=none) hM (az Jz ∅) (HY hM) λn hn=>by
   unfold hJ at hn;obtain ⟨e,he,h⟩:=ba.mp hn;subst h;exact ⟨trivial,.inr ⟨_,jc hM (bR.mp he).1⟩⟩
 obtain ⟨F,e3,s⟩:=w70 (m:=m+1) (E:=E) (h:=h) (mo:=(f:Int)-1) (tx:=tx) (ts:=gO q (L2+1) (hJ f M)) (B:=vb (λZ=>[]) (hJ f M) M) (ER.bv hb) hq pX (af Bj Jz);have LD:=w68 (m:=m+2) (W:=lW E h (.dict ((vb (λZ=>[]) (hJ f M) M).map bE)) q bv ((f:Int)-1) ((L+1:Nat):Int)) hq (cn (cn (Int.sub_le_self (f:Int) (by decide:(0:Int)<=1)) hf) h6);rw [<-qp] at LD;exact ⟨F,aaT (aT (Int.not_lt.mpr hf)) e1 (ak (by rw [ao]; exact af HQ ∅)) e2 LD (w69 hq pX HQ) e3,s⟩
end
abbrev rL(s q:Int)(bv:V)(x4 x5 x6 x7 x8 x9:Option LV):List (Option LV):=[~~~(.glob 9),~~~(.int s),~~~(.int q),~~~bv,x4,x5,x6,x7,x8,x9]
section
variable{q l n b sp x y d k:Int}{bv mv:V}{MD:List (V×V)}{ks acc fin:List V}{x4 x5 x7 y4 y7 y8 y9:Option LV}{c c0 c1:Option V}{cv:List (Option V)}{z7:aV}
section
variable(hg:lR W bv (.tup [.int l,.int n])=some (.int b))
include hg
theorem Ws(h0:decide (s<b)=false):cD (ai m) 73 [1] [0,0] (.tup [.int l,.int n]) ⟨rL s q bv x4 x5 x6 x7 x8 x9,[c0,c1],W⟩=some ([],⟨rL s q bv x4 x5 x6 x7 x8 x9,[some (.int l),some (.int n)],W⟩):=au (qB ..) [fV 0 hg,fF 1 h0] ⋯
theorem k_in(h0:decide (s<b)=true)(hp:d7 .Pow (.int q) (.int l)=some (.int sp))(hm:d7 .Mult (.int n) (.int sp)=some (.int x)):
  cD (ai m) 73 [1] [0,0] (.tup [.int l,.int n]) ⟨rL s q bv x4 x5 x6 x7 x8 x9,[c0,c1],W⟩=some ([.tup [.int x,.int (-l)]],⟨rL s q bv x4 x5 x6 x7 x8 x9,[some (.int l),some (.int n)],W⟩):=by
 exact au (qB ..) [fV 0 hg,fT 1 h0,fV 1 hp,fV 0 hm] ⋯
end
section
variable(hp:d7 .Pow (.int q) (.int l)=some (.int sp))(hd:d7 .FloorDiv (.int k) (.int sp)=some (.int d))(hx:d7 .FloorDiv (.int x) (.int sp)=some (.int n))
include hp hd hx
theorem VU(h0:(d==n)=false):cD (ai m) 73 [3,1] [0,0] (.int k) ⟨rL s q bv (~~~(.int l)) x5 x6 (~~~(.int x)) x8 x9,[c],W⟩=some ([],⟨rL s q bv (~~~(.int l)) x5 x6 (~~~(.int x)) x8 x9,[some (.int k)],W⟩):=au (qB ..) [fV 0 hp,fV 0 hd,fV 0 hp,fV 0 hx,fF 1 h0] ⋯
theorem ab0(h0:(d==n)=true):cD (ai m) 73 [3,1] [0,0] (.int k) ⟨rL s q bv (~~~(.int l)) x5 x6 (~~~(.int x)) x8 x9,[c],W⟩=some ([.int k],⟨rL s q bv (~~~(.int l)) x5 x6 (~~~(.int x)) x8 x9,[some (.int k)],W⟩):=au (qB ..) [fV 0 hp,fV 0 hd,fV 0 hp,fV 0 hx,fT 1 h0] ⋯
end
theorem PW (hp:d7 .Pow (.int q) (.int (-y))=some (.int sp)) (hx:d7 .FloorDiv (.int x) (.int sp)=some (.int n)) (pZ:jR cs.length=true)
  (hg:lR (lW E h (.dict MD) q mv mo b8) bv (.tup [.int (-y),.int n])=some (.int b)) (ha:iv (decide (acc.length<100000)) (acc++ [.tup [.int (-y),.int n,.int b,.int (cs.length:Nat)]])=some (acc++ [.tup [.int (-y),.int n,.int b,.int (cs.length:Nat)]]))
  (hc:dj bT (cD (ai m) 73 [3,1] [0,0]) (MD.map (·.1)) ⟨rL s q bv (~~~(.int (-y))) x5 (some (.ol acc)) (~~~(.int x)) (~~~(.int y)) x9,[none],lW E h .dead q mv mo b8⟩=some (cs,⟨rL s q bv (~~~(.int (-y))) x5 (some (.ol acc)) (~~~(.int x)) (~~~(.int y)) x9,[c],lW E h .dead q mv mo b8⟩)):
  cj (ai m) 73 [3] (.tup [.int x,.int y]) ⟨rL s q bv x4 x5 (some (.ol acc)) x7 x8 x9,[],lW E h (.dict MD) q mv mo b8⟩=
   some (.ez,⟨rL s q bv (~~~(.int (-y))) x5 (some (.ol (acc++ [.tup [.int (-y),.int n,.int b,.int (cs.length:Nat)]]))) (~~~(.int x)) (~~~(.int y)) (~~~(.int (cs.length:Nat))),[],lW E h (.dict MD) q mv mo b8⟩):=by
 exact au (fH ..) [fL 2 hc,fT 0 pZ,fV 1 hp,fV 0 hx,fV 0 hp,fV 0 hx,fV 0 hg,fX 0 ha] ⋯
theorem aaS (hk:dj bT (cD (ai m) 73 [1] [0,0]) (D.map (·.1)) ⟨rL s q (.df D) none none none none none none,[none,none],lW E h z7 q (.df D) mo b8⟩=some (ks,⟨rL s q (.df D) none none none none none none,cv,lW E h z7 q (.df D) mo b8⟩))
  (hkl:jR ks.length=true) (hs:jN (lW E h z7 q (.df D) mo b8) 6 [.lst ks]=some (.lst xO))
  (hl:dO bT (cj (ai m) 73 [3]) xO ⟨rL s q (.df D) none (~~~(.lst xO)) (some (.ol [])) none none none,[],lW E h z7 q (.df D) mo b8⟩=some (.ez,⟨rL s q (.df D) y4 (~~~(.lst xO)) (some (.ol fin)) y7 y8 y9,[],lW E h z7 q (.df D) mo b8⟩)):
  ai (m+1) 73 [.glob 9,.int s] (lW E h z7 q (.df D) mo b8)=some (.lst fin,lW E h z7 q (.df D) mo b8):=by
 exact au (aZ ..) [fL 3 hk,fT 0 hkl,fV 0 hs,fO 1 hl] ⋯
theorem aaR(hi:jh (lW E h z7 q (.glob 8) mo b8) (.glob 8)=some (.glob 8,[])):ai (m+1) 73 [.glob 9,.int s] (lW E h z7 q (.glob 8) mo b8)=some (.lst [],lW E h z7 q (.glob 8) mo b8):=au (aZ ..) [fI 2 hi] ⋯
end
abbrev S5(q:Nat)(k:Wy):List Int:=[((k.2*q ^ k.1:Nat):Int), -(k.1:Int)]
abbrev tI(l:List Int):V:=.tup (l.map V.int)
def Dl(r:gj):V:=.tup [.int r.l,.int r.n,.int r.b,.int r.f]
section
variable{q:Nat}{bv mv:V}{x4 x5 x7:Option LV}(hq:q=2\/q=3)
include hq
theorem DF(hb:BV W bv Bi)(hn:NK Bi)(hk:∀ e∈Bi,e.1.1<=4/\e.1.2<=1000):
  ∃ cv,dj bT (cD (ai m) 73 [1] [0,0]) ((Bi.map lu).map (·.1)) ⟨rL s q bv x4 x5 x6 x7 x8 x9,[none,none],W⟩=some ((Bi.filter λe=>decide (s<(e.2:Int))).map (λe=>tI (S5 q e.1)),⟨rL s q bv x4 x5 x6 x7 x8 x9,cv,W⟩):=by
 rw [aU,<-qV];obtain ⟨c,_,e⟩:=jX (f:=cD (ai m) 73 [1] [0,0]) (loc:=rL s q bv x4 x5 x6 x7 x8 x9) (W:=W) (λc=>∃ x y,c=[x,y]) (λe:Bt=>kV e.1) (λe=>bif decide (s<(e.2:Int))then [tI (S5 q e.1)] else []) (l:=Bi) (λe he c ⟨x,y,hc⟩=>⟨_,⟨some (.int e.1.1),some (.int e.1.2),rfl⟩,by
  subst hc;have hg:=hb.get (kC hn he);have h2:=hk e he;induction ha:decide (s<(e.2:Int))using eK with
  | false=>exact Ws hg ha
  | true=>exact k_in hg ha (jB hq h2.1) (j6 (af h2.2 ∅) (af (jg (q3 hq) h2.1) ∅))⟩) (c:=[none,none]) ⟨none,none,rfl⟩
 exact ⟨c,e⟩
theorem IJ{x:Int}(hl:l<=4)(hx:d7 .FloorDiv (.int x) (.int ((q ^ l:Nat):Int))=some (.int n)):
  ∃ c,dj bT (cD (ai m) 73 [3,1] [0,0]) ((M.map bE).map (·.1)) ⟨rL s q bv (~~~(.int l)) x5 x6 (~~~(.int x)) x8 x9,[none],W⟩=some ((M.filter λe=>e.1 / q ^ l==n).map (λe=>V.int e.1),⟨rL s q bv (~~~(.int l)) x5 x6 (~~~(.int x)) x8 x9,[c],W⟩):=by
 rw [aU,<-qV];refine gQ (λe:Nat×By=>V.int e.1) _ (λe he c=> ?_) none;have hd:=oS (a:=e.1) (b:=q ^ l) (Nat.pow_pos (ax ∅ (q2 hq))) (af (jg (q3 hq) hl) ∅);have h4:(((e.1 / q ^ l:Nat):Int)==(n:Int))=(e.1 / q ^ l==n):=by rw [iJ,aD,aD]; exact Int.ofNat_inj
 induction ha:e.1 / q ^ l==n using eK with
 | false=>exact VU (jB hq hl) hd hx (h4.trans ha)
 | true=>exact ab0 (jB hq hl) hd hx (h4.trans ha)
theorem PY(hM:M.length<=1000)(hb:BV (lW E h (.dict (M.map bE)) q mv mo b8) bv Bi)(R:List gj):∀ {acc:List V} {x4 x7 x8 x9:Option LV},acc.length+R.length<100000->
  (∀ r∈R,r.l<=4/\iE (r.l,r.n) Bi=some r.b/\r.f=(M.filter λe=>e.1 / q ^ r.l==r.n).length)->
  ∃ y4 y7 y8 y9,dO bT (cj (ai m) 73 [3]) (R.map λr=>tI (kR q r)) ⟨rL s q bv x4 x5 (some (.ol acc)) x7 x8 x9,[],lW E h (.dict (M.map bE)) q mv mo b8⟩=
   some (.ez,⟨rL s q bv y4 x5 (some (.ol (acc++R.map Dl))) y7 y8 y9,[],lW E h (.dict (M.map bE)) q mv mo b8⟩):=by
 induction R with
 | nil=>exact λ{acc x4 x7 x8 x9} Z Z=>⟨x4,x7,x8,x9,by rw [show acc++([]:List gj).map Dl=acc from bS _]; rfl⟩
 | cons r R ih=>
  intro acc x4 x7 x8 x9 hl H;obtain ⟨⟨h1,h2,h3⟩,H⟩:=ah.mp H;have q0:0<q:=ax ∅ (q2 hq);have hd:d7 .FloorDiv (.int ((r.n*q ^ r.l:Nat):Int)) (.int ((q ^ r.l:Nat):Int))=some (.int r.n):=by rw [oS (Nat.pow_pos q0) (af (jg (q3 hq) h1) ∅),Nat.mul_div_cancel _ (Nat.pow_pos q0)]
  refine ag (IJ (m:=m) (W:=lW E h .dead q mv mo b8) (M:=M) (s:=s) (bv:=bv) (x5:=x5) (x6:=some (.ol acc)) (x8:= ~~~(.int (-(r.l:Int)))) (x9:=x9) hq h1 hd) λc hc=> ?_;rw [bZ,<-bP,Nat.add_right_comm] at hl;have nn:∀ i:Int, - -i=i:=Int.neg_neg;have t:=PW (y:= -(r.l:Int)) (x4:=x4) (x5:=x5) (x7:=x7) (x8:=x8) (x9:=x9) (cs:=(M.filter λe=>e.1 / q ^ r.l==r.n).map (λe=>V.int e.1)) (by rw [nn]; exact jB hq h1) hd (ak (by rw [ao]; exact af (dx _ _) (af hM ∅)))
   (by rw [nn]; exact hb.get (k:=(r.l,r.n)) h2) (rE (az (af (da _) (aB _ _)) hl)) (by rw [nn]; exact hc)
  rw [nn,ao,<-h3] at t;refine ag (ih (acc:=acc++ [Dl r]) (x4:= ~~~(.int r.l)) (x7:= ~~~(.int ((r.n*q ^ r.l:Nat):Int))) (x8:= ~~~(.int (-(r.l:Int)))) (x9:= ~~~(.int r.f)) (by rw [aQ]; exact hl) H) λy4 z1=>ag z1 λy7 z2=>ag z2 λy8 z3=>ag z3 λy9 e=> ?_;rw [cw] at e;exact ⟨y4,y7,y8,y9,gk t e⟩
end
section
variable{q:Nat}(I:oh q tx L T mo M Bi)
include I
theorem oh.num(h:cK M n=some x):n<=6:=cG.mp (cn (I.mb _ (fA h)) I.m6)
theorem oh.lvl:L<=3:=by have:=ur q mo;rw [<-I.lv] at this; exact dN this
section
variable(hq:0<q)
include hq
theorem oh.bound(h:r∈aC q L 0 T):r.l<=3/\r.n<=6:=by refine ag (uk hq L I.w r h) λs z1=>And.elim (λhs z2=>And.elim (λh4 h5=> ?_) z2) z1;have h6:=I.num ((I.con s.n s.x).mpr ⟨s,hs,h4,rfl,rfl⟩);exact ⟨af (fv L I.w r h).1 I.lvl,h5▸af (Nat.div_le_self _ _) h6⟩
theorem oh.perm(s:Int):((Bi.filter λe=>decide (s<(e.2:Int))).map (·.1)).Perm ((ja s (aC q L 0 T)).map λr=>(r.l,r.n)):=by
 refine (List.perm_ext_iff_of_nodup ((List.filter_sublist.map _).nodup I.bn) ((List.filter_sublist.map _).nodup (jV hq I.w))).mpr λk=> ?_;rw [ba,ba];refine ⟨λ⟨e,he,h⟩=> ?_,λ⟨r,hr,h⟩=> ?_⟩
 ·have⟨h0,hb⟩:=bR.mp he;refine ag ((I.bi e.1 e.2).mp h0) λr z1=>And.elim (λhr z2=>And.elim (λh1 h2=> ?_) z2) z1;exact ⟨r,bR.mpr ⟨hr,by rw [h2]; exact hb⟩,h1.trans h⟩
 ·have⟨hr,h1⟩:=bR.mp hr;exact ⟨(k,r.b),bR.mpr ⟨(I.bi _ _).mpr ⟨r,hr,h,rfl⟩,h1⟩,rfl⟩
end
theorem oh.zK(jq:q<=3):(aC q L 0 T).length<=40:=by
 refine af (xl jq L I.w) ?_;have:=I.lvl;rcases L with _ | _ | _ | _ | L
 ·decide
 ·decide
 ·decide
 ·decide
 ·exact absurd this (Nat.not_le_of_lt (cR 4 L))
theorem oh.ajh(hq:0<q)(jq:q<=3):Bi.length<=40:=by have h:=(I.perm hq (-1)).length_eq;have all:∀ n:Nat,decide ((-1:Int)<(n:Int))=true:=λn=>ak (Int.lt_of_lt_of_le ∅ (aN n));rw [ao,ao] at h;unfold ja at h;rw [(List.filter_eq_self (p:=λe:Bt=>decide ((-1:Int)<(e.2:Int)))).mpr λe Z=>all e.2,(List.filter_eq_self (p:=λr:gj=>decide ((-1:Int)<(r.b:Int)))).mpr λe Z=>all e.b] at h;exact h▸I.zK jq
theorem oh.NG(hq:0<q):(M.map (·.1)).Perm (((aC q L 0 T).filter λr=>r.l==0).map (·.n)):=by
 refine (List.perm_ext_iff_of_nodup I.kn ?_).mpr λn=> ?_
 ·refine br.mpr (((br.mp (jV (num:=0) hq I.w)).filter _).imp_of_mem λ{a b} ha hb uE hc=>uE ?_);rw [aD.mp (bR.mp ha).2,aD.mp (bR.mp hb).2,hc]
 ·rw [jS,ba];refine ⟨λ⟨x,hx⟩=> ?_,λ⟨r,hr,h⟩=> ?_⟩
  ·refine ag ((I.con n x).mp hx) λr z1=>And.elim (λhr z2=>And.elim (λh1 z3=>And.elim (λh2 Z=> ?_) z3) z2) z1;exact ⟨r,bR.mpr ⟨hr,aD.mpr h1⟩,h2⟩
  ·have⟨hr,h1⟩:=bR.mp hr;exact ⟨r.x,(I.con n r.x).mpr ⟨r,hr,aD.mp h1,h,rfl⟩⟩
theorem oh.K0(hq:0<q)(jq:q<=3):M.length<=40:=by have h:=(I.NG hq).length_eq;rw [ao,ao] at h;rw [h]; exact af (dx _ _) (I.zK jq)
theorem oh.cnt(hq:0<q)(h:r∈aC q L 0 T):r.f=(M.filter λe=>e.1 / q ^ r.l==r.n).length:=by have h1:=((I.NG hq).filter λn=>n / q ^ r.l==r.n).length_eq;rw [List.filter_map,List.filter_map,ao,ao,List.filter_filter] at h1;rw [Gf L I.w r h];exact (av List.length (List.filter_congr λs Z=>Bool.and_comm _ _)).trans h1.symm
theorem Li{bv:V}(hq:q=2\/q=3)(hb:ER E.w8 bv Bi):
  ai (m+1) 73 [.glob 9,.int s] (lW E h (.dict (M.map bE)) q bv mo b8)=some (.lst ((ja s (aC q L 0 T)).map Dl),lW E h (.dict (M.map bE)) q bv mo b8):=by
 have q0:0<q:=ax ∅ (q2 hq);have S8:(ja s (aC q L 0 T)).length<=40:=af (dx _ _) (I.zK (q3 hq));have hp:=I.perm q0 s;obtain ⟨y4,y7,y8,y9,e⟩:=PY (m:=m) (E:=E) (h:=h) (mo:=mo) (b8:=b8) (s:=s) (mv:=bv) (x5:=some (.v (.lst ((ja s (aC q L 0 T)).map λr=>tI (kR q r))))) (x4:=none) (x7:=none) (x8:=none) (x9:=none) hq (af (I.K0 q0 (q3 hq)) ∅) (ER.bv hb) (ja s (aC q L 0 T)) (acc:=[]) (by rw [List.length_nil,bF]; exact az S8 ∅) λr hr=>by
  have hr:=(bR.mp hr).1;exact ⟨bz (I.bound q0 hr).1,kC I.bn ((I.bi _ _).mpr ⟨r,hr,rfl,rfl⟩),I.cnt q0 hr⟩
 induction hb with
 | df Bi=>
  have Ce:OK uu ((ja s (aC q L 0 T)).map (kR q)):=br.mpr ((qk q0 L I.w).filter _);have W7:((Bi.filter λe=>decide (s<(e.2:Int))).map λe=>S5 q e.1).Perm ((ja s (aC q L 0 T)).map (kR q)):=by have:=hp.map (S5 q);rw [aU,aU] at this; exact this
  have tn:((Bi.filter λe=>decide (s<(e.2:Int))).map λe=>S5 q e.1).Nodup:=W7.nodup_iff.mpr (Ce.imp λ{a b} h hc=>by rw [hc,GJ.WC] at h; exact (Bool.noConfusion h));have hlen:=W7.length_eq;rw [ao,ao] at hlen;obtain ⟨cv,e1⟩:=DF (m:=m) (W:=lW E h (.dict (M.map bE)) q (.df (Bi.map lu)) mo b8) (s:=s) (x4:=none) (x5:=none) (x6:=none) (x7:=none) (x8:=none) (x9:=none) hq (BV.df _ Bi) I.bn λe he=>by
   obtain ⟨r,hr,h1,_⟩:=(I.bi e.1 e.2).mp he;have:=I.bound q0 hr;rw [<-h1]; exact ⟨bz this.1,af this.2 ∅⟩
  refine aaS e1 (ak (by rw [ao,hlen]; exact af S8 ∅)) ?_ e;show(bif decide (_<64)then(nu _).map V.lst else none)=_;rw [ak (by rw [ao,hlen]; exact az S8 ∅),ra (f:=λe:Bt=>S5 q e.1) (n:=2) ∅ (λZ Z=>rfl) tn,xe GJ W7 tn Ce,aU]; rfl
 | glob h8=>have hR:ja s (aC q L 0 T)=[]:=List.map_eq_nil_iff.mp hp.symm.eq_nil;rw [hR];refine aaR ?_;show(eJ _ 8).map _=_;unfold eJ;rw [show(lW E h (.dict (M.map bE)) q (.glob 8) mo b8)[8]? =some (.dict [])from av some h8]; rfl
end
abbrev oW(E:WE)(h:HS)(x6:aV):List aV:=bM {E with w6:=x6} h []
abbrev pL(RD:List (V×V))(tx:Int)(x3 x4 x5:Option LV):List (Option LV):=[~~~(.glob 6),~~~(.df RD),~~~(.int tx),x3,x4,x5]
section
variable{RD:List (V×V)}{K dv dv':V}{ob rb tx:Int}{x3 x4 x5 y3 y4 y5:Option LV}{ds:List V}{c0 c1:Option V}{cv:List (Option V)}{x6:aV}
theorem L7:cD (ai m) 74 [0,1,1] [0,1] (.tup [.int rb,dv]) ⟨loc,[c0,c1],W⟩=some ([dv],⟨loc,[some (.int rb),some dv],W⟩):=au (qB ..) [] ⋯
variable(hs:lR (oW E h (.dict OD)) (.df RD) K=some (.tup [.int rb,dv]))
include hs
section
variable(hi:iA (oW E h (.dict OD)) .In K (.glob 6)=some true)(ho:lR (oW E h (.dict OD)) (.glob 6) K=some (.tup [.int ob,dv']))
include hi ho
section
variable(hv:iA (oW E h (.dict OD)) .NotEq dv' dv=some false)
include hv
theorem VB(b1:(ob==tx)=true)(b2:decide (rb<tx)=false):cj (ai m) 74 [0] K ⟨pL RD tx x3 x4 x5,[],oW E h (.dict OD)⟩=some (.ez,⟨pL RD tx (~~~K) (~~~(.int rb)) (~~~dv),[],oW E h (.dict OD)⟩):=au (fH ..) [fV 0 hs,fB 0 hi,fV 1 ho,fT 1 b1,fV 3 ho,fB 1 hv,fF 1 b2] ⋯
variable(b2:decide (rb<tx)=true)(gx:(!(ob==rb))=false)
include b2 gx
theorem abL(b1:(ob==tx)=false):cj (ai m) 74 [0] K ⟨pL RD tx x3 x4 x5,[],oW E h (.dict OD)⟩=some (.ez,⟨pL RD tx (~~~K) (~~~(.int rb)) (~~~dv),[],oW E h (.dict OD)⟩):=au (fH ..) [fV 0 hs,fB 0 hi,fV 1 ho,fF 1 b1,fT 1 b2,fV 3 ho,fB 1 hv,fT 1 b2,fV 1 ho,fF 1 gx] ⋯
end
theorem abM (b1:(ob==tx)=false) (b2:decide (rb<tx)=false)
  (hc:dj bT (cD (ai m) 74 [0,1,1] [0,1]) (OD.map (·.2)) ⟨pL RD tx (~~~K) (~~~(.int rb)) (~~~dv),[none,none],oW E h .dead⟩=some (ds,⟨pL RD tx (~~~K) (~~~(.int rb)) (~~~dv),cv,oW E h .dead⟩))
  (hl:jR ds.length=true) (QW:iA (oW E h (.dict OD)) .In dv (.lst ds)=some false):cj (ai m) 74 [0] K ⟨pL RD tx x3 x4 x5,[],oW E h (.dict OD)⟩=some (.ez,⟨pL RD tx (~~~K) (~~~(.int rb)) (~~~dv),[],oW E h (.dict OD)⟩):=by
 exact au (fH ..) [fV 0 hs,fB 0 hi,fV 1 ho,fF 1 b1,fF 1 b2,fL 4 hc,fT 0 hl,fB 0 QW] ⋯
end
theorem VC (hi:iA (oW E h (.dict OD)) .In K (.glob 6)=some false)
  (hc:dj bT (cD (ai m) 74 [0,1,1] [0,1]) (OD.map (·.2)) ⟨pL RD tx (~~~K) (~~~(.int rb)) (~~~dv),[none,none],oW E h .dead⟩=some (ds,⟨pL RD tx (~~~K) (~~~(.int rb)) (~~~dv),cv,oW E h .dead⟩))
  (hl:jR ds.length=true) (QW:iA (oW E h (.dict OD)) .In dv (.lst ds)=some false):cj (ai m) 74 [0] K ⟨pL RD tx x3 x4 x5,[],oW E h (.dict OD)⟩=some (.ez,⟨pL RD tx (~~~K) (~~~(.int rb)) (~~~dv),[],oW E h (.dict OD)⟩):=by
 exact au (fH ..) [fV 0 hs,fB 0 hi,fL 3 hc,fT 0 hl,fB 0 QW] ⋯
end
theorem aaQ{RD:List (V×V)}{tx:Int}{y3 y4 y5:Option LV}(hl:dO bT (cj (ai m) 74 [0]) (RD.map (·.1)) ⟨pL RD tx none none none,[],W⟩=some (.ez,⟨pL RD tx y3 y4 y5,[],W⟩)):ai (m+1) 74 [.glob 6,.df RD,.int tx] W=some (.bool true,W):=au (aZ ..) [fO 1 hl] ⋯
def vW(q:Nat)(r:gj):V:=.tup [key r.a (bC q r.l)]
def tw(q:Nat)(r:gj):V:=.tup [.int r.b,vW q r]
def rK(R:List gj):List (Wy×gj):=R.map λr=>((r.l,r.n),r)
def dF(q:Nat)(R:List gj):List (V×V):=(rK R).map (sx (tw q))
theorem WF.mono{q jQ:Nat}(h:tx<=jQ)(l:Nat):∀ {t:Tr l},WF q tx l t->WF q jQ l t:=by
 induction l with
 | zero=>
  intro t w;rcases (t:Option _)with _ | ⟨b,a,x⟩
  ·exact trivial
  ·exact ⟨w.1,af w.2.1 h,w.2.2⟩
 | succ l ih=>
  intro t w;rcases (t:Option _)with _ | ⟨b,a,ch⟩
  ·exact trivial
  ·exact ⟨w.1,af w.2.1 h,w.2.2.1,λt ht=>⟨ih (w.2.2.2.1 t ht).1,(w.2.2.2.1 t ht).2⟩,w.2.2.2.2⟩
theorem Kn{q num:Nat}(w:WF q tx l t)(hr:r∈aC q l num t):r.b<=tx:=by
 rcases e:dE l t with _ | ⟨b,a⟩
 ·rw [iD e] at hr; exact (eX hr)
 ·exact af (rz l w e r hr) (w.head e).2
section
variable{q:Nat}{R:List gj}{k:Wy}
theorem Nn(h:(R.map λr=>(r.l,r.n)).Nodup):NK (rK R):=by unfold NK rK; rw [aU]; exact h
theorem zN:(k,r)∈rK R<->r∈R/\(r.l,r.n)=k:=by
 unfold rK;rw [ba];exact ⟨λ⟨o,ho,h⟩=>by
  have h:=cu h;rw [<-h.2]; exact ⟨ho,h.1⟩,λh=>⟨r,h.1,by rw [h.2]⟩⟩
theorem Mh:(dF q R).map (·.1)=R.map λr=>kV (r.l,r.n):=by unfold dF rK; rw [aU,aU]; rfl
theorem CK:(dF q R).map (·.2)=R.map (tw q):=by unfold dF rK; rw [aU,aU]; rfl
theorem AP:(dF q R).length=R.length:=by unfold dF rK; rw [ao,ao]
theorem Pe{a c a' c':Int}:zj (.tup [key a c]) (.tup [key a' c'])=some ((true&&((a==a')&&((c==c')&&true)))&&true):=rfl
theorem QI(h:∀ o∈R,o.a≠r.a):Lx (vW q r) (R.map (vW q))=some false:=by
 induction R with
 | nil=>rfl
 | cons a s ih=>refine And.elim (λh1 h2=> ?_) (ah.mp h);show(zj (.tup [key a.a (bC q a.l)]) (.tup [key r.a (bC q r.l)])).bind (λb=>(Lx (vW q r) (s.map (vW q))).map (b||·))=_;rw [Pe,show((a.a:Int)==(r.a:Int))=false from sR λe=>h1 (cx e),ih h2]; rfl
theorem Nz{o:gj}(ha:o.a=r.a)(hl:o.l=r.l):iA W .NotEq (vW q o) (vW q r)=some false:=by show(zj (.tup [key o.a (bC q o.l)]) (.tup [key r.a (bC q r.l)])).map (!·)=_;rw [ha,hl,Bm]; rfl
theorem L8:∃ cv,dj bT (cD (ai m) 74 [0,1,1] [0,1]) ((dF q R).map (·.2)) ⟨loc,[none,none],W⟩=some (R.map (vW q),⟨loc,cv,W⟩):=by rw [CK,<-gh (vW q)];refine ag (jX (f:=cD (ai m) 74 [0,1,1] [0,1]) (loc:=loc) (W:=W) (λc=>∃ x y,c=[x,y]) (tw q) (λr=>[vW q r]) (l:=R) (λr _ c ⟨x,y,hc⟩=>⟨_,⟨some (.int r.b),some (vW q r),rfl⟩,by subst hc; exact L7⟩) (c:=[none,none]) ⟨none,none,rfl⟩) λc z1=>And.elim (λZ e=> ?_) z1;exact ⟨c,e⟩
end
section
variable{q jQ L':Nat}{T':Tr L'}(hq:q=2\/q=3)(w:WF q tx L T)(R:tR q jQ N (aC q L 0 T) g L' 0 T')(hN:∀ o∈aC q L 0 T,o.a<N)(hl:(aC q L 0 T).length<=1000)
include hq w R hN hl
theorem zV(hr:r∈aC q L' 0 T'){x3 x4 x5:Option LV}:cj (ai m) 74 [0] (kV (r.l,r.n)) ⟨pL (dF q (aC q L' 0 T')) jQ x3 x4 x5,[],oW E h (.dict (dF q (aC q L 0 T)))⟩=
  some (.ez,⟨pL (dF q (aC q L' 0 T')) jQ (~~~(kV (r.l,r.n))) (~~~(.int r.b)) (~~~(vW q r)),[],oW E h (.dict (dF q (aC q L 0 T)))⟩):=by
 have q0:0<q:=ax ∅ (q2 hq);have tn:=Nn (jV (num:=0) q0 w);have hs:lR (oW E h (.dict (dF q (aC q L 0 T)))) (.df (dF q (aC q L' 0 T'))) (kV (r.l,r.n))=some (.tup [.int r.b,vW q r]):=sE nZ (by
  unfold dF;rw [lx,kC (Nn (jV (num:=0) q0 R.wf)) (zN.mpr ⟨hr,rfl⟩)]; rfl)
 have lk:ey (kV (r.l,r.n)) (dF q (aC q L 0 T))=(iE (r.l,r.n) (rK (aC q L 0 T))).map (tw q):=lx;have hi:iA (oW E h (.dict (dF q (aC q L 0 T)))) .In (kV (r.l,r.n)) (.glob 6)=some (iE (r.l,r.n) (rK (aC q L 0 T))).isSome:=by show iv (ju (kV (r.l,r.n)) (dF q (aC q L 0 T))) (ey (kV (r.l,r.n)) (dF q (aC q L 0 T))).isSome=_;rw [lk,Option.isSome_map]; exact gv nZ
 refine ag (L8 (q:=q) (R:=aC q L 0 T) (m:=m) (W:=oW E h .dead) (loc:=pL (dF q (aC q L' 0 T')) jQ (~~~(kV (r.l,r.n))) (~~~(.int r.b)) (~~~(vW q r)))) λcv hc=> ?_;have pZ:jR ((aC q L 0 T).map (vW q)).length=true:=ak (by rw [ao]; exact af hl ∅);have fresh:N<=r.a->iA (oW E h (.dict (dF q (aC q L 0 T)))) .In (vW q r) (.lst ((aC q L 0 T).map (vW q)))=some false:=λhNa=>QI λo ho=>aL (ax (hN o ho) hNa);have ne:∀ {a b:Nat},a≠b->((a:Int)==(b:Int))=false:=λh=>sR λe=>h (cx e);have eq:∀ {a b:Nat},a=b->((a:Int)==(b:Int))=true:=λh=>by rw [h]; exact aG _
 rcases R.row r hr with⟨o,ho,h5,h6,h7,h8⟩ | ⟨h5,h6,h7⟩
 ·have Av:iE (r.l,r.n) (rK (aC q L 0 T))=some o:=kC tn (zN.mpr ⟨ho,by rw [h5,h6]⟩);rw [Av] at hi lk;have Jy:lR (oW E h (.dict (dF q (aC q L 0 T)))) (.glob 6) (kV (r.l,r.n))=some (.tup [.int o.b,vW q o]):=sE nZ lk;by_cases hc':EG q (aC q L 0 T) g r.l r.n
  ·have⟨h9,h10,h11⟩:=h8 hc';have b2:decide ((r.b:Int)<(jQ:Int))=false:=by rw [h9]; exact aT (Int.lt_irrefl _)
   by_cases hb:o.b=jQ
   ·exact VB hs hi Jy (Nz (h10 hb).symm h5) (eq hb) b2
   ·exact abM hs hi Jy (ne hb) b2 hc pZ (fresh (h11 hb))
  ·have⟨h9,h10⟩:=h7 hc';have hv:=Nz (q:=q) (W:=oW E h (.dict (dF q (aC q L 0 T)))) h10 h5;have gx:(!((o.b:Int)==(r.b:Int)))=false:=by rw [eq h9]; rfl
   have hle:=Kn R.wf hr;by_cases hb:o.b=jQ
   ·exact VB hs hi Jy hv (eq hb) (aT (by rw [<-h9,hb]; exact Int.lt_irrefl _))
   ·exact abL hs hi Jy hv (ak (cz.mpr (ic hle λe=>hb (h9.trans e)))) gx (ne hb)
 ·have Av:iE (r.l,r.n) (rK (aC q L 0 T))=none:=by
   rcases e:iE (r.l,r.n) (rK (aC q L 0 T))with _ | o
   ·rfl
   ·have⟨ho,hk⟩:=zN.mp (rO e);exact absurd (cu hk) (h5 o ho)
  rw [Av] at hi;exact VC hs hi hc pZ (fresh h7)
inductive PI(E:WE)(h:HS)(D R0:List (V×V))(tx:Int)(Rs:List gj)(rest:List gj):St->Prop
 | mk (hm:∀ r∈rest,r∈Rs) (x3 x4 x5:Option LV):PI E h D R0 tx Rs rest ⟨pL R0 tx x3 x4 x5,[],oW E h (.dict D)⟩
theorem KG:ai (m+1) 74 [.glob 6,.df (dF q (aC q L' 0 T')),.int jQ] (oW E h (.dict (dF q (aC q L 0 T))))=some (.bool true,oW E h (.dict (dF q (aC q L 0 T)))):=by
 obtain ⟨σ,e,I⟩:=mW (f:=cj (ai m) 74 [0]) (λr:gj=>kV (r.l,r.n)) (PI E h (dF q (aC q L 0 T)) (dF q (aC q L' 0 T')) jQ (aC q L' 0 T')) (λr rs σ I=>by
  injection I with hm x3 x4 x5;obtain ⟨hr,hm⟩:=ah.mp hm;exact ⟨_,zV hq w R hN hl hr,.mk hm _ _ _⟩) (l:=aC q L' 0 T') (.mk (λZ h=>h) none none none)
 injection I with _ y3 y4 y5;rw [<-Mh (q:=q)] at e;exact aaQ e
end
abbrev oj(q tx:Int)(x7 x8 x9 iT iS i4:Option LV):List (Option LV):=[~~~(.glob 1),~~~(iq q),~~~(.glob 4),~~~(.glob 5),~~~(.glob 9),~~~(.glob 6),~~~(.int tx),x7,x8,x9,iT,iS,i4]
abbrev qW(E:WE)(h:HS)(q b8 mo us:Int)(p bv:V)(OD MD:List (V×V)):List aV:=bM {E with w4:=dn b8 mo p us,w6:=.dict OD,w7:=.dict MD,w9:=md q bv mo b8} h []
abbrev PZ(l n:Int)(k:V)(s b f:Int):V:=.tup [.int l,.int n,PV k s l b f]
section
variable{q tx l n b f z c:Int}{k:V}{x7:Option LV}{c0 c1 c2 c3:Option V}{t:Bool}
theorem d1:cD (ai m) 75 [1] [0,0] (PZ l n k s b f) ⟨loc,[c0,c1,c2],W⟩=some ([.tup [.int l,.int n,.int b,.int f]],⟨loc,[some (.int l),some (.int n),some (PV k s l b f)],W⟩):=au (qB ..) [] ⋯
theorem d2(h0:decide (0<l)=true)(he:iA W .Eq (.tup [.int 8,.int l,.int s]) (.tup [.int 8,.int l,.int z])=some true):
  cD (ai m) 75 [2] [0,0,0] (PZ l n k s b f) ⟨oj q tx x7 (~~~(.int z)) x9 iT iS i4,[c0,c1,c2],W⟩=some ([.bool true],⟨oj q tx x7 (~~~(.int z)) x9 iT iS i4,[some (.int l),some (.int n),some (PV k s l b f)],W⟩):=by
 exact au (qB ..) [fT 4 h0,fB 1 he] ⋯
theorem d2z(h0:decide (0<l)=false)(he:iA W .Eq (.tup [.int 8,.int l,.int s]) (.tup [.int 8,.int l,.int 4])=some true):
  cD (ai m) 75 [2] [0,0,0] (PZ l n k s b f) ⟨oj q tx x7 (~~~(.int z)) x9 iT iS i4,[c0,c1,c2],W⟩=some ([.bool true],⟨oj q tx x7 (~~~(.int z)) x9 iT iS i4,[some (.int l),some (.int n),some (PV k s l b f)],W⟩):=by
 exact au (qB ..) [fF 4 h0,fB 1 he] ⋯
theorem d3:cD (ai m) 75 [3] [0,0] (PZ l n k s b f) ⟨loc,[c0,c1,c2],W⟩=some ([.tup [.int l,.int n]],⟨loc,[some (.int l),some (.int n),some (PV k s l b f)],W⟩):=au (qB ..) [] ⋯
theorem d3y:cD (ai m) 75 [3] [0,1] (.tup [.int l,.int n,.int b,.int f]) ⟨loc,[c0],W⟩=some ([.tup [.int l,.int n]],⟨loc,[some (.tup [.int l,.int n,.int b,.int f])],W⟩):=au (qB ..) [] ⋯
theorem d4(HW:ai m 51 [PV k s l b f] W=some (.int c,W)):cD (ai m) 75 [4] [0,0] (PZ l n k s b f) ⟨loc,[c0,c1,c2],W⟩=some ([.int c],⟨loc,[some (.int l),some (.int n),some (PV k s l b f)],W⟩):=au (qB ..) [fC 1 HW] ⋯
theorem d6:lV (ai m) 75 [6] [0,1,0] (PZ l n k s b f) ⟨loc,[c0,c1,c2,c3],W⟩=some ([k],⟨loc,[some (.int l),some (.int n),some (PV k s l b f),some k],W⟩):=au (PL ..) [] ⋯
theorem d8:cD (ai m) 75 [8] [0,0] (PZ l n k s b f) ⟨loc,[c0,c1,c2],W⟩=some ([.tup [.tup [.int l,.int n],.tup [.int b,.tup [k]]]],⟨loc,[some (.int l),some (.int n),some (PV k s l b f)],W⟩):=au (qB ..) [] ⋯
end
theorem J9 {q tx n:Int} {p bv:V} {MD:List (V×V)} {x7:Option LV} (Tj:ai m 59 [.glob 1,iq q,.glob 4,.int n] (qW E h q b8 mo us p bv OD MD)=some (.bytes x,qW E h q b8 mo us p bv OD MD))
  (hg:CQ (qW E h q b8 mo us p bv OD MD) (.glob 7) 57 [.int n,.bytes [0,0,0,0]]=some (.bytes x,qW E h q b8 mo us p bv OD MD)):
  cj (ai m) 75 [7] (.int n) ⟨oj q tx x7 x8 x9 iT iS i4,[],qW E h q b8 mo us p bv OD MD⟩=some (.ez,⟨oj q tx x7 x8 (~~~(.int n)) iT iS i4,[],qW E h q b8 mo us p bv OD MD⟩):=by
 have hx:(!(x==x))=false:=by rw [aG]; rfl
 exact au (fH ..) [fC 0 Tj,fC 2 hg,fF 1 hx] ⋯
theorem Wd{q:Nat}{g:gj->V}{R:List gj}(h:∀ r∈R,∀ x y z,f (kg q r) ⟨loc,[x,y,z],W⟩=some ([g r],⟨loc,[some (.int r.l),some (.int r.n),some (PV (key r.a (bC q r.l)) (jz q r.l) r.l r.b r.f)],W⟩)):
  ∃ cv,dj bT f (R.map (kg q)) ⟨loc,[none,none,none],W⟩=some (R.map g,⟨loc,cv,W⟩):=by
 refine ag (jX (f:=f) (loc:=loc) (W:=W) (λc=>∃ x y z,c=[x,y,z]) (kg q) (λr=>[g r]) (l:=R) (λr hr c ⟨x,y,z,hc⟩=>⟨_,⟨some (.int r.l),some (.int r.n),some (PV (key r.a (bC q r.l)) (jz q r.l) r.l r.b r.f),rfl⟩,by subst hc; exact h r hr x y z⟩) (c:=[none,none,none]) ⟨none,none,none,rfl⟩) λc z1=>And.elim (λZ e=> ?_) z1;exact ⟨c,by rw [<-gh g]; exact e⟩
section
variable{q tx z n:Int}{p bv L:V}{MD:List (V×V)}{RV RT RL RK TL ds ss ns nw as ks:List V}{y9:Option LV}{v1 v2 v3 v4 v5 v6 v8:List (Option V)}
theorem w61(LF:ai m 60 [.glob 1,iq q,p,.int 0,.int s] (qW E h q b8 mo us p bv OD MD)=some (L,qW E h q b8 mo us p bv OD MD)):ai (m+1) 61 [.glob 1,iq q,.glob 4,.int s] (qW E h q b8 mo us p bv OD MD)=some (L,qW E h q b8 mo us p bv OD MD):=au (aZ ..) [fC 1 LF] ⋯
theorem Uh(LF:ai m 60 [.glob 1,iq q,p,.int 0,.int 0] (qW E h q b8 mo us p bv OD MD)=some (L,qW E h q b8 mo us p bv OD MD)):ai (m+1) 61 [.glob 1,iq q,.glob 4] (qW E h q b8 mo us p bv OD MD)=some (L,qW E h q b8 mo us p bv OD MD):=au (aZ ..) [fC 1 LF] ⋯
theorem w44{tl:List aV}(hs:jN (bM E h tl) 6 [.lst ((h.H.map enc).map (·.1))]=some (.lst ss)):ai (m+1) 44 [.glob 1] (bM E h tl)=some (.lst ss,bM E h tl):=au (aZ ..) [fV 2 hs] ⋯
theorem w75 (h61:ai m 61 [.glob 1,iq q,.glob 4] (qW E h q b8 mo us p bv OD MD)=some (.lst RV,qW E h q b8 mo us p bv OD MD)) (hz:d7 .Mult (.int q) (.int 53)=some (.int z))
  (e1:dj bT (cD (ai m) 75 [1] [0,0]) RV ⟨oj q tx (~~~(.lst RV)) (~~~(.int z)) none none none none,[none,none,none],qW E h q b8 mo us p bv OD MD⟩=some (RL,⟨oj q tx (~~~(.lst RV)) (~~~(.int z)) none none none none,v1,qW E h q b8 mo us p bv OD MD⟩))
  (g1:jR RL.length=true) (h73:ai m 73 [.glob 9,.int 0] (qW E h q b8 mo us p bv OD MD)=some (.lst RL,qW E h q b8 mo us p bv OD MD)) (c1:iA (qW E h q b8 mo us p bv OD MD) .NotEq (.lst RL) (.lst RL)=some false)
  (e2:dj bT (cD (ai m) 75 [2] [0,0,0]) RV ⟨oj q tx (~~~(.lst RV)) (~~~(.int z)) none none none none,[none,none,none],qW E h q b8 mo us p bv OD MD⟩=some (TL,⟨oj q tx (~~~(.lst RV)) (~~~(.int z)) none none none none,v2,qW E h q b8 mo us p bv OD MD⟩))
  (g2:jR TL.length=true) (a2:jN (qW E h q b8 mo us p bv OD MD) 3 [.lst TL]=some (.bool true))
  (adm:ai m 61 [.glob 1,iq q,.glob 4,.int (tx-1)] (qW E h q b8 mo us p bv OD MD)=some (.lst RT,qW E h q b8 mo us p bv OD MD))
  (e3:dj bT (cD (ai m) 75 [3] [0,0]) RT ⟨oj q tx (~~~(.lst RV)) (~~~(.int z)) none none none none,[none,none,none],qW E h q b8 mo us p bv OD MD⟩=some (RK,⟨oj q tx (~~~(.lst RV)) (~~~(.int z)) none none none none,v3,qW E h q b8 mo us p bv OD MD⟩))
  (g3:jR RK.length=true) (adk:ai m 73 [.glob 9,.int (tx-1)] (qW E h q b8 mo us p bv OD MD)=some (.lst ps,qW E h q b8 mo us p bv OD MD))
  (e4:dj bT (cD (ai m) 75 [3] [0,1]) ps ⟨oj q tx (~~~(.lst RV)) (~~~(.int z)) none none none none,[none],qW E h q b8 mo us p bv OD MD⟩=some (RK,⟨oj q tx (~~~(.lst RV)) (~~~(.int z)) none none none none,v4,qW E h q b8 mo us p bv OD MD⟩))
  (c3:iA (qW E h q b8 mo us p bv OD MD) .NotEq (.lst RK) (.lst RK)=some false)
  (e5:dj bT (cD (ai m) 75 [4] [0,0]) RV ⟨oj q tx (~~~(.lst RV)) (~~~(.int z)) none none none none,[none,none,none],qW E h q b8 mo us p bv OD MD⟩=some (cs,⟨oj q tx (~~~(.lst RV)) (~~~(.int z)) none none none none,v5,qW E h q b8 mo us p bv OD MD⟩))
  (g5:jR cs.length=true) (a5:jN (qW E h q b8 mo us p bv OD MD) 1 [.lst cs]=some (.int n)) (c5:iA (qW E h q b8 mo us p bv OD MD) .NotEq (.lst [.int us,.int h.ku,.int mo,.int b8]) (.lst [.int n,.int n,.int mo,.int b8])=some false)
  (h44:ai m 44 [.glob 1] (qW E h q b8 mo us p bv OD MD)=some (.lst ss,qW E h q b8 mo us p bv OD MD))
  (e6:dj bT (lV (ai m) 75 [6] [0,1,0]) RV ⟨oj q tx (~~~(.lst RV)) (~~~(.int z)) none (~~~(.int n)) none none,[none,none,none,none],qW E h q b8 mo us p bv OD MD⟩=some (ds,⟨oj q tx (~~~(.lst RV)) (~~~(.int z)) none (~~~(.int n)) none none,v6,qW E h q b8 mo us p bv OD MD⟩))
  (g6:jR ds.length=true) (a6:jN (qW E h q b8 mo us p bv OD MD) 6 [.lst ds]=some (.lst ss)) (c6:iA (qW E h q b8 mo us p bv OD MD) .NotEq (.lst ss) (.lst ss)=some false)
  (a7:jN (qW E h q b8 mo us p bv OD MD) 6 [.glob 7]=some (.lst ns)) (b7:d7 .Add (.lst ns) (.lst [.int (mo+1),.int 40])=some (.lst nw))
  (e7:dO bT (cj (ai m) 75 [7]) nw ⟨oj q tx (~~~(.lst RV)) (~~~(.int z)) none (~~~(.int n)) none none,[],qW E h q b8 mo us p bv OD MD⟩=some (.ez,⟨oj q tx (~~~(.lst RV)) (~~~(.int z)) y9 (~~~(.int n)) none none,[],qW E h q b8 mo us p bv OD MD⟩))
  (e8:dj bT (cD (ai m) 75 [8] [0,0]) RV ⟨oj q tx (~~~(.lst RV)) (~~~(.int z)) y9 (~~~(.int n)) none none,[none,none,none],qW E h q b8 mo us p bv OD MD⟩=some (as,⟨oj q tx (~~~(.lst RV)) (~~~(.int z)) y9 (~~~(.int n)) none none,v8,qW E h q b8 mo us p bv OD MD⟩))
  (g8:jR as.length=true) (a8:jN (qW E h q b8 mo us p bv OD MD) 8 [.lst as]=some (.df D)) (h74:ai m 74 [.glob 6,.df D,.int tx] (qW E h q b8 mo us p bv OD MD)=some (.bool true,qW E h q b8 mo us p bv OD MD))
  (hc:CQ (qW E h q b8 mo us p bv OD MD) (.glob 6) 58 []=some (.none,qW E h q b8 mo us p bv [] MD)) (hu:CQ (qW E h q b8 mo us p bv [] MD) (.glob 6) 59 [.df D]=some (.none,qW E h q b8 mo us p bv D MD)):
  ai (m+1) 75 [.glob 1,iq q,.glob 4,.glob 5,.glob 9,.glob 6,.int tx] (qW E h q b8 mo us p bv OD MD)=some (.bool true,qW E h q b8 mo us p bv D MD):=by
 exact au (aZ ..) [fC 0 h61,fV 1 hz,fL 1 e1,fT 0 g1,fC 0 h73,fB 0 c1,fL 2 e2,fT 0 g2,fV 0 a2,fC 2 adm,fL 1 e3,fT 0 g3,fC 1 adk,fL 1 e4,fT 0 g3,fB 0 c3,fL 2 e5,fT 0 g5,fV 0 a5,fB 6 c5,fC 1 h44,fL 1 e6,fT 0 g6,fV 0 a6,fB 0 c6,fV 2 a7,fV 2 b7,fO 1 e7,fL 1 e8,fT 0 g8,fV 0 a8,fC 0 h74,fC 0 hc,fC 0 hu] ⋯
end
def p6:Nat->V->Bool
 | 0,_=>false
 | n+1,v=>match v with
  | .none=>true
  | .bool _=>true
  | .int _=>true
  | .bytes _=>true
  | .tup l=>l.all (p6 n)
  | .lst l=>l.all (p6 n)
  | _=>false
theorem tZ{f:V->V->Option Bool}{l:List V}(h:∀ x∈l,f x x=some true):vf f l l=some true:=by
 induction l with
 | nil=>rfl
 | cons x r ih=>obtain ⟨h1,h2⟩:=ah.mp h;show(f x x).bind (λb=>(vf f r r).map (b&&·))=_;rw [h1,ih h2]; rfl
theorem wQ(n:Nat):∀ {v:V},p6 n v=true->vg n v v=some true:=by
 induction n with
 | zero=>exact λ{v} h=>(Bool.noConfusion h)
 | succ n ih=>
  intro v h;induction v using lH with
  | none=>rfl
  | bool b=>exact av some (aG b)
  | int i=>exact av some (aG i)
  | Jw k=>exact (Bool.noConfusion h)
  | bytes b=>exact av some (aG b)
  | tup l=>show(bif l.length==l.length then vf (vg n) l l else _)=_;rw [aG]; exact tZ λx hx=>ih (aK.mp h x hx)
  | lst l=>show(bif l.length==l.length then vf (vg n) l l else _)=_;rw [aG]; exact tZ λx hx=>ih (aK.mp h x hx)
  | df l=>exact (Bool.noConfusion h)
  | inst c l=>exact (Bool.noConfusion h)
  | glob k=>exact (Bool.noConfusion h)
  | ql a b c=>exact (Bool.noConfusion h)
theorem mU(h:p6 6 v=true):iA W .NotEq v v=some false:=by show(vg 6 v v).map (!·)=_;rw [wQ 6 h]; rfl
theorem oV{f:α->V}{l:List α}(h:∀ x,p6 n (f x)=true):p6 (n+1) (.lst (l.map f))=true:=by show(l.map f).all (p6 n)=true;rw [f9]; exact aK.mpr λx Z=>h x
theorem Ge{q:Nat}(l:Nat):∀ {num:Nat} {t:Tr l},WF q tx l t->∀ r∈aC q l num t,1<=r.b:=by
 induction l with
 | zero=>
  intro num t w r h;rcases (t:Option _)with _ | ⟨b,a,x⟩
  ·exact (eX h)
  ·rw [ay.mp h]; exact w.1
 | succ l ih=>
  intro num t w r h;rcases (t:Option _)with _ | ⟨b,a,ch⟩
  ·exact (eX h)
  ·rcases aH.mp h with h | h
   ·rw [h]; exact w.1
   ·obtain ⟨j,hj,h⟩:=(dU (dP l)).mp h;exact ih (w.2.2.2.1 _ (ee (dP l) hj)).1 r h
def S3(c:Wy):List Int:=[0,(c.1:Int),(c.2:Int)]
theorem BH{a b:Wy}(h:S3 a=S3 b):a=b:=by have h:=(cQ h).2;exact Prod.ext (cx (cQ h).1) (cx (cQ (cQ h).2).1)
theorem G0{f:α->β}(h:∀ a b,f a=f b->a=b){l:List α}(n:l.Nodup):(l.map f).Nodup:=br.mpr (List.Pairwise.imp (λ{a b} uE hc=>uE (h a b hc)) n)
abbrev ZI(l:List Wy):List V:=(jj uu (l.map S3)).map tI
theorem vj{l:List Wy}(hl:l.length<64)(hn:l.Nodup):jN W 6 [.lst (l.map λc=>key c.1 c.2)]=some (.lst (ZI l)):=by show(bif decide (_<64)then(nu (l.map λe=>V.tup ((S3 e).map V.int))).map V.lst else none)=_;rw [ak (by rw [ao]; exact hl),ra (f:=S3) (n:=3) ∅ (λZ Z=>rfl) (G0 (λZ Z=>BH) hn)]; rfl
theorem Df{l m:List Wy}(p:l.Perm m)(hn:l.Nodup):ZI l=ZI m:=av (List.map tI) (tB GJ (p.map S3) (G0 (λZ Z=>BH) hn))
theorem ND.ZP{H:List En}(h:ND H):(H.map λe=>(e.1,e.2.1)).Nodup:=br.mpr ((br.mp h).imp λ{a b} uE hc=>uE (cu hc).1)
theorem It{q:Nat}{R:List gj}(hR:R.length<=1000)(hn:(R.map λr=>(r.l,r.n)).Nodup):jN W 8 [.lst (R.map λr=>V.tup [kV (r.l,r.n),tw q r])]=some (.df (dF q R)):=by
 have e:dF q R=R.map λr=>(kV (r.l,r.n),tw q r):=by unfold dF rK; rw [aU]; rfl
 show(nc (R.map λr=>V.tup [kV (r.l,r.n),tw q r])).bind Me=_;rw [show nc (R.map λr=>V.tup [kV (r.l,r.n),tw q r])=some (dF q R)from e▸jo R λZ Z=>rfl];have pw:(dF q R).Pairwise λa b=>dK a.1 b.1=false:=by rw [e];refine br.mpr ((br.mp hn).imp λ{a b} uE=> ?_);show dK (kV (a.l,a.n)) (kV (b.l,b.n))=false;rw [show dK (kV (a.l,a.n)) (kV (b.l,b.n))=DM (b.l,b.n) ((a.l,a.n),a)from xM _ _];exact eF.mpr λh=>uE (oO.mp h)
 show iv _ (V.df (jM [] (dF q R)))=_;rw [qt (D:=[]) (P:=dF q R) (λZ Z d hd=>(eX hd)) pw];refine gv (dk (ak (by rw [AP]; exact hR)) (aK.mpr λx hx=> ?_));rw [e] at hx;obtain ⟨r,_,rfl⟩:=ba.mp hx;exact nZ
section
variable{q:Nat}
theorem pY{H:List En}(p:H.Perm (ents q L T)):(H.map λe=>(e.1,e.2.1)).Perm ((aC q L 0 T).map λr=>(r.a,bC q r.l)):=by have:=p.map (λe:En=>(e.1,e.2.1));rw [<-um (q:=q) L (num:=0),aU] at this;exact this
abbrev rAt(q:Nat)(R:List gj):List Wy:=R.map λr=>(r.a,bC q r.l)
variable(I:oh q tx L T mo M Bi)
include I
theorem NJ{tl:List aV}(jq:q<=3)(hn:ND h.H)(p:h.H.Perm (ents q L T)):ai (m+1) 44 [.glob 1] (bM E h tl)=some (.lst (ZI (rAt q (aC q L 0 T))),bM E h tl):=by have hp:=pY p;have hlen:=hp.length_eq;rw [ao,ao] at hlen;refine w44 ?_;rw [<-Df hp hn.ZP,<-vj (W:=bM E h tl) (by rw [ao,hlen]; exact az (I.zK jq) ∅) hn.ZP,aU,aU]; rfl
theorem Sa(hq:q=2\/q=3)(n:Nat):(bif decide ((n:Int)<=mo)then El q L T n else [0,0,0,0])=(cK M n).getD [0,0,0,0]:=by
 have q0:0<q:=ax ∅ (q2 hq);have Ce:=vG hq I.m6;rw [<-I.lv,Nat.add_sub_cancel] at Ce;induction hn:decide ((n:Int)<=mo)using eK with
 | true=>
  have hd:n / q ^ L=0:=Nat.div_eq_of_lt (cz.mp (Int.lt_of_le_of_lt (fc hn) Ce));show El q L T n=_;unfold El;rcases e:(nv q L T n:Option (Nat×Nat×By))with _ | ⟨b,a,x⟩
  ·rcases e2:cK M n with _ | x
   ·rfl
   ·obtain ⟨b,a,h⟩:=(xI q0 L I.w hd).mp ((I.con n x).mp e2);exact nn (e.symm.trans h)
  ·rw [(I.con n x).mpr ((xI q0 L I.w hd).mpr ⟨b,a,e⟩)]; rfl
 | false=>
  rcases e2:cK M n with _ | x
  ·rfl
  ·exact absurd (I.mb _ (fA e2)) (eU hn)
theorem TY(hq0:0<q):je (dF q (aC q L 0 T))=true:=by unfold je dF rK;rw [f9,f9];refine aK.mpr λr hr=> ?_;have:=I.bound hq0 hr;have i8:∀ {n:Nat},n<=7->ZV (n:Int)=true:=λh=>dk (ak (aN _)) (ak (mj (c:=8) h ∅));exact dk (i8 (af this.1 ∅)) (i8 (af this.2 ∅))
theorem Ho(hq0:0<q)(jq:q<=3)(h:W[7]? =some (.dict (M.map bE))):∃ ns:List Nat,jN W 6 [.glob 7]=some (.lst (ns.map λn:Nat=>V.int n))/\ns.length<=40:=by have Jz:=I.K0 hq0 jq;have tn:(M.map λe=>((e.1:Nat):Int)).Nodup:=br.mpr ((br.mp I.kn).imp λ{a b} uE hc=>uE (cx hc));have hp:=jU (lt:=λa b:Int=>decide (a<b)) (M.map λe=>((e.1:Nat):Int));refine ⟨(jj (λa b:Int=>decide (a<b)) (M.map λe=>((e.1:Nat):Int))).map Int.toNat,?_,by rw [ao,hp.length_eq,ao]; exact Jz⟩;show((eJ W 7).map λl=>l.map (·.1)).bind U2=_;unfold eJ;rw [h];show(bif decide (((M.map bE).map (·.1)).length<64)then(nu ((M.map bE).map (·.1))).map V.lst else none)=_;rw [aU,ak (by rw [ao]; exact az Jz ∅)];show(nu (M.map λe=>V.int ((e.1:Nat):Int))).map V.lst=_;rw [zh (f:=λe:Nat×By=>((e.1:Nat):Int)) tn,aU];refine av (λl=>some (V.lst l)) (List.map_congr_left λx hx=> ?_);obtain ⟨y,_,rfl⟩:=ba.mp (hp.subset hx);rfl
end
theorem CA(h:p6 6 v=true):iA W .Eq v v=some true:=wQ 6 h
section
variable{q:Int}{p bv:V}{d:By}
theorem Ra:CQ (qW E h q b8 mo us p bv OD (M.map bE)) (.glob 7) 57 [.int n,.bytes d]=some (.bytes ((cK M n).getD d),qW E h q b8 mo us p bv OD (M.map bE)):=by show iv (ju (.int n) (M.map bE)) ((ey (.int n) (M.map bE)).getD (.bytes d),qW E h q b8 mo us p bv OD (M.map bE))=_;rw [ly];refine (gv (jZ _)).trans ?_;rcases cK M n with _ | x <;> rfl
theorem IS(hs:gS OD=true):CQ (qW E h q b8 mo us p bv OD (M.map bE)) (.glob 6) 58 []=some (.none,qW E h q b8 mo us p bv [] (M.map bE)):=
 gv (b:=true&&gS OD) hs
theorem C9(hs:gS D=true)(hk:je D=true):CQ (qW E h q b8 mo us p bv [] (M.map bE)) (.glob 6) 59 [.df D]=some (.none,qW E h q b8 mo us p bv D (M.map bE)):=
 gv (b:=true&&gS D&&je D) (dk hs hk)
end
theorem zH{q:Nat}(jq:q<=3)(l:List gj):(l.map λr=>bC q r.l).sum<=l.length*10:=ri λr Z=>sF r.l jq
theorem Lp {q:Nat} {bv:V} (I:oh q tx L T mo M Bi) (hW:MI {E with w6:=.dict OD,w7:=.dict (M.map bE),w9:=md q bv mo ((L+1:Nat):Int)})
  (hq:q=2\/q=3) (gF:tx<=1000) (hb:ER E.w8 bv Bi) (hOD:gS OD=true) (ok:iw h k) (p:h.H.Perm (ents q L T)) (hku:h.ku=dS q L T)
  (h74:ai (m+13) 74 [.glob 6,.df (dF q (aC q L 0 T)),.int tx] (qW E h q ((L+1:Nat):Int) mo (dS q L T:Nat) (ptr q L T) bv OD (M.map bE))=some (.bool true,qW E h q ((L+1:Nat):Int) mo (dS q L T:Nat) (ptr q L T) bv OD (M.map bE))):
  ai (m+14) 75 [.glob 1,iq q,.glob 4,.glob 5,.glob 9,.glob 6,.int tx] (qW E h q ((L+1:Nat):Int) mo (dS q L T:Nat) (ptr q L T) bv OD (M.map bE))=some (.bool true,qW E h q ((L+1:Nat):Int) mo (dS q L T:Nat) (ptr q L T) bv (dF q (aC q L 0 T)) (M.map bE)):=by
 have q0:0<q:=ax ∅ (q2 hq);have jq:=q3 hq;have hL:=I.lvl;have Ce:=vG hq I.m6;rw [<-I.lv,Nat.add_sub_cancel] at Ce;have hs:∀ e∈ents q L T,e∈h.H:=λe he=>p.symm.subset he;have HT:=I.zK jq;have tn:=jV (num:=0) q0 I.w;have LF:=λs:Int=>I1 (s:=s) (m:=m+(7-L)) (E:={E with w4:=dn ((L+1:Nat):Int) mo (ptr q L T) (dS q L T:Nat),w6:=.dict OD,w7:=.dict (M.map bE),w9:=md q bv mo ((L+1:Nat):Int)}) ok hq gF (hW.at (aA 10)) L (num:=0) (t:=T) (bz hL) (by
  rw [bF,Nat.one_mul]; exact af (jg jq (bz hL)) ∅) I.w hs
 rw [bP m,Nat.sub_add_cancel (af hL ∅)] at LF;have acD:ja 0 (aC q L 0 T)=aC q L 0 T:=List.filter_eq_self.mpr λr hr=>ak (Int.natCast_pos.mpr (Ge L I.w r hr));have XI:=LF 0;have h73:=λs:Int=>Li I (m:=m+12) (E:={E with w4:=dn ((L+1:Nat):Int) mo (ptr q L T) (dS q L T:Nat),w6:=.dict OD}) (h:=h) (b8:=((L+1:Nat):Int)) (s:=s) hq hb;have XG:=h73 0;rw [acD] at XI XG;have WW:(ja ((tx:Int)-1) (aC q L 0 T)).length<=40:=af (dx _ _) HT;have Tj:=λn:Nat=>Dn (E:={E with w6:=.dict OD,w7:=.dict (M.map bE),w9:=md q bv mo ((L+1:Nat):Int)}) (m:=m+7) (n:=n) (us:=(dS q L T:Nat)) ok hq gF hL I.w hs hW Ce;obtain ⟨ns,xZ,hnl⟩:=Ho I q0 jq (W:=qW E h q ((L+1:Nat):Int) mo (dS q L T:Nat) (ptr q L T) bv OD (M.map bE)) rfl;have HF:∀ {α β:Type} {f:α->β} {l:List α},l.length<=40->jR (l.map f).length=true:=λhl=>ak (by rw [ao]; exact af hl ∅);have WT:=Bu (W:=qW E h q ((L+1:Nat):Int) mo (dS q L T:Nat) (ptr q L T) bv OD (M.map bE)) (fs:=(aC q L 0 T).map λr=>bC q r.l) (by rw [ao]; exact af HT ∅) (af (zH jq _) (af (bU 10 HT) ∅));rw [aU,Km L] at WT;have WU:=vj (W:=qW E h q ((L+1:Nat):Int) mo (dS q L T:Nat) (ptr q L T) bv OD (M.map bE)) (l:=rAt q (aC q L 0 T)) (by rw [ao]; exact az HT ∅) ((pY p).nodup_iff.mp ok.nd.ZP);rw [aU] at WU;have hU:=mH (W:=qW E h q ((L+1:Nat):Int) mo (dS q L T:Nat) (ptr q L T) bv OD (M.map bE)) ((aC q L 0 T).map λZ=>true);rw [aU,show((aC q L 0 T).map λZ=>true).all id=true by rw [f9]; exact aK.mpr λZ Z=>rfl] at hU;have hz:d7 .Mult (.int q) (.int 53)=some (.int ((q*53:Nat):Int)):=j6 (b:=53) (af jq ∅) ∅;have acO:(((mo+1).toNat:Nat):Int)=mo+1:=Int.toNat_of_nonneg (by have:=I.m0; lia);obtain ⟨v1,e1⟩:=Wd (f:=cD (ai (m+13)) 75 [1] [0,0]) (loc:=oj q tx (~~~(.lst ((aC q L 0 T).map (kg q)))) (~~~(.int ((q*53:Nat):Int))) none none none none) (W:=qW E h q ((L+1:Nat):Int) mo (dS q L T:Nat) (ptr q L T) bv OD (M.map bE)) (g:=Dl) (R:=aC q L 0 T) λr Z x y z=>d1;obtain ⟨v2,e2⟩:=Wd (f:=cD (ai (m+13)) 75 [2] [0,0,0]) (loc:=oj q tx (~~~(.lst ((aC q L 0 T).map (kg q)))) (~~~(.int ((q*53:Nat):Int))) none none none none) (W:=qW E h q ((L+1:Nat):Int) mo (dS q L T:Nat) (ptr q L T) bv OD (M.map bE)) (g:=λZ=>V.bool true) (R:=aC q L 0 T) λr Z x y z=>by
  obtain ⟨l,n,b,a,f,o⟩:=r;rcases l with _ | l
  ·exact d2z rfl (CA rfl)
  ·exact d2 (ak (Int.natCast_pos.mpr (cN l))) (CA rfl)
 obtain ⟨v3,e3⟩:=Wd (f:=cD (ai (m+13)) 75 [3] [0,0]) (loc:=oj q tx (~~~(.lst ((aC q L 0 T).map (kg q)))) (~~~(.int ((q*53:Nat):Int))) none none none none) (W:=qW E h q ((L+1:Nat):Int) mo (dS q L T:Nat) (ptr q L T) bv OD (M.map bE)) (g:=λr=>kV (r.l,r.n)) (R:=ja ((tx:Int)-1) (aC q L 0 T)) λr Z x y z=>d3;obtain ⟨v4,e4⟩:=gQ (f:=cD (ai (m+13)) 75 [3] [0,1]) (loc:=oj q tx (~~~(.lst ((aC q L 0 T).map (kg q)))) (~~~(.int ((q*53:Nat):Int))) none none none none) (W:=qW E h q ((L+1:Nat):Int) mo (dS q L T:Nat) (ptr q L T) bv OD (M.map bE)) Dl (λr=>[kV (r.l,r.n)]) (l:=ja ((tx:Int)-1) (aC q L 0 T)) (λr Z y=>d3y) none;rw [gh] at e4;obtain ⟨v5,e5⟩:=Wd (f:=cD (ai (m+13)) 75 [4] [0,0]) (loc:=oj q tx (~~~(.lst ((aC q L 0 T).map (kg q)))) (~~~(.int ((q*53:Nat):Int))) none none none none) (W:=qW E h q ((L+1:Nat):Int) mo (dS q L T:Nat) (ptr q L T) bv OD (M.map bE)) (g:=λr=>V.int (bC q r.l)) (R:=aC q L 0 T) λr Z x y z=>d4 (SY (aN _) (Ov jq));obtain ⟨v6,_,e6⟩:=jX (f:=lV (ai (m+13)) 75 [6] [0,1,0]) (loc:=oj q tx (~~~(.lst ((aC q L 0 T).map (kg q)))) (~~~(.int ((q*53:Nat):Int))) none (~~~(.int (dS q L T:Nat))) none none) (W:=qW E h q ((L+1:Nat):Int) mo (dS q L T:Nat) (ptr q L T) bv OD (M.map bE)) (λc=>∃ x y z w,c=[x,y,z,w]) (kg q) (λr=>[key r.a (bC q r.l)]) (l:=aC q L 0 T)
  (λr _ c ⟨x,y,z,w,hc⟩=>⟨_,⟨some (.int r.l),some (.int r.n),some (PV (key r.a (bC q r.l)) (jz q r.l) r.l r.b r.f),some (key r.a (bC q r.l)),rfl⟩,by subst hc; exact d6⟩) (c:=[none,none,none,none]) ⟨none,none,none,none,rfl⟩
 rw [gh] at e6;obtain ⟨σ',e7,y9,vP⟩:=mW (f:=cj (ai (m+13)) 75 [7]) (λn:Nat=>V.int n) (λZ σ=>∃ y9,σ=⟨oj q tx (~~~(.lst ((aC q L 0 T).map (kg q)))) (~~~(.int ((q*53:Nat):Int))) y9 (~~~(.int (dS q L T:Nat))) none none,[],qW E h q ((L+1:Nat):Int) mo (dS q L T:Nat) (ptr q L T) bv OD (M.map bE)⟩)
  (λn r σ ⟨y9,vP⟩=>by
   subst vP;have Tj:=Tj n;rw [Sa I hq n] at Tj;exact ⟨_,J9 Tj Ra,_,rfl⟩) (l:=ns++ [(mo+1).toNat,40]) ⟨none,rfl⟩
 subst vP;rw [iH,show [(mo+1).toNat,40].map (λn:Nat=>V.int n)=[V.int (mo+1),V.int 40] from av (λi=>[V.int i,V.int 40]) acO] at e7;obtain ⟨v8,e8⟩:=Wd (f:=cD (ai (m+13)) 75 [8] [0,0]) (loc:=oj q tx (~~~(.lst ((aC q L 0 T).map (kg q)))) (~~~(.int ((q*53:Nat):Int))) y9 (~~~(.int (dS q L T:Nat))) none none) (W:=qW E h q ((L+1:Nat):Int) mo (dS q L T:Nat) (ptr q L T) bv OD (M.map bE)) (g:=λr=>V.tup [kV (r.l,r.n),tw q r]) (R:=aC q L 0 T) λr Z x y z=>d8;exact w75 (Uh XI) hz e1 (HF HT) XG (mU (oV λZ=>rfl)) e2 (HF HT) hU (w61 (LF _)) e3 (HF WW) (h73 _) e4 (mU (oV λZ=>rfl)) e5 (HF HT) WT (by rw [hku]; exact mU rfl) (NJ I jq ok.nd p) e6 (HF HT) WU
  (mU (oV λt=>by show(t.map V.int).all (p6 4)=true; rw [f9]; exact aK.mpr λZ Z=>rfl)) xZ (gv (ak (by rw [ao]; exact af (bG hnl 2) ∅))) e7 e8 (HF HT) (It (af HT ∅) tn) h74 (IS hOD)
  (C9 (ak (by rw [AP]; exact az HT ∅)) (TY I q0))
def abq(n k i c:Nat)(σ:St):O (Out×St):=Tp eu (ai n) (nr k) 12 (((hO k).drop i).take c) σ
theorem F6(n k i c:Nat)(σ:St):bg (abq n k i c σ) (lZ (ai n) k i c σ):=Vg ..
section
variable{l l':List V}{k x v:Int}
theorem Ub(hp:CQ (.list l::Wr) (.glob 0) 56 []=some (.int x,.list l'::Wr))(he:(l.isEmpty != true)=true)(hm:d7 .Mod (.int x) (.int k)=some (.int v)):ai (m+1) 67 [.glob 0,.int k] (.list l::Wr)=some (.int v,.list l'::Wr):=au (aZ ..) [fT 0 he,fC 0 hp,fV 0 hm] ⋯
theorem Uc:ai (m+1) 67 [.glob 0,.int k] (.list []::Wr)=some (.int 0,.list []::Wr):=au (aZ ..) [] ⋯
theorem w84:ai (m+1) 84 [.glob 1] [.list l,.inst 4 []]=some (.none,[.list l,.inst 4 [.int 16,.glob 2,.glob 3,.int 1,.int 0],.dict [],.dict []]):=au (aZ ..) [] ⋯
abbrev W4(l:List V):List aV:=[.list l,.inst 4 [.int 16,.glob 2,.glob 3,.int 1,.int 0],.dict [],.dict []]
theorem w82:ai (m+1) 82 [.glob 4,.int 8,.int 4] (W4 l++ [.inst 2 []])=some (.none,W4 l++ [dn 1 (-1) .none 0]):=au (aZ ..) [] ⋯
theorem w85:ai (m+1) 85 [.glob 5,.glob 1] (W4 l++ [dn 1 (-1) .none 0,.inst 5 []])=some (.none,W4 l++ [dn 1 (-1) .none 0,.inst 5 [.glob 1,.int 0,.int 0,.int 0]]):=au (aZ ..) [] ⋯
theorem ab7{q:Int}(h2:W.all (nk W.length)=true):G3 bT (ai (m+1)) 6 (kU (.int q)) W=some (iq q,W):=Ac (c:=6) w86 rfl h2
end
theorem pE(ts:List Int)(hk:1<=k):∃ (v:Nat) (S0:List Int),v<k/\∀ Wr,ai (m+1) 67 [.glob 0,.int k] (.list (ts.map V.int)::Wr)=some (.int v,.list (S0.map V.int)::Wr):=by
 rcases List.eq_nil_or_concat ts with h | ⟨r,x,h⟩
 ·subst h; exact ⟨0,[],hk,λWr=>Uc⟩
 ·subst h;have k0:(0:Int)<(k:Int):=Int.natCast_pos.mpr hk;have h0:((x.fmod k).toNat:Int)=x.fmod k:=Int.toNat_of_nonneg (Int.fmod_nonneg_of_pos x k0);have h1:=Int.fmod_lt_of_pos x k0;refine ⟨(x.fmod k).toNat,r,cz.mp (by rw [h0]; exact h1),λWr=> ?_⟩;rw [List.concat_eq_append,iH,h0];refine Ub (x:=x) ?_ ?_ (gv (nz hk))
  ·show((r.map V.int++ [V.int x]).getLast?).map _=_;rw [List.getLast?_append];show some (V.int x,aV.list ((r.map V.int++ [V.int x]).dropLast)::Wr)=_;rw [List.dropLast_concat]
  ·induction r using lh <;> rfl
abbrev ll(jA:V)(q tx:Int)(x5 x6 x7 x8 x9 iT iS i4 iQ:Option LV):List (Option LV):=[~~~jA,~~~(.glob 0),~~~(.int q),~~~(.glob 6),~~~(.glob 9),x5,x6,x7,x8,x9,iT,iS,i4,iQ,
 ~~~(.glob 4),~~~(.glob 1),~~~(.glob 5),~~~dD,~~~(iq q),~~~(.int tx)]
section
variable{W1 W2:List aV}{q tx k n v o:Int}{x5:Option LV}(h7:ai m 67 [.glob 0,.int 7] W=some (.int n,W1))(h4:ai m 67 [.glob 0,.int 4] W1=some (.int v,W2))(hm:d7 .Mult (.int v) (.int 5)=some (.int o))
 (hg:(ju (.int n) D&&gS D)=true)
include h7 h4 hm hg
theorem Wq(hb:decide (0<o)=true)(hx:jN W2 10 [.lst [.int o,.int 0,.int o,.int k]]=some (.bytes x)):cj (ai m) 76 [6,2,1] (.int k) ⟨ll jA q tx x5 x6 (some (.od D)) x8 x9 iT iS i4 iQ,[],W⟩=
  some (.ez,⟨ll jA q tx x5 x6 (some (.od (gq (.int n) (.bytes x) D))) (~~~(.int k)) (~~~(.int n)) (~~~(.int o)) iS i4 iQ,[],W2⟩):=by
 exact au (fH ..) [fC 0 h7,fC 0 h4,fV 0 hm,fT 0 hb,fV 1 hx,fT 0 hg] ⋯
theorem Wt(hb:decide (0<o)=false)(hx:jN W2 10 [.lst [.int o,.int 0,.int o,.int 0]]=some (.bytes x)):cj (ai m) 76 [6,2,1] (.int k) ⟨ll jA q tx x5 x6 (some (.od D)) x8 x9 iT iS i4 iQ,[],W⟩=
  some (.ez,⟨ll jA q tx x5 x6 (some (.od (gq (.int n) (.bytes x) D))) (~~~(.int k)) (~~~(.int n)) (~~~(.int o)) iS i4 iQ,[],W2⟩):=by
 exact au (fH ..) [fC 0 h7,fC 0 h4,fV 0 hm,fF 0 hb,fV 1 hx,fT 0 hg] ⋯
end
theorem four{b:Nat}(ha:a<256)(hb:b<256):∃ x:By,jN W 10 [.lst [.int (a:Nat),.int 0,.int (a:Nat),.int (b:Nat)]]=some (.bytes x)/\x.length=4:=by
 have t:∀ {a:Nat},a<256->iy (a:Int)=some (UInt8.ofNat a):=λ{a} h=>by
  have h':(a:Int)<256:=cz.mpr h;unfold iy;rw [ak (aN a),ak h']; rfl
 have e:∀ {a c d e:Int} {w x y z:UInt8},iy a=some w->iy c=some x->iy d=some y->iy e=some z->jN W 10 [.lst [.int a,.int c,.int d,.int e]]=some (.bytes [w,x,y,z]):=λ{a c d e w x y z} h1 h2 h3 h4=>by
  show((iy a).bind λp=>((iy c).bind λq=>((iy d).bind λr=>((iy e).bind λs=>(some []).map (s::·)).map (r::·)).map (q::·)).map (p::·)).map V.bytes=_;rw [h1,h2,h3,h4]; rfl
 exact ⟨_,e (t ha) (t (a:=0) ∅) (t ha) (t hb),rfl⟩
structure Tx(B:List (Nat×By)):Prop where
 kn:KN B
 rg:∀ e∈B,e.1<=6/\e.2.length=4
theorem Tx.put(b:Tx B)(hn:n<7)(hx:x.length=4):Tx (nM n x B):=by
 refine ⟨vx b.kn,λe he=> ?_⟩;have h2:=jc (vx (n:=n) (x:=x) b.kn) he;rw [mR] at h2;induction hc:n==e.1 using eK with
 | true=>rw [hc] at h2; rw [<-ae h2,<-aD.mp hc]; exact ⟨d9 hn,hx⟩
 | false=>rw [hc] at h2; exact b.rg _ (fA h2)
inductive KL(m:Nat)(Wr:List aV)(jA:V)(q tx:Int)(ks:List Nat)(ts:List Int)(B:List (Nat×By))(x5 x6 x8 x9 iT iS i4 iQ:Option LV):Prop
 | mk (B':List (Nat×By)) (S0:List Int) (y8 y9 Bh:Option LV) (e:dO bT (cj (ai (m+1)) 76 [6,2,1]) (ks.map λk:Nat=>V.int k) ⟨ll jA q tx x5 x6 (some (.od (B.map bE))) x8 x9 iT iS i4 iQ,[],.list (ts.map V.int)::Wr⟩=
   some (.ez,⟨ll jA q tx x5 x6 (some (.od (B'.map bE))) y8 y9 Bh iS i4 iQ,[],.list (S0.map V.int)::Wr⟩)) (b:Tx B') (l:B'.length<=B.length+ks.length) (ne:ks≠ []\/B≠ [] ->B'≠ [])
theorem QA{q tx:Int}{x5:Option LV}(ks:List Nat):∀ {ts:List Int} {B:List (Nat×By)} {x8 x9 iT:Option LV},(∀ k∈ks,k<256)->Tx B->B.length+ks.length<=1000->KL m Wr jA q tx ks ts B x5 x6 x8 x9 iT iS i4 iQ:=by
 induction ks with
 | nil=>exact λ{ts B x8 x9 iT} Z b Z=>⟨B,ts,x8,x9,iT,rfl,b,aA _,λh=>h.elim (λh=>absurd rfl h) id⟩
 | cons k r ih=>
  intro ts B x8 x9 iT hk b hl;refine And.elim (λQR hk=> ?_) (ah.mp hk);rw [bZ,<-bP,Nat.add_right_comm] at hl;refine ag (pE (m:=m) ts (k:=7) ∅) λn z1=>ag z1 λZF z2=>And.elim (λhn e7=> ?_) z2;refine ag (pE (m:=m) ZF (k:=4) ∅) λv z1=>ag z1 λEF z2=>And.elim (λhv e4=> ?_) z2;have hv5:v*5<256:=az (bU 5 (d9 hv)) ∅;have hm:=j6 (a:=v) (b:=5) (af (bV hv) ∅) ∅;have hg:(ju (.int n) (B.map bE)&&gS (B.map bE))=true:=dk (jZ _) (FK (az (af (af (da _) (aB _ _)) hl) ∅));have t:∃ x:By,x.length=4/\cj (ai (m+1)) 76 [6,2,1] (.int k) ⟨ll jA q tx x5 x6 (some (.od (B.map bE))) x8 x9 iT iS i4 iQ,[],.list (ts.map V.int)::Wr⟩=
    some (.ez,⟨ll jA q tx x5 x6 (some (.od ((nM n x B).map bE))) (~~~(.int k)) (~~~(.int n)) (~~~(.int ((v*5:Nat):Int))) iS i4 iQ,[],.list (EF.map V.int)::Wr⟩):=by
   induction hb:decide ((0:Int)<((v*5:Nat):Int))using eK with
   | true=>refine ag (four (W:=.list (EF.map V.int)::Wr) hv5 QR) λx z1=>And.elim (λhx WM=> ?_) z1;exact ⟨x,WM,by rw [<-p9]; exact Wq (e7 _) (e4 _) hm hg hb hx⟩
   | false=>refine ag (four (W:=.list (EF.map V.int)::Wr) hv5 (b:=0) ∅) λx z1=>And.elim (λhx WM=> ?_) z1;exact ⟨x,WM,by rw [<-p9]; exact Wt (e7 _) (e4 _) hm hg hb hx⟩
  refine ag t λx z1=>And.elim (λWM t=> ?_) z1;injection ih (ts:=EF) (B:=nM n x B) (x8:= ~~~(.int k)) (x9:= ~~~(.int n)) (iT:= ~~~(.int ((v*5:Nat):Int))) hk (b.put hn WM) (af (bG rD _) hl)with B' S0 y8 y9 Bh e c1 c2 c3;refine ⟨B',S0,y8,y9,Bh,gk t e,c1,af c2 (af (bG rD _) (bW (by rw [bZ,Nat.add_right_comm,bP]))),λZ=>c3 (.inr λhc=> ?_)⟩;have h2:=mR (n:=n) (k:=n) (x:=x) (M:=B);rw [hc,aG] at h2;exact nn h2
theorem wN{l:List Int}:lP n (l.map V.int)=true:=by
 induction l with
 | nil=>rfl
 | cons x r ih=>exact ih
theorem rd{f:α->V×V}(h:∀ x,tv n (f x).1=true/\tv n (f x).2=true){l:List α}:tu n (l.map f)=true:=by
 induction l with
 | nil=>rfl
 | cons x r ih=>exact dk (dk (h x).1 (h x).2) ih
abbrev lE(ts:List Int)(q:Nat)(R:List gj)(mo b8:Int)(M:List (Nat×By))(bv:V)(w4:aV):WE:=⟨.list (ts.map V.int),w4,.dict (dF q R),.dict (M.map bE),.dict [],md q bv mo b8⟩
abbrev xE(ts:List Int)(q L:Nat)(T:Tr L)(R:List gj)(mo:Int)(M:List (Nat×By))(bv:V)(h:HS):List aV:=
 bM (lE ts q R mo ((L+1:Nat):Int) M bv (dn ((L+1:Nat):Int) mo (ptr q L T) (dS q L T:Nat))) h []
theorem ZD{q:Nat}{R:List gj}{bv:V}(b:ER (.dict []) bv Bi):MI (lE ts q R mo b8 M bv .dead):=by
 refine ⟨λn hn=>⟨wN,rfl,rd λx=>⟨rfl,rfl⟩,rd λx=>⟨rfl,rfl⟩,rfl,?_⟩⟩;have bl:∀ {k:Nat},k<10->Nat.blt k n=true:=λh=>Nat.ble_eq_true_of_le (af h hn);show(Nat.blt 7 n&&(tv n bv&&true))=true;refine dk (bl ∅) (dk ?_ rfl);induction b with
 | df Bi=>exact rd λx=>⟨rfl,rfl⟩
 | glob _=>exact bl ∅
structure Tu(q tx L d:Nat)(T:Tr L)(mo:Int)(M:List (Nat×By))(Bi:List Bt)(bv:V)(h:HS):Prop where
 I:oh q tx L T mo M Bi
 b:ER (.dict []) bv Bi
 t1:1<=tx
 td:tx<=1+d
 p:h.H.Perm (ents q L T)
 ku:h.ku=dS q L T
 ok:iw h (80000-2000*d)
theorem GB{q:Nat}(ok:iw h k)(p:h.H.Perm (ents q L T)):∀ o∈aC q L 0 T,o.a<h.next:=λo ho=>
 ok.lt _ (p.symm.subset (by rw [<-um (q:=q) L (num:=0)]; exact ba.mpr ⟨o,ho,rfl⟩):(o.a,bC q o.l,o.x)∈h.H)
inductive Zu(m q jQ d f1 f2 L:Nat)(T:Tr L)(a:V)(W:List aV)(ts:List Int)(h:HS):Prop
 | mk (L':Nat) (T':Tr L') (kB:Int) (M':List (Nat×By)) (SU:List Bt) (EN:V) (h':HS) (W3:List aV) (g:Nat->Option By)
  (e1:ai (m+14) f1 [.glob 1,iq q,.glob 4,a,dD,.int jQ,.glob 5] W=some (.none,W3)) (e2:ai (m+14) f2 [.glob 9,a,.int jQ] W3=some (.none,xE ts q L' T' (aC q L 0 T) kB M' EN h'))
  (R:tR q jQ h.next (aC q L 0 T) g L' 0 T') (C:Tu q jQ L' (d+1) T' kB M' SU EN h')
section
variable{q jQ d:Nat}{bv:V}(hq:q=2\/q=3)(hd:d<4)(C:Tu q tx L d T mo M Bi bv h)
include hq hd C
theorem yz{L':Nat}{T':Tr L'}{M':List (Nat×By)}{SU:List Bt}{EN:V}(R:tR q jQ h.next (aC q L 0 T) g L' 0 T')(C':Tu q jQ L' (d+1) T' kB M' SU EN h'):
  ai (m+14) 75 [.glob 1,iq q,.glob 4,.glob 5,.glob 9,.glob 6,.int jQ] (xE ts q L' T' (aC q L 0 T) kB M' EN h')=some (.bool true,xE ts q L' T' (aC q L' 0 T') kB M' EN h'):=by
 have hl:=C.I.zK (q3 hq);have htd:=C'.td;exact Lp (E:=lE ts q (aC q L 0 T) kB ((L'+1:Nat):Int) M' EN .dead) C'.I (ZD C'.b) hq (by lia) C'.b (ak (by rw [AP]; exact az hl ∅)) C'.ok C'.p C'.ku
  (KG (m:=m+12) (E:=lE ts q (aC q L 0 T) kB ((L'+1:Nat):Int) M' EN (dn ((L'+1:Nat):Int) kB (ptr q L' T') (dS q L' T':Nat))) (h:=h') hq C.I.w R (GB C.ok C.p) (af hl ∅))
variable(ig:tx<=jQ)(HE:jQ<=tx+1)
include ig HE
theorem RN(b:Tx B)(gx:B≠ [])(XE:B.length<=3):Zu m q jQ d 64 71 L T (.df (B.map bE)) (xE ts q L T (aC q L 0 T) mo M bv h) ts h:=by
 refine ag (ab9 B gx) λmx Cg=> ?_;have I:=C.I;have q0:0<q:=ax ∅ (q2 hq);have S7:=C.t1;have htd:=C.td;refine ag (Nat.exists_eq_add_of_le' (Af q (mV mo mx))) λL2 qp=> ?_;have qp:=qp.symm;refine ag Cg.ex λe0 z1=>And.elim (λXs hm3=> ?_) z1;have ZX:mx<=6:=hm3▸(b.rg e0 Xs).1;have hm6:=nQ I.m6 (cG.mpr ZX:(mx:Int)<=6);injection wK (m:=m+1) (k:=80000-2000*(d+1)) (us:=(dS q L T:Nat)) (ZD (ts:=ts) (R:=aC q L 0 T) (mo:=mo) (b8:=((L+1:Nat):Int)) (M:=M) C.b) hq (af S7 ig) (tx:=jQ) (by lia) (I.w.mono ig) I.m6 I.lv b.kn b.rg (af XE ∅) gx Cg qp (C.ok.mono (by lia)) C.p with T' h' EE c1 R;have WQ:EE=(dS q L2 T':Nat):=by have:=R.v; lia
 subst WQ;refine ag (OY (m:=m+10) (E:=lE ts q (aC q L 0 T) mo ((L+1:Nat):Int) M bv (dn ((L2+1:Nat):Int) (mV mo mx) (ptr q L2 T') (dS q L2 T':Nat))) (h:=h') (tx:=jQ) C.b hq I.m6 I.kn I.lv b.kn (af (Nat.add_le_add (I.K0 q0 (q3 hq)) XE) ∅) ZX Cg qp) λF z1=>And.elim (λc2 s=> ?_) z1;have EM:∀ n∈kM B M,cK B n=some (gW B n):=λn hn=>by
  refine ag ((yH b.kn I.con).mp hn) λy z1=>And.elim (λhy Z=> ?_) z1;unfold gW; rw [hy]; rfl
 refine ⟨L2,T',mV mo mx,vb (gW B) (kM B M) M,F,.df (F.map lu),h',_,cK B,c1,c2,R.r,xS hq I R.r qp (λn=>yH b.kn I.con) EM hm6 (λn x hx=> ?_) (cn I.m0 (oG _ _)) s,.df F,af S7 ig,by lia,R.p,by have:=R.u; have:=C.ku; lia,R.ok.mono (da _)⟩;rw [q4 I.kn] at hx;by_cases hn:n∈kM B M
 ·exact cn (cG.mpr (Cg.le _ (fA (EM n hn)))) (rJ _ _)
 ·rw [aT hn] at hx;exact cn (I.mb _ (fA hx)) (oG _ _)
theorem RO(f:Nat):Zu m q jQ d 65 72 L T (.int f) (xE ts q L T (aC q L 0 T) mo M bv h) ts h:=by
 have I:=C.I;have q0:0<q:=ax ∅ (q2 hq);have S7:=C.t1;have htd:=C.td;have hW:=ZD (ts:=ts) (q:=q) (R:=aC q L 0 T) (mo:=mo) (b8:=((L+1:Nat):Int)) (M:=M) C.b;by_cases hf:(f:Int)<=mo
 ·refine ag (Nat.exists_eq_add_of_le' (Af q ((f:Int)-1))) λL2 qp=> ?_;have qp:=qp.symm;injection aea (m:=m+1) (k:=80000-2000*(d+1)) (us:=(dS q L T:Nat)) hW hq (tx:=jQ) (by lia) (af S7 ig) (I.w.mono ig) I.m6 I.lv hf qp (C.ok.mono (by lia)) C.p with T' h' EE c1 R;have WQ:EE=(dS q L2 T':Nat):=by have:=R.v; lia
  subst WQ;refine ag (JV (m:=m+10) (L:=L) (E:=lE ts q (aC q L 0 T) mo ((L+1:Nat):Int) M bv (dn ((L2+1:Nat):Int) ((f:Int)-1) (ptr q L2 T') (dS q L2 T':Nat))) (h:=h') (tx:=jQ) C.b hq I.m6 I.kn (af (I.K0 q0 (q3 hq)) ∅) hf qp) λF z1=>And.elim (λc2 s=> ?_) z1;have mem:∀ {n x},cK M n=some x->f<=n->n∈hJ f M:=λhx hn=>ba.mpr ⟨_,bR.mpr ⟨fA hx,ak hn⟩,rfl⟩;have EM:∀ n∈hJ f M,gC f n=some ((λZ=>[]) n):=λn hn=>by
   refine ag ((uF I.kn I.con).mp hn) λy z1=>And.elim (λhy Z=> ?_) z1;unfold gC at hy ⊢;induction z:decide (f<=n)using eK with
   | true=>rfl
   | false=>rw [z] at hy; exact nn hy
  refine ⟨L2,T',(f:Int)-1,vb (λZ=>[]) (hJ f M) M,F,.df (F.map lu),h',_,gC f,c1,c2,R.r,xS hq I R.r qp (λn=>uF I.kn I.con) EM (by have:=I.m6; lia) (λn x hx=> ?_) (by lia) s,.df F,af S7 ig,by lia,R.p,by have:=R.u; have:=C.ku; lia,R.ok.mono (da _)⟩;rw [q4 I.kn] at hx;by_cases hn:n∈hJ f M
  ·rw [ak hn] at hx; exact nn hx
  ·rw [aT hn] at hx;have:¬ f<=n:=λhc=>hn (mem hx hc);lia
 ·have hf:=Int.not_le.mp hf;exact ⟨L,T,mo,M,Bi,bv,h,_,λZ=>none,Yu (m:=m+1) hW hq (tx:=jQ) (by lia) hf,O3 (m:=m+13) (E:=lE ts q (aC q L 0 T) mo ((L+1:Nat):Int) M bv (dn ((L+1:Nat):Int) mo (ptr q L T) (dS q L T:Nat))) (h:=h) (q:=q) (mo:=mo) (b8:=((L+1:Nat):Int)) (bv:=bv) (x7:=.dict (M.map bE)) (ak hf),rA (I.w.mono ig) (pG I.w (aA _)) (λn _ ⟨y,hy,_⟩=>nn hy),
   ⟨I.w.mono ig,I.m0,I.m6,I.lv,I.kn,I.mb,I.con,I.bn,I.bi⟩,C.b,af S7 ig,by lia,C.p,C.ku,C.ok.mono (by lia)⟩
end
section
variable{W1 W2 W3 W4 W5 W6:List aV}{t:V}{q tx way r v f:Int}{x5 x7 y8 y9 Bh:Option LV}
 (Q7:ai m 67 [.glob 0,.int 8] W=some (.int way,W1)) (hm:d7 .Mod (.int way) (.int 2)=some (.int r))
include Q7 hm
theorem ad4 (hb:(r==0)=true) (h6:decide (way<6)=true) (h3:ai m 67 [.glob 0,.int 3] W1=some (.int v,W2)) (hit:jh W2 (.ql 0 (1+v) 1)=some (.ql 0 (1+v) 1,xO))
  (hl:dO bT (cj (ai m) 76 [6,2,1]) xO ⟨ll jA q (tx+1) (~~~t) (~~~(.int way)) (some (.od [])) x8 x9 iT iS i4 iQ,[],W2⟩=some (.ez,⟨ll jA q (tx+1) (~~~t) (~~~(.int way)) (some (.od D)) y8 y9 Bh iS i4 iQ,[],W3⟩))
  (yg:ai m 64 [.glob 1,iq q,.glob 4,.df D,dD,.int (tx+1),.glob 5] W3=some (.none,W4)) (N8:ai m 71 [.glob 9,.df D,.int (tx+1)] W4=some (.none,W5)) (yf:ai m 75 [.glob 1,iq q,.glob 4,.glob 5,.glob 9,.glob 6,.int (tx+1)] W5=some (.bool true,W6)):
  cj (ai m) 76 [6] t ⟨ll jA q tx x5 x6 x7 x8 x9 iT iS i4 iQ,[],W⟩=some (.ez,⟨ll jA q (tx+1) (~~~t) (~~~(.int way)) (~~~(.df D)) y8 y9 Bh iS i4 iQ,[],W6⟩):=by
 exact au (fH ..) [fC 0 Q7,fV 0 hm,fT 0 hb,fT 2 h6,fC 1 h3,fI 2 hit,fO 0 hl,fC 0 yg,fC 0 N8,fC 0 yf] ⋯
theorem ad8 (hb:(r==0)=true) (h6:decide (way<6)=false) (h8:ai m 67 [.glob 0,.int 8] W1=some (.int f,W3))
  (N9:ai m 65 [.glob 1,iq q,.glob 4,.int f,dD,.int (tx+1),.glob 5] W3=some (.none,W4)) (N7:ai m 72 [.glob 9,.int f,.int (tx+1)] W4=some (.none,W5)) (yf:ai m 75 [.glob 1,iq q,.glob 4,.glob 5,.glob 9,.glob 6,.int (tx+1)] W5=some (.bool true,W6)):
  cj (ai m) 76 [6] t ⟨ll jA q tx x5 x6 x7 x8 x9 iT iS i4 iQ,[],W⟩=some (.ez,⟨ll jA q (tx+1) (~~~t) (~~~(.int way)) x7 x8 x9 iT (~~~(.int f)) i4 iQ,[],W6⟩):=by
 exact au (fH ..) [fC 0 Q7,fV 0 hm,fT 1 hb,fF 2 h6,fC 0 h8,fC 0 N9,fC 0 N7,fC 0 yf] ⋯
theorem ad5 (hb:(r==0)=false) (h6:decide (way<6)=true) (h3:ai m 67 [.glob 0,.int 3] W1=some (.int v,W2)) (hit:jh W2 (.ql 0 (1+v) 1)=some (.ql 0 (1+v) 1,xO))
  (hl:dO bT (cj (ai m) 76 [6,2,1]) xO ⟨ll jA q (tx+0) (~~~t) (~~~(.int way)) (some (.od [])) x8 x9 iT iS i4 iQ,[],W2⟩=some (.ez,⟨ll jA q (tx+0) (~~~t) (~~~(.int way)) (some (.od D)) y8 y9 Bh iS i4 iQ,[],W3⟩))
  (yg:ai m 64 [.glob 1,iq q,.glob 4,.df D,dD,.int (tx+0),.glob 5] W3=some (.none,W4)) (N8:ai m 71 [.glob 9,.df D,.int (tx+0)] W4=some (.none,W5)) (yf:ai m 75 [.glob 1,iq q,.glob 4,.glob 5,.glob 9,.glob 6,.int (tx+0)] W5=some (.bool true,W6)):
  cj (ai m) 76 [6] t ⟨ll jA q tx x5 x6 x7 x8 x9 iT iS i4 iQ,[],W⟩=some (.ez,⟨ll jA q (tx+0) (~~~t) (~~~(.int way)) (~~~(.df D)) y8 y9 Bh iS i4 iQ,[],W6⟩):=by
 exact au (fH ..) [fC 0 Q7,fV 0 hm,fF 0 hb,fT 2 h6,fC 1 h3,fI 2 hit,fO 0 hl,fC 0 yg,fC 0 N8,fC 0 yf] ⋯
theorem ad9 (hb:(r==0)=false) (h6:decide (way<6)=false) (h8:ai m 67 [.glob 0,.int 8] W1=some (.int f,W3))
  (N9:ai m 65 [.glob 1,iq q,.glob 4,.int f,dD,.int (tx+0),.glob 5] W3=some (.none,W4)) (N7:ai m 72 [.glob 9,.int f,.int (tx+0)] W4=some (.none,W5)) (yf:ai m 75 [.glob 1,iq q,.glob 4,.glob 5,.glob 9,.glob 6,.int (tx+0)] W5=some (.bool true,W6)):
  cj (ai m) 76 [6] t ⟨ll jA q tx x5 x6 x7 x8 x9 iT iS i4 iQ,[],W⟩=some (.ez,⟨ll jA q (tx+0) (~~~t) (~~~(.int way)) x7 x8 x9 iT (~~~(.int f)) i4 iQ,[],W6⟩):=by
 exact au (fH ..) [fC 0 Q7,fV 0 hm,fF 1 hb,fF 2 h6,fC 0 h8,fC 0 N9,fC 0 N7,fC 0 yf] ⋯
end
inductive LI(jA:V)(q d:Nat)(i4 iQ:Option LV):St->Prop
 | mk (ts:List Int) (L tx:Nat) (T:Tr L) (mo:Int) (M:List (Nat×By)) (Bi:List Bt) (bv:V) (h:HS) (x5 x6 x7 x8 x9 iT iS:Option LV) (C:Tu q tx L d T mo M Bi bv h):
   LI jA q d i4 iQ ⟨ll jA q tx x5 x6 x7 x8 x9 iT iS i4 iQ,[],xE ts q L T (aC q L 0 T) mo M bv h⟩
inductive WP(m q d:Nat)(jA t:V)(way:Int)(x8 x9 iT iS i4 iQ:Option LV)(xO:List V)(W2:List aV)(tx:Nat):Prop
 | mk (D:List (V×V)) (W3 W4 W5 W6:List aV) (y8 y9 Bh:Option LV)
  (hl:dO bT (cj (ai (m+14)) 76 [6,2,1]) xO ⟨ll jA q tx (~~~t) (~~~(.int way)) (some (.od [])) x8 x9 iT iS i4 iQ,[],W2⟩=some (.ez,⟨ll jA q tx (~~~t) (~~~(.int way)) (some (.od D)) y8 y9 Bh iS i4 iQ,[],W3⟩))
  (yg:ai (m+14) 64 [.glob 1,iq q,.glob 4,.df D,dD,.int tx,.glob 5] W3=some (.none,W4)) (N8:ai (m+14) 71 [.glob 9,.df D,.int tx] W4=some (.none,W5)) (yf:ai (m+14) 75 [.glob 1,iq q,.glob 4,.glob 5,.glob 9,.glob 6,.int tx] W5=some (.bool true,W6))
  (fin:LI jA q (d+1) i4 iQ ⟨ll jA q tx (~~~t) (~~~(.int way)) (~~~(.df D)) y8 y9 Bh iS i4 iQ,[],W6⟩)
inductive CP(m q d:Nat)(jA t:V)(way f:Int)(x7 x8 x9 iT i4 iQ:Option LV)(W3:List aV)(tx:Nat):Prop
 | mk (W4 W5 W6:List aV) (N9:ai (m+14) 65 [.glob 1,iq q,.glob 4,.int f,dD,.int tx,.glob 5] W3=some (.none,W4)) (N7:ai (m+14) 72 [.glob 9,.int f,.int tx] W4=some (.none,W5))
  (yf:ai (m+14) 75 [.glob 1,iq q,.glob 4,.glob 5,.glob 9,.glob 6,.int tx] W5=some (.bool true,W6)) (fin:LI jA q (d+1) i4 iQ ⟨ll jA q tx (~~~t) (~~~(.int way)) x7 x8 x9 iT (~~~(.int f)) i4 iQ,[],W6⟩)
section
variable{q:Nat}(hq:q=2\/q=3)
include hq
theorem D7{d:Nat}(hd:d<4)(s:LI jA q d i4 iQ σ)(t:V):∃ σ',cj (ai (m+14)) 76 [6] t σ=some (.ez,σ')/\LI jA q (d+1) i4 iQ σ':=by
 injection s with ts L tx T mo M Bi bv h x5 x6 x7 x8 x9 iT iS C;obtain ⟨way,ZF,ahH,ew⟩:=pE (m:=m+13) ts (k:=8) ∅;have hm:=Cw (a:=way) (b:=2) ∅;have ew:=ew (xE ts q L T (aC q L 0 T) mo M bv h).tail;by_cases hw:way<6
 ·have h6:decide ((way:Int)<6)=true:=ak (cz.mpr hw:(way:Int)<(6:Nat));obtain ⟨k,EF,hk,ek⟩:=pE (m:=m+13) ZF (k:=3) ∅;have hr:=zI (W:=.list (EF.map V.int)::(xE ts q L T (aC q L 0 T) mo M bv h).tail) (l:=1+k) (by lia);rw [Int.natCast_add] at hr;have wr:∀ jQ:Nat,tx<=jQ->jQ<=tx+1->WP m q d jA t way x8 x9 iT iS i4 iQ ((List.range (1+k)).map λi:Nat=>V.int i) (.list (EF.map V.int)::(xE ts q L T (aC q L 0 T) mo M bv h).tail) jQ:=λjQ ig HE=>by
   induction QA (m:=m+13) (Wr:=(xE ts q L T (aC q L 0 T) mo M bv h).tail) (jA:=jA) (q:=q) (tx:=jQ) (x5:= ~~~t) (x6:= ~~~(.int way)) (iS:=iS) (i4:=i4) (iQ:=iQ) (List.range (1+k)) (ts:=EF) (B:=[]) (x8:=x8) (x9:=x9) (iT:=iT) (λi hi=>by have:=ft.mp hi; lia)
    ⟨dR,λe he=>(eX he)⟩ (by rw [iP,List.length_nil]; lia)with | mk B ts3 y8 y9 Bh el b bl bn=>
   rw [iP,List.length_nil,bF] at bl;injection RN (m:=m) (ts:=ts3) hq hd C ig HE b (bn (.inl λhc=>by have:=av List.length hc; rw [iP,dy] at this; exact (Nat.noConfusion this))) (af bl (by lia))with L' T' kB M' SU EN h' W3 g c1 c2 R C';exact ⟨_,_,_,_,_,_,_,_,el,c1,c2,yz hq hd C R C',.mk ts3 L' jQ T' kB M' SU EN h' _ _ _ _ _ _ _ C'⟩
  induction hb:((way % 2:Nat):Int)==0 using eK with
  | true=>induction wr (tx+1) (da _) (aA _)with | mk D W3 W4 W5 W6 y8 y9 Bh hl yg N8 yf fin=>exact ⟨_,ad4 ew hm hb h6 (ek _) hr hl yg N8 yf,fin⟩
  | false=>induction wr tx (aA _) (da _)with | mk D W3 W4 W5 W6 y8 y9 Bh hl yg N8 yf fin=>exact ⟨_,ad5 ew hm hb h6 (ek _) hr hl yg N8 yf,fin⟩
 ·have h6:decide ((way:Int)<6)=false:=aT λhc=>hw (cz.mp (hc:(way:Int)<(6:Nat)));obtain ⟨f,EF,hf,ef⟩:=pE (m:=m+13) ZF (k:=8) ∅;have ct:∀ jQ:Nat,tx<=jQ->jQ<=tx+1->CP m q d jA t way f x7 x8 x9 iT i4 iQ (.list (EF.map V.int)::(xE ts q L T (aC q L 0 T) mo M bv h).tail) jQ:=λjQ ig HE=>by
   injection RO (m:=m) (ts:=EF) hq hd C ig HE f with L' T' kB M' SU EN h' W3 g c1 c2 R C';exact ⟨_,_,_,c1,c2,yz hq hd C R C',.mk EF L' jQ T' kB M' SU EN h' _ _ _ _ _ _ _ C'⟩
  induction hb:((way % 2:Nat):Int)==0 using eK with
  | true=>induction ct (tx+1) (da _) (aA _)with | mk W4 W5 W6 N9 N7 yf fin=>exact ⟨_,ad8 ew hm hb h6 (ef _) N9 N7 yf,fin⟩
  | false=>induction ct tx (aA _) (da _)with | mk W4 W5 W6 N9 N7 yf fin=>exact ⟨_,ad9 ew hm hb h6 (ef _) N9 N7 yf,fin⟩
theorem Yr(ks:List Nat):∀ {d:Nat} {σ:St},LI jA q d i4 iQ σ->d+ks.length<=4->∃ σ',dO bT (cj (ai (m+14)) 76 [6]) (ks.map λi:Nat=>V.int i) σ=some (.ez,σ')/\LI jA q (d+ks.length) i4 iQ σ':=by
 induction ks with
 | nil=>exact λ{d σ} s Z=>⟨σ,rfl,s⟩
 | cons k r ih=>intro d σ s hl;rw [bZ] at hl;obtain ⟨km,e1,h1⟩:=D7 hq (m:=m) (by lia) s (.int k);obtain ⟨ES,e2,h2⟩:=ih h1 (by lia);rw [RH] at h2;exact ⟨ES,gk e1 e2,h2⟩
end
def Yx(n k i:Nat)(σ:St):O (V×St):=((IK k i).map λc=>Og eu (ai n) eN (nr k) c σ).getD eu.fail
theorem PO(n k i:Nat)(σ:St):bg (Yx n k i σ) (yF (ai n) k i σ):=by
 unfold Yx yF;rcases IK k i with _ | c
 ·exact bg.fail
 ·exact Nl ..
abbrev lI(jA:V):List (Option LV):= ~~~jA::List.replicate 19 none
section
variable{W2:List aV}{l l' ts ks ss:List V}{q tx v d e f lvl lp b fi k1 k2 n:Int}{p pl k kept:V}{x5 x7:Option LV}{σ':St}{cv:List (Option V)}{tl:List aV}
theorem ace (hs:pI (.lst l) .none (.int 63)=some (.lst l')) (Q7:ai m 67 [.glob 0,.int 2] [.list l'.reverse]=some (.int v,[.list ts])) (hq:d7 .Add (.int 2) (.int v)=some (.int q))
  (h84:ai m 84 [.glob 1] [.list ts,.inst 4 []]=some (.none,W4 ts)) (hS:G3 bT (ai m) 6 (kU (.int q)) (W4 ts)=some (iq q,W4 ts)) (h82:ai m 82 [.glob 4,.int 8,.int 4] (W4 ts++ [.inst 2 []])=some (.none,W4 ts++ [dn 1 (-1) .none 0]))
  (h85:ai m 85 [.glob 5,.glob 1] (W4 ts++ [dn 1 (-1) .none 0,.inst 5 []])=some (.none,W4 ts++ [dn 1 (-1) .none 0,.inst 5 [.glob 1,.int 0,.int 0,.int 0]]))
  (Oa:ai m 49 [] (W4 ts++ [dn 1 (-1) .none 0,.inst 5 [.glob 1,.int 0,.int 0,.int 0]])=some (dD,W4 ts++ [dn 1 (-1) .none 0,.inst 5 [.glob 1,.int 0,.int 0,.int 0]])):
  lZ (ai m) 76 0 6 ⟨lI (.lst l),[],[]⟩=some (.ez,⟨ll (.lst l') q 1 none none none none none none none none none,[],W4 ts++ [dn 1 (-1) .none 0,.inst 5 [.glob 1,.int 0,.int 0,.int 0],.dict [],.dict [],.dict [],md q (.glob 8) (-1) 1]⟩):=by
 exact au (F6 ..) [fV 0 hs,fC 1 Q7,fV 0 hq,fC 0 h84,fC 0 hS,fC 0 h82,fC 0 h85,fC 0 Oa] ⋯
theorem li6 (hd:d7 .FloorDiv (.int (l.length:Nat)) (.int 4)=some (.int d)) (he:jN W 4 [.int 4,.int d]=some (.int e)) (hf:jN W 5 [.int 1,.int e]=some (.int f)) (hit:jh W (.ql 0 f 1)=some (.ql 0 f 1,xO))
  (hl:dO bT (cj (ai m) 76 [6]) xO ⟨ll (.lst l) q tx none none none none none none none i4 iQ,[],W⟩=some (.ez,σ')) (hW:σ'=⟨ll (.lst l) n v x5 x6 x7 x8 x9 iT iS i4 iQ,[],W2⟩):
  lZ (ai m) 76 6 1 ⟨ll (.lst l) q tx none none none none none none none i4 iQ,[],W⟩=some (.ez,⟨ll (.lst l) n v x5 x6 x7 x8 x9 iT iS i4 iQ,[],W2⟩):=by
 subst hW;exact au (F6 ..) [fV 1 hd,fV 0 he,fV 0 hf,fI 1 hit,fO 0 hl] ⋯
abbrev JG(lv mo:Int)(pv:V)(us:Int):V:=.tup [.int 8,.int 4,.int lv,.int mo,.bytes [],pv,.int us]
theorem UE:ai (m+1) 31 [.glob 4] (dW E lvl mo .none us h tl)=some (JG lvl mo .none us,dW E lvl mo .none us h tl):=au (aZ ..) [] ⋯
theorem aa9(h30:ai m 30 [PV k s lp b fi] (dW E lvl mo (PV k s lp b fi) us h tl)=some (pl,dW E lvl mo (PV k s lp b fi) us h tl)):ai (m+1) 31 [.glob 4] (dW E lvl mo (PV k s lp b fi) us h tl)=some (JG lvl mo pl us,dW E lvl mo (PV k s lp b fi) us h tl):=au (aZ ..) [fC 3 h30] ⋯
theorem aba:ai (m+1) 31 [.glob 10] (bM E h [dn 1 (-1) .none 0])=some (JG 1 (-1) .none 0,bM E h [dn 1 (-1) .none 0]):=au (aZ ..) [] ⋯
theorem aaP:ai (m+1) 82 [.glob 10,.int 8,.int 4] (bM E h [.inst 2 []])=some (.none,bM E h [dn 1 (-1) .none 0]):=au (aZ ..) [] ⋯
abbrev GQ:List V:=[.df [(.int 0,.bytes [0,0,0])],.df [(.int 1,.bytes [0,0,0,0]),(.int 2,.bytes [0,0,0,0,0])],.df [(.int (-1),.bytes [97,98,99,100])]]
theorem acd(h31:ai m 31 [.glob 4] (dW E lvl mo p us h [])=some (kept,dW E lvl mo p us h [])):
  lZ (ai m) 76 7 2 ⟨ll jA q tx x5 x6 x7 x8 x9 iT iS i4 iQ,[],dW E lvl mo p us h []⟩=some (.ez,⟨ll jA q tx x5 x6 x7 x8 x9 iT iS (~~~kept) (some (.ol GQ)),[],dW E lvl mo p us h []⟩):=by
 exact au (F6 ..) [fC 0 h31] ⋯
theorem Pf{c0 c1 c2:Option V}:lV (ai m) 76 [10] [0,1,1,0] (.tup [.int b,.tup [k]]) ⟨loc,[c0,c1,c2],W⟩=some ([k],⟨loc,[some (.int b),some (.tup [k]),some k],W⟩):=au (PL ..) [] ⋯
end
section
variable{ks ss:List V}{kept bv:V}{q tx lvl:Int}{p:V}{x5 x7:Option LV}{MD:List (V×V)}{cv:List (Option V)}
theorem Qs (h31:ai m 31 [.glob 4] (qW E h q lvl mo us p bv OD MD)=some (kept,qW E h q lvl mo us p bv OD MD)) (c1:iA (qW E h q lvl mo us p bv OD MD) .NotEq kept kept=some false)
  (h44:ai m 44 [.glob 1] (qW E h q lvl mo us p bv OD MD)=some (.lst ss,qW E h q lvl mo us p bv OD MD))
  (el:dj bT (lV (ai m) 76 [10] [0,1,1,0]) (OD.map (·.2)) ⟨ll jA q tx x5 x6 x7 x8 x9 iT iS (~~~kept) iQ,[none,none,none],bM {E with w4:=dn lvl mo p us,w6:=.dead,w7:=.dict MD,w9:=md q bv mo lvl} h []⟩=
   some (ks,⟨ll jA q tx x5 x6 x7 x8 x9 iT iS (~~~kept) iQ,cv,bM {E with w4:=dn lvl mo p us,w6:=.dead,w7:=.dict MD,w9:=md q bv mo lvl} h []⟩))
  (gl:jR ks.length=true) (hs:jN (qW E h q lvl mo us p bv OD MD) 6 [.lst ks]=some (.lst ss)) (c2:iA (qW E h q lvl mo us p bv OD MD) .NotEq (.lst ss) (.lst ss)=some false)
  (h66:ai m 66 [.glob 1,iq q,.glob 4,.int (tx+1),.glob 5] (qW E h q lvl mo us p bv OD MD)=some (.none,bM {E with w4:=dn 1 (-1) .none 0,w6:=.dict OD,w7:=.dict MD,w9:=md q bv mo lvl} h' []))
  (ado:ai m 44 [.glob 1] (bM {E with w4:=dn 1 (-1) .none 0,w6:=.dict OD,w7:=.dict MD,w9:=md q bv mo lvl} h' [])=some (.lst [],bM {E with w4:=dn 1 (-1) .none 0,w6:=.dict OD,w7:=.dict MD,w9:=md q bv mo lvl} h' [])) (hu:(h'.ku==0)=true)
  (adt:ai m 31 [.glob 4] (bM {E with w4:=dn 1 (-1) .none 0,w6:=.dict OD,w7:=.dict MD,w9:=md q bv mo lvl} h' [])=some (JG 1 (-1) .none 0,bM {E with w4:=dn 1 (-1) .none 0,w6:=.dict OD,w7:=.dict MD,w9:=md q bv mo lvl} h' []))
  (h82:ai m 82 [.glob 10,.int 8,.int 4] (bM {E with w4:=dn 1 (-1) .none 0,w6:=.dict OD,w7:=.dict MD,w9:=md q bv mo lvl} h' [.inst 2 []])=some (.none,bM {E with w4:=dn 1 (-1) .none 0,w6:=.dict OD,w7:=.dict MD,w9:=md q bv mo lvl} h' [dn 1 (-1) .none 0]))
  (ads:ai m 31 [.glob 10] (bM {E with w4:=dn 1 (-1) .none 0,w6:=.dict OD,w7:=.dict MD,w9:=md q bv mo lvl} h' [dn 1 (-1) .none 0])=some (JG 1 (-1) .none 0,bM {E with w4:=dn 1 (-1) .none 0,w6:=.dict OD,w7:=.dict MD,w9:=md q bv mo lvl} h' [dn 1 (-1) .none 0])):
  lZ (ai m) 76 10 3 ⟨ll jA q tx x5 x6 x7 x8 x9 iT iS (~~~kept) iQ,[],qW E h q lvl mo us p bv OD MD⟩=some (.ret (.bool true),⟨ll jA q tx x5 x6 x7 x8 x9 iT iS (~~~kept) iQ,[],bM {E with w4:=dn 1 (-1) .none 0,w6:=.dict OD,w7:=.dict MD,w9:=md q bv mo lvl} h' [dn 1 (-1) .none 0]⟩):=by
 exact au (F6 ..) [fC 0 h31,fB 0 c1,fC 1 h44,fL 1 el,fT 0 gl,fV 0 hs,fB 0 c2,fC 3 h66,fC 0 ado,fT 3 hu,fC 0 adt,fC 0 h82,fC 0 ads] ⋯
end
abbrev EI(D:List (V×V))(q tx:Int)(x7:Option LV):List (Option LV):=[~~~(.glob 1),~~~(iq q),~~~(.glob 4),~~~(.df D),~~~dD,~~~(.int tx),~~~(.glob 5),x7,none]
section
variable{q tx lvl n:Int}{p:V}
theorem rf0(h57:ai m 57 [.int q] W=some (.int n,W)):lZ (ai m) 64 0 1 ⟨EI D q tx none,[],W⟩=some (.ez,⟨EI D q tx (~~~(.int n)),[],W⟩):=au (F6 ..) [fC 1 h57] ⋯
theorem abD(n0:decide (0<n)=true):yF (ai m) 64 1 ⟨EI [(.int 0,.bytes [0,0,0])] q tx (~~~(.int n)),[],dW E lvl mo p us h []⟩=some (.bool true,⟨EI [(.int 0,.bytes [0,0,0])] q tx (~~~(.int n)),[],dW E lvl mo p us h []⟩):=au (PO ..) [fT 5 n0] ⋯
theorem abC(n1:decide (1<n)=true)(n2:decide (2<n)=true):yF (ai m) 64 1 ⟨EI [(.int 1,.bytes [0,0,0,0]),(.int 2,.bytes [0,0,0,0,0])] q tx (~~~(.int n)),[],dW E lvl mo p us h []⟩=some (.bool true,⟨EI [(.int 1,.bytes [0,0,0,0]),(.int 2,.bytes [0,0,0,0,0])] q tx (~~~(.int n)),[],dW E lvl mo p us h []⟩):=au (PO ..) [fT 5 n1,fT 8 n2] ⋯
theorem abB:yF (ai m) 64 1 ⟨EI [(.int (-1),.bytes [97,98,99,100])] q tx (~~~(.int n)),[],dW E lvl mo p us h []⟩=some (.bool true,⟨EI [(.int (-1),.bytes [97,98,99,100])] q tx (~~~(.int n)),[],dW E lvl mo p us h []⟩):=au (PO ..) [] ⋯
end
def Kz(q l:Nat)(t:Tr l):V:=match dE l t with
 | none=>.none
 | some p=>l7 (key p.2 (bC q l)) (jz q l) l p.1 (dH l t)
theorem Gz{q:Nat}:p6 5 (Kz q l t)=true:=by unfold Kz;rcases dE l t with _ | p <;> rfl
theorem Iq{q:Nat}{lv:Int}:p6 6 (JG lv mo (Kz q l t) us)=true:=show(p6 5 (Kz q l t)&&true)=true from dk Gz rfl
theorem BG{q:Nat}{lvl:Int}{tl:List aV}:ai (m+2) 31 [.glob 4] (dW E lvl mo (ptr q l t) us h tl)=some (JG lvl mo (Kz q l t) us,dW E lvl mo (ptr q l t) us h tl):=by
 unfold Kz;rcases e:dE l t with _ | ⟨b,a⟩
 ·rw [cY e]; exact UE
 ·rw [bK e]; exact aa9 w30
abbrev h0:HS:=⟨[],[],1,0,0,0,0⟩
theorem aed{q:Nat}(hq:q=2\/q=3):Tu q 1 0 0 (dP 0) (-1) [] [] (.glob 8) h0:=by refine ⟨⟨trivial,∅,∅,?_,dR,(λe he=>(eX he)),λn x=>⟨λh=>nn h,λ⟨r,hr,_⟩=>(eX hr)⟩,dR,λk b=>⟨(λh=>(eX h)),λ⟨r,hr,_⟩=>(eX hr)⟩⟩,.glob rfl,aA 1,aA 1,List.Perm.nil,rfl,dR,(λe he=>(eX he)),∅⟩;rcases hq with rfl | rfl <;> rfl
theorem Yv(l:List Int):pI (.lst (l.map V.int)) .none (.int 63)=some (.lst ((l.take 63).map V.int)):=by show some (V.lst (((l.map V.int).drop 0).take (clipAt (l.map V.int).length ((63:Nat):Int)-0)))=_;rw [clipAt_nat,Nat.sub_zero,List.drop_zero,<-List.take_take,List.take_length,List.map_take]
theorem Hj(l:List Int):∃ (ts:List Int) (q:Nat),(q=2\/q=3)/\lZ (ai (m+14)) 76 0 6 ⟨lI (.lst (l.map V.int)),[],[]⟩=
  some (.ez,⟨ll (.lst ((l.take 63).map V.int)) q 1 none none none none none none none none none,[],xE ts q 0 (dP 0) (aC q 0 0 (dP 0)) (-1) [] (.glob 8) h0⟩):=by
 obtain ⟨v,ts,hv,e67⟩:=pE (m:=m+13) (l.take 63).reverse (k:=2) ∅;have e67:=e67 [];rw [List.map_reverse] at e67;have hts:∀ n,lP n (ts.map V.int)=true:=λn=>wN;refine ⟨ts,2+v,by lia,ace (Yv l) e67 (by rw [Int.natCast_add]; rfl) w84 (ab7 ?_) w82 w85 (M6 ?_)⟩
 ·exact dk (hts _) rfl
 ·exact dk (hts _) rfl
theorem DB{q:Nat}(hq:q=2\/q=3)(l:List V)(ts:List Int):∃ (d:Nat) (σ:St),d<=4/\lZ (ai (m+14)) 76 6 1 ⟨ll (.lst l) q 1 none none none none none none none none none,[],xE ts q 0 (dP 0) (aC q 0 0 (dP 0)) (-1) [] (.glob 8) h0⟩=some (.ez,σ)/\LI (.lst l) q d none none σ:=by
 obtain ⟨e,f,he,hf,hf4⟩:∃ e f:Nat,(bif decide (((l.length / 4:Nat):Int)<4)then((l.length / 4:Nat):Int)else 4)=(e:Int)/\mV 1 (e:Int)=(f:Int)/\f<=4:=by
  by_cases h1:l.length / 4<4
  ·have z:decide (((l.length / 4:Nat):Int)<4)=true:=ak (cz.mpr h1:((l.length / 4:Nat):Int)<(4:Nat));rw [z];by_cases h2:1<=l.length / 4
   ·exact ⟨_,_,rfl,z0 (cG.mpr h2:((1:Nat):Int)<=_),bV h1⟩
   ·exact ⟨_,1,rfl,G2 (cG.mpr (bV (Nat.lt_of_not_le h2)):_<=((1:Nat):Int)),∅⟩
  ·have z:decide (((l.length / 4:Nat):Int)<4)=false:=aT λhc=>h1 (cz.mp (hc:((l.length / 4:Nat):Int)<(4:Nat)));rw [z];exact ⟨4,4,rfl,rfl,aA 4⟩
 obtain ⟨σ',e1,hI⟩:=Yr hq (m:=m) (List.range f) (d:=0) (.mk ts 0 1 (dP 0) (-1) [] [] (.glob 8) h0 none none none none none none none (aed hq):LI (.lst l) q 0 none none _) (by rw [iP,bF]; exact hf4);rw [iP,bF] at hI;refine ⟨f,σ',hf4,?_,hI⟩;injection hI with S0 L tx T mo M Bi bv h x5 x6 x7 x8 x9 iT iS C;exact li6 (oS (a:=l.length) (b:=4) ∅ ∅) (av (λi=>some (V.int i)) he) (av (λi=>some (V.int i)) hf) (zI hf4) e1 rfl
theorem Lh{q d:Nat}(hq:q=2\/q=3){bv:V}(hd:d<=4)(C:Tu q tx L d T mo M Bi bv h){l:V}{x5 x7:Option LV}:
  ∃ σ',lZ (ai (m+14)) 76 10 3 ⟨ll l q tx x5 x6 x7 x8 x9 iT iS (~~~(JG ((L+1:Nat):Int) mo (Kz q L T) (dS q L T:Nat))) iQ,[],xE ts q L T (aC q L 0 T) mo M bv h⟩=some (.ret (.bool true),σ'):=by
 have jq:=q3 hq;have htd:=C.td;have S8:=C.I.zK jq;have hku:=C.ku;have hW:=ZD (ts:=ts) (q:=q) (R:=aC q L 0 T) (mo:=mo) (b8:=((L+1:Nat):Int)) (M:=M) C.b;have WU:=vj (W:=xE ts q L T (aC q L 0 T) mo M bv h) (l:=rAt q (aC q L 0 T)) (by rw [ao]; exact az S8 ∅) ((pY C.p).nodup_iff.mp C.ok.nd.ZP);rw [aU] at WU;obtain ⟨c,_,el⟩:=jX (f:=lV (ai (m+14)) 76 [10] [0,1,1,0]) (loc:=ll l q tx x5 x6 x7 x8 x9 iT iS (~~~(JG ((L+1:Nat):Int) mo (Kz q L T) (dS q L T:Nat))) iQ) (W:=bM {lE ts q (aC q L 0 T) mo ((L+1:Nat):Int) M bv (dn ((L+1:Nat):Int) mo (ptr q L T) (dS q L T:Nat))with w6:=.dead} h [])
  (λc=>∃ x y z,c=[x,y,z]) (tw q) (λr=>[key r.a (bC q r.l)]) (l:=aC q L 0 T) (λr _ c ⟨x,y,z,hc⟩=>⟨_,⟨some (.int r.b),some (vW q r),some (key r.a (bC q r.l)),rfl⟩,by subst hc; exact Pf⟩) (c:=[none,none,none]) ⟨none,none,none,rfl⟩
 rw [gh,<-CK] at el;injection Ip (m:=m+1) (k:=80000-2000*d-1) (t:=tx+1) (lvl:=((L+1:Nat):Int)) (mo:=mo) (us:=(dS q L T:Nat)) hW hq (tx:=tx) (by lia) (bz C.I.lvl) C.I.w (C.ok.mono (by lia)) C.p with h' c1 hH hu;have hu0:h'.ku=0:=by lia
 exact ⟨_,Qs (E:=lE ts q (aC q L 0 T) mo ((L+1:Nat):Int) M bv .dead) (m:=m+14) BG (mU Iq) (NJ C.I jq C.ok.nd C.p) el (ak (by rw [ao]; exact af S8 ∅)) WU
  (mU (oV λt=>by show(t.map V.int).all (p6 4)=true; rw [f9]; exact aK.mpr λZ Z=>rfl)) c1 (w44 (by rw [hH]; rfl)) (by rw [hu0]; rfl) UE aaP aba⟩
abbrev VG:List (List (V×V)):=[[(.int 0,.bytes [0,0,0])],[(.int 1,.bytes [0,0,0,0]),(.int 2,.bytes [0,0,0,0,0])],[(.int (-1),.bytes [97,98,99,100])]]
inductive aeG(m:Nat)(l:List Int):Prop
 | mk (q tx:Nat) (n:Int) (x5 x6 x7 x8 x9 iT iS:Option LV) (σ0 km:St) (kept:V) (W:List aV) (e0:lZ (ai (m+14)) 76 0 6 ⟨lI (.lst (l.map V.int)),[],[]⟩=some (.ez,σ0)) (e6:lZ (ai (m+14)) 76 6 1 σ0=some (.ez,km))
  (e7:lZ (ai (m+14)) 76 7 2 km=some (.ez,⟨ll (.lst ((l.take 63).map V.int)) q tx x5 x6 x7 x8 x9 iT iS (~~~kept) (some (.ol GQ)),[],W⟩))
  (e10:∀ iQ,∃ σ',lZ (ai (m+14)) 76 10 3 ⟨ll (.lst ((l.take 63).map V.int)) q tx x5 x6 x7 x8 x9 iT iS (~~~kept) iQ,[],W⟩=some (.ret (.bool true),σ'))
  (e64:∀ D∈VG,lZ (ai (m+14)) 64 0 1 ⟨EI D q tx none,[],W⟩=some (.ez,⟨EI D q tx (~~~(.int n)),[],W⟩)/\yF (ai (m+14)) 64 1 ⟨EI D q tx (~~~(.int n)),[],W⟩=some (.bool true,⟨EI D q tx (~~~(.int n)),[],W⟩))
theorem ach(m:Nat)(l:List Int):aeG m l:=by obtain ⟨ts0,q,hq,e0⟩:=Hj (m:=m) l;obtain ⟨d,σ,hd,e6,I⟩:=DB (m:=m) hq ((l.take 63).map V.int) ts0;injection I with ts L tx T mo M Bi bv h x5 x6 x7 x8 x9 iT iS C;have lt:∀ {i:Int},i<2000->decide (i<nb q)=true:=λh=>ak (Int.lt_of_lt_of_le h (NA hq));refine ⟨q,tx,nb q,x5,x6,x7,x8,x9,iT,iS,_,_,JG ((L+1:Nat):Int) mo (Kz q L T) (dS q L T:Nat),xE ts q L T (aC q L 0 T) mo M bv h,e0,e6,acd (E:=lE ts q (aC q L 0 T) mo ((L+1:Nat):Int) M bv .dead) BG,λiQ=>Lh hq hd C,?_⟩;have r0:=λD=>rf0 (m:=m+14) (D:=D) (tx:=tx) (W:=xE ts q L T (aC q L 0 T) mo M bv h) (w57 hq);exact ah.mpr ⟨⟨r0 _,abD (E:=lE ts q (aC q L 0 T) mo ((L+1:Nat):Int) M bv .dead) (lt ∅)⟩,ah.mpr ⟨⟨r0 _,abC (E:=lE ts q (aC q L 0 T) mo ((L+1:Nat):Int) M bv .dead) (lt ∅) (lt ∅)⟩,ah.mpr ⟨⟨r0 _,abB (E:=lE ts q (aC q L 0 T) mo ((L+1:Nat):Int) M bv .dead)⟩,λD hD=>(eX hD)⟩⟩⟩
end
section
variable{vs:List Value}{α:Type}{a:Addr}{l:List Addr}{f:Fn}{g:Array GenState}{d:Drawn}{fd:FuncData}{K:Frag}{ar:Arguments}{b:List Stmt}{sc:Scope}{v:Value}{c:bc}{x:Str}{k:Nat}{s:Shared}{o:Obj}{i:Nat}{F:iR}{c':Addr}{σ:St}{h:Heap}{A:Around}{E:Value->Shared->Prop}{Q:Flow->Shared->Prop}{env:Env}{p:Nat×Str}{m:Nat}{R:Result->Shared->Prop}{os:OsState}{rest:List Value}{M:Model}{σ':St}{W:List aV}{as:List V}{km:St}{oZ:List (Str×Addr)}{xs:Nat->V}{qual:Str}{vD:Value}{n:Nat}{ds odd:List V}
def Eu:Nat->(List Value->Prop)->Prop
 | 0,P=>P []
 | n+1,P=>∀ v,Eu n λl=>P (v::l)
theorem wy:∀ {n:Nat} {P:List Value->Prop},Eu n P->vs.length=n->P vs:=by
 induction vs with
 | nil=>exact λh e=>by subst e; exact h
 | cons v vs ih=>exact @λn P h e=>by subst e; exact @ih _ (λl=>P (v::l)) (h v) rfl
def JI(k:Nat):Arguments:=(((nW k).bind oQ).map (·.1)).getD ⟨[],[],none,[],[],none,[]⟩
def Qh(k:Nat):List Str:=(JI k).args.map (·.arg)
def D0(p:Nat×Nat):Prop:=Eu p.2 λvs=>∀ fd:FuncData,bindArgs {fd with params:=JI p.1,defaults:=.none} ⟨vs,[]⟩=pure ((Qh p.1).zip vs)
def bCS:{c:FuncData->List Value->Option (Array Value)->Sem (List (Str×Value)) // ∀ fd vs,bindArgs fd ⟨vs,[]⟩=seqItems? fd.defaults>>=c fd vs}:=⟨_,λZ Z=>rfl⟩
inductive BdX(k:Nat)(args:Args)(ts:List Value)(bs:List Value)(fd:FuncData):Prop
 | mk (c:Option (Array Value)->Sem (List (Str×Value))) (h:bindArgs {fd with params:=JI k} args=seqItems? fd.defaults>>=c) (h':c (some ts.toArray)=pure ((Qh k).zip bs))
def D1(p:Nat×Nat×Nat):Prop:=Eu p.2.1 λvs=>Eu p.2.2 λts=>∀ fd:FuncData,bCS.1 {fd with params:=JI p.1} vs (some ts.toArray)=pure ((Qh p.1).zip (vs++ts.drop (p.2.2-((JI p.1).args.length-p.2.1))))
def ME{α:Type}(P:α->Prop):List α->Prop
 | []=>True
 | a::r=>P a/\ME P r
theorem Jb{P:α->Prop}{a:α}{l:List α}(h:ME P l)(m:a∈l):P a:=by
 induction l with
 | nil=>exact eX m
 | cons x r ih=>exact (aH.mp m).elim (λe=>e▸h.1) (ih h.2)
def L0:List (Nat×Nat):=[(30,1),(31,1),(32,2),(33,2),(34,5),(35,4),(36,3),(37,4),(38,2),(39,4),(41,2),(42,2),(43,3),(44,1),(45,2),(46,3),(47,1),(48,2),(50,2),(51,1),(52,1),(53,1),(54,1),(55,1),(56,2),(57,1),(58,4),(59,4),(60,5),(62,2),(63,2),(64,7),(65,7),(66,5),(67,2),(68,2),(69,3),(70,3),(71,3),(72,3),(73,2),(74,3),(75,7),(83,7),(85,2)]
def L1:List (Nat×Nat×Nat):=[(40,7,1),(40,8,1),(49,0,1),(49,1,1),(61,3,1),(61,4,1),(80,3,2),(80,4,2),(80,5,2),(81,11,1),(81,12,1),(82,3,5),(82,4,5),(82,5,5),(82,6,5),(82,7,5),(82,8,5),(84,1,1),(84,2,1),(86,1,11),(86,2,11),(86,3,11),(86,4,11),(86,5,11),(86,6,11),(86,7,11),(86,8,11),(86,9,11),(86,10,11),(86,11,11),(86,12,11)]
theorem bd0:ME D0 L0:=by repeat' first | exact trivial | apply And.intro | refine λZ=> ?_ | kernel_rfl
theorem bd1:ME D1 L1:=by repeat' first | exact trivial | apply And.intro | refine λZ=> ?_ | kernel_rfl
theorem bd2(a b:Value):Eu 11 λts=>∀ fd,BdX 86 ⟨[a],[(et 32,b)]⟩ ts (a::ts.take 3++b::ts.drop 4) fd:=λZ Z Z Z Z Z Z Z Z Z Z Z=>⟨_,rfl,⋯⟩
theorem G9{β:Type}{f g:α->β}{l:List α}(h:l.map f=l.map g){a:α}(m:a∈l):f a=g a:=List.map_inj_left.mp h a m
inductive FD(K:Frag)(a:Addr)(ar:Arguments)(b:List Stmt)(sc:Scope):Prop
 | mk (o:Obj) (fd:FuncData) (ho:K.lookup a=some o) (d:o.data=.func fd) (e1:fd.params=ar) (e2:fd.body=.stmts b) (e3:fd.scope=sc) (e4:fd.closure=[]) (e5:fd.globals=mainGlobals) (e6:fd.builtins=builtinsNs) (e7:codeIn K fd.code fd.qualname=true) (e8:Iu K fd.defaults=jD AM ar.defaults)
theorem Rr{d:Data}(h:Yg d=some fd):d=.func fd:=by induction d using PySem.Data.casesOn <;> first | exact nn h | exact av PySem.Data.func (ae h)
theorem Ih{st:Option Stmt}(h:Yh K a=fWa st)(hs:st.bind oQ=some (ar,b,sc)):FD K a ar b sc:=by refine ag (Option.bind_eq_some_iff.mp hs) λst z1=>And.elim (λz2 pV=> ?_) z1;obtain rfl:=z2;have h:Yh K a=(oQ st).map _:=h;rw [pV] at h;refine aJ h λo ho h2=> ?_;refine ag (bN.mp h2) λfd z1=>And.elim (λhd h3=> ?_) z1;refine And.elim (λe1 h3=> ?_) (cu h3);refine And.elim (λe2 h3=> ?_) (cu h3);refine And.elim (λe3 h3=> ?_) (cu h3);refine And.elim (λe4 h3=> ?_) (cu h3);refine And.elim (λe5 h3=> ?_) (cu h3);refine And.elim (λe6 h3=> ?_) (cu h3);refine And.elim (λe7 e8=> ?_) (cu h3);exact ⟨o,fd,ho,Rr hd,e1,e2,e3,e4,e5,e6,e7,e8⟩
inductive Zt(K:Frag)(l:List V):Value->Prop
 | none (h:l=[]):Zt K l .none
 | some (T:Addr) (o:Obj) (vs:List Value) (n:Nat) (ho:K.lookup T=some o) (d:o.data=.seq vs.toArray n) (m:jD ZG vs=.some l) (h:l≠ []):Zt K l (.ref T)
theorem PB{d:Data}(h:U4 d=some vs):∃ n,d=.seq vs.toArray n:=by induction d using PySem.Data.casesOn <;> first | exact nn h | exact ⟨_,av (λl:List Value=>PySem.Data.seq l.toArray _) (ae h)⟩
theorem Ol{l:List V}(h:Iu K v=some l):Zt K l v:=by
 induction v using PySem.Value.casesOn with
 | none=>exact .none (ae h).symm
 | ref T=>refine aJ h λo ho h=> ?_;refine aJ h λvs hv h=> ?_;refine aJ h λl' hm h=> ?_;injection eC h with gx;refine ag (PB hv) λn e=> ?_;exact .some _ o vs n ho e hm λq=>by subst q; exact (Bool.noConfusion gx)
 | _=>exact nn h
theorem UP{x:V}(h:ZG v=some x):VR c x v:=by
 induction v using PySem.Value.casesOn with
 | none=>obtain rfl:=ae h; rfl
 | int i t=>obtain rfl:=ae h; exact ⟨_⟩
 | bytes b t=>induction eC h with | mk hb=>exact ⟨_,cE hb⟩
 | _=>exact nn h
theorem zm{c:bc}:∀ {vs:List Value} {l:List V},jD ZG vs=some l->dw c l vs
 | [],_,h=>by obtain rfl:=ae h; rfl
 | v::vs,_,h=>by
  refine aJ h λx hx h=> ?_;induction eo h with | mk l hl=>exact ⟨v,vs,UP hx,zm hl⟩
def ndS:List Str->Bool
 | []=>true
 | x::r=>r.all (λy=> !Fast.sEq y x)&&ndS r
theorem G1:∀ {l:List Str},ndS l=true->l.Nodup
 | [],_=>dR
 | x::r,h=>by
  have q:=λm=>aK.mp (aW h).1 x m;rw [gb.mpr rfl] at q;exact bj.mpr ⟨λm=>((Bool.noConfusion (q m))),G1 (aW h).2⟩
def RE:List Str->List Str->Bool
 | [],[]=>true
 | x::r,y::s=>Fast.sEq x y&&RE r s
 | _,_=>false
theorem Ij:∀ {l m:List Str},RE l m=true->l=m
 | [],[],_=>rfl
 | x::r,y::s,h=>congr (av List.cons (gb.mp (aW h).1)) (Ij (aW h).2)
def gdD(k np:Nat)(d:List V):Bool:=bif d.isEmpty then L0.contains (k,np)else(List.range (np+1)).all λn=>Nat.blt d.length (np-n)||L1.contains (k,n,d.length)
def NN:ScopeKind->Bool
 | .function=>true
 | _=>false
def gdS(sc:Scope):Bool:=NN sc.kind&& !sc.isCoroutine&& !sc.isGenerator&&ndS (sc.names.map (·.1))
def gdF(k:Nat):Bool:=((nW k).bind oQ).elim false λh=>gdS h.2.2&&Nat.ble h.1.args.length (j4 h.2.2 false).vn.length&&RE (((j4 h.2.2 false).vn.take h.1.args.length).map (·.1)) (h.1.args.map (·.arg))&&(jD AM h.1.defaults).elim false (gdD k h.1.args.length)
theorem XQ:kL.all gdF=true:= ⋯
theorem kLA:(List.range 87).all (λk=> !(nW k).isSome||(k==76||kL.contains k))=true:= ⋯
theorem LP(h:87<=k):nW k=none:=by unfold nW;rw [Nat.ble_eq_true_of_le (af ∅ h:80<=k),cond_true,ij (Nat.le_sub_of_add_le h:IQ.length<=k-80)]; rfl
theorem Wu{st:Stmt}(h:nW k=some st)(JD:k≠76):k∈kL:=by have a:=aK.mp kLA k (ft.mpr (Nat.lt_of_not_le λq=>mK ((LP q).symm.trans h)));rw [h,aI.mpr JD] at a;exact List.contains_iff_mem.mp a
inductive FnV(k:Nat)(f:Fn):Prop
 | mk (ar:Arguments) (b:List Stmt) (sc:Scope) (d:List V) (h:(nW k).bind oQ=some (ar,b,sc)) (hd:jD AM ar.defaults=some d) (e:f=⟨ar.args.length,d,b,j4 sc (k==76)⟩)
theorem Yc(h:fn k=some f):FnV k f:=by refine aJ h λst hst h=> ?_;refine aJ h λq hq h=> ?_;induction eo h with | mk d hd=>exact ⟨_,_,_,d,by rw [hst]; exact hq,hd,rfl⟩
theorem vO{k:ScopeKind}(h:NN k=true):k=.function:=by induction k using ScopeKind.casesOn <;> first | rfl | exact Bool.noConfusion h
theorem IZ {d:List V} {np:Nat} (hk:(nW k).bind oQ=some (ar,b,sc)) (he:fd.params=ar) (Tc:np=ar.args.length) (hD:Zt K d fd.defaults) (g:gdD k np d=true) (ie:K.In s.heap)
  (h1:vs.length<=np) (h2:np-vs.length<=d.length):∃ tail,(∀ c,dw c (d.drop (d.length-(np-vs.length))) tail)/\BindsTo s fd ⟨vs,[]⟩ ((ar.args.map (·.arg)).zip (vs++tail)):=by
 have ha:JI k=ar:=by unfold JI; rw [hk]; rfl
 unfold gdD at g;generalize Q0:fd.defaults=dv at hD;induction hD with
 | none hd=>subst hd;have hl:vs.length=np:=fz h1 (Nat.le_of_sub_eq_zero (Nat.le_zero.mp h2));have B:=wy (show D0 (k,np)from Jb bd0 (List.contains_iff_mem.mp g)) hl fd;rw [ha] at B;refine ⟨[],λc=>by rw [List.drop_nil]; rfl,?_⟩;rw [bS];obtain rfl:=he;rw [show({fd with params:=fd.params,defaults:=.none}:FuncData)=fd by rw [<-Q0]] at B;unfold Qh at B;rw [ha] at B;exact BindsTo.of_eq B
 | some T o ts n ho hd hm gx=>rw [show d.isEmpty=false by induction d using lh with | nil=>exact absurd rfl gx | cons=>rfl] at g;have V:∀ c,dw c d ts:=λc=>zm hm;have hl:=aY (V ⟨λZ=>none,0,λZ=>0,λZ=>0,λZ=>none⟩);have g2:=aK.mp g vs.length (ft.mpr (fk h1));rw [show Nat.blt d.length (np-vs.length)=false from eF.mpr λq=>absurd (sO q) (Nat.not_lt.mpr h2)] at g2;have B:=wy (wy (show D1 (k,vs.length,d.length)from Jb bd1 (List.contains_iff_mem.mp g2)) rfl) hl.symm fd;refine ⟨ts.drop (d.length-(np-vs.length)),λc=>ph _ (V c),?_⟩;unfold Qh at B;rw [ha] at B;obtain rfl:=he;rw [<-Tc] at B;exact BindsTo.of_defaults Q0 (ie _ _ ho) hd (bCS.2 fd vs) B
section
variable(O:BL cT=EZ)
include O
theorem ob1{st:Option Stmt}(m:(a,st)∈fL2):Yh cT a=fWa st:=G9 (f:=λp=>Yh cT p.1) (g:=λp=>fWa p.2) (av (·.1) O) m
theorem fdK(m:k∈kL)(h:(nW k).bind oQ=some (ar,b,sc)):FD cT (pB k) ar b sc:=Ih (ob1 O (eW _ (List.mem_map_of_mem (f:=λk=>(pB k,nW k)) m))) h
inductive Fct(k:Nat)(f:Fn):Prop
 | mk (o:Obj) (fd:FuncData) (ho:cT.lookup (pB k)=some o) (X:px f o fd) (hD:Zt cT f.tO fd.defaults) (ha:fd.params=JI k) (hn:(f.k.vn.take f.np).map (·.1)=Qh k)
theorem fct(hf:fn k=some f)(JD:k≠76):Fct k f:=by
 injection Yc hf with ar b sc d h hd e;subst e;injection eY h with st hst _;have m:=Wu hst JD;have g:=aK.mp XQ k m;unfold gdF at g;rw [h] at g;obtain ⟨g,g4⟩:=aW g;obtain ⟨g,g3⟩:=aW g;obtain ⟨g1,g2⟩:=aW g;have g4:(jD AM ar.defaults).elim false _=true:=g4;rw [hd] at g4;obtain ⟨g1,n1⟩:=aW g1;obtain ⟨g1,n2⟩:=aW g1;obtain ⟨n4,n3⟩:=aW g1;have hn:=Ij g3;have JD:(k==76)=false:=aI.mpr JD;injection fdK O m h with o fd ho d0 e1 e2 e3 e4 e5 e6 e7 e8;have hD:=Ol (e8.trans hd);subst e3;exact ⟨o,fd,ho,{
  data:=d0
  Ck:=e2
  closure:=e4
  globals:=e5
  builtins:=e6
  kind:=vO n4
  co:=Bool.not_eq_true' _▸n3
  gen:=Bool.not_eq_true' _▸n2
  code:=e7
  ck:=rfl
  nodup:=G1 n1
  np:=bH g2
  binds:=λs vs ie h1 h2=>(IZ h e1 rfl hD g4 ie h1 h2).casesOn λtail t=>⟨tail,t.1,hn.symm▸t.2⟩},hD,e1.trans (by unfold JI; rw [h]; rfl),hn.trans (by unfold Qh JI; rw [h]; rfl)⟩
theorem adU(hf:fn k=some f)(JD:k≠76):SK k f:=(fct O hf JD).casesOn λo fd ho X Z Z Z=>⟨o,fd,ho,X⟩
theorem kwf:Bc:=by
 induction hf:fn 86 using nN with
 | none=>have:(fn 86).isSome=true:= ⋯;rw [hf] at this; exact (Bool.noConfusion this)
 | some f=>
 have Tc:(fn 86).map (·.np)=some 12:= ⋯;have Q0:(fn 86).map (·.tO)=some ([.int 16,.int 32,.int 32,.int 4,.int 4,.int 4,.int 2,.int 128,.int 192,.int 160,.int 128]:List V):= ⋯;rw [hf] at Tc Q0;injection fct O hf ∅ with o fd ho X hD ha hn;rw [show f.tO=_ from ae Q0] at hD;refine ⟨f,o,fd,hf,ho,X,ae Tc,λs self a ie=> ?_⟩;generalize hdd:fd.defaults=dv at hD;generalize hl:([.int 16,.int 32,.int 32,.int 4,.int 4,.int 4,.int 2,.int 128,.int 192,.int 160,.int 128]:List V)=dl at hD;induction hD with
 | none h=>subst h; exact (ZA hl)
 | some T oT ts n hT dT m gx=>subst hl;have V:∀ c,dw c _ ts:=λc=>zm m;have len:=aY (V ⟨λZ=>none,0,λZ=>0,λZ=>0,λZ=>none⟩);have B:=wy (bd2 self a) len.symm fd;injection B with cc B1 B2;refine ⟨ts.take 3,ts.drop 4,λc=>mI 3 (V c),λc=>ph 4 (V c),?_⟩;rw [hn];rw [<-ha] at B1;exact BindsTo.of_defaults hdd (ie _ _ hT) dT B1 B2
omit O in
theorem GW{w:Value}(h:KW v=w):(∃ i t,v=.int i t/\w=.int i 0)\/v=w:=by subst h;induction v using PySem.Value.casesOn <;> first | exact .inr rfl | exact .inl ⟨_,_,rfl,rfl⟩
theorem obG{o:Option Value}(m:(x,o)∈Co):(nsIn cT mainGlobals x).map (Option.map KW)=some o:=G9 (f:=λp:Str×Option Value=>(nsIn cT mainGlobals p.1).map (Option.map KW)) (g:=λp=>some p.2) (av (·.2.2.2.2.1) O) m
theorem VI(m:(x,none)∈Co):nsIn cT mainGlobals x=some none:=by obtain ⟨o,h,e⟩:=bN.mp (obG O m);rw [h,Option.map_eq_none_iff.mp e]
theorem ZN(m:(x,some (.ref a))∈Co):nsIn cT mainGlobals x=some (some (.ref a)):=by obtain ⟨o,h,e⟩:=bN.mp (obG O m);obtain ⟨v,rfl,e⟩:=bN.mp e;rw [h];exact (GW (ae e)).elim (λ⟨_,_,_,q⟩=>(PySem.Value.noConfusion q)) λq=>q▸rfl
theorem obI{i:Int}(m:(x,some (.int i 0))∈Co):∃ t,nsIn cT mainGlobals x=some (some (.int i t)):=by obtain ⟨o,h,e⟩:=bN.mp (obG O m);obtain ⟨v,rfl,e⟩:=bN.mp e;rw [h];exact (GW (ae e)).elim (λ⟨_,t,q,q'⟩=>⟨t,by rw [q,(Value.int.inj q').1]⟩) λq=>⟨0,q▸rfl⟩
theorem VJ{b:Bool}(h:([true,true,true,true,true]:List Bool)[i]? =some b):(BL cT).2.2.2.1[i]? =some b:=by rw [show(BL cT).2.2.2.1=_ from av (·.2.2.2.1) O]; exact h
theorem uy(h:30<=k)(h':k<=75):keepIn cT (.ref (pB k))=true:=by
 have e:=ae (VJ O (i:=0) rfl);have:=aK.mp e (k-30) (ft.mpr (az (Nat.sub_le_sub_right h' 30) ∅))
 rwa [gK h] at this
theorem Qz:keepIn cT (.ref 63)=true:=ae (VJ O (i:=1) rfl)
theorem Ll:keepIn cT (.ref 528)=true:=ae (VJ O (i:=2) rfl)
theorem adb:(cT.lookup 3).isSome=true:=ae (VJ O (i:=3) rfl)
theorem VL:cT.lookup 63=some c63:=av (·.2.2.2.2.2.1) O
theorem ZM{v:Option (Option Value)}(h:([some (some (.ref 35)),some (some (.type "function")),some (some (.builtin "object.__setattr__")),some none]:List (Option (Option Value)))[i]? =some v):(BL cT).2.2.2.2.2.2.1[i]? =some v:=by rw [show(BL cT).2.2.2.2.2.2.1=_ from av (·.2.2.2.2.2.2.1) O]; exact h
theorem Rq:findIn cT (.ref 63) "__init__" =some (some (.ref 35)):=ae (ZM O (i:=0) rfl)
theorem Ph:typeIn cT (.ref 35)=some (.type "function"):=ae (ae (ZM O (i:=1) rfl))
theorem Kj:findIn cT (.ref 63) "__setattr__" =some (some (.builtin "object.__setattr__")):=ae (ZM O (i:=2) rfl)
theorem VQ:findIn cT (.ref 63) "why" =some none:=ae (ZM O (i:=3) rfl)
theorem VZ:mroIn cT 63 (.type "object")=some true:=av (·.2.2.2.2.2.2.2.2) O
theorem IL(h:k<7):OV k/\SM (.ref (pB (80+k))) (findIn cT (.ref (fK k)) "__init__")/\keepIn cT (.ref (fK k))=true:=by have e:cOb cT k=cWa k:=G9 (av (·.2.1) O) (ft.mpr h);obtain ⟨e,e2⟩:=cu e;obtain ⟨e2,e3⟩:=cu e2;obtain ⟨a1,e⟩:=cQ e;obtain ⟨a2,e⟩:=cQ e;obtain ⟨a3,e⟩:=cQ e;obtain ⟨a4,e⟩:=cQ e;obtain ⟨b1,e2⟩:=cQ e2;obtain ⟨b2,e2⟩:=cQ e2;obtain ⟨b3,e2⟩:=cQ e2;obtain ⟨b4,e2⟩:=cQ e2;exact ⟨⟨a1,a2,a3,b1,b2,λf m=>G9 e m,b3⟩,⟨a4,e3⟩,b4⟩
theorem mX{l:List (Str×α)}{a:α}(h:gH x l=some a):(x,a)∈l:=mem_of_lookup (mq x l▸h)
omit O in
theorem RW:qI.all (λp=>Nat.blt p.2 12||(Nat.ble 47 p.2&&Nat.ble p.2 75)||(Nat.ble 90 p.2&&Nat.blt p.2 97))=true:= ⋯
omit O in
theorem aeb:∀ p∈qI,p.2<12->bootBuiltins p.1=some (sQ p.2)/\p.1≠"__name__" :=by decide+kernel
theorem kok{mg mb:Str->Option Value}(ie:cT.In eI)(nl:eI.NoLimit)(G:eI.Ns mainGlobals mg)(B:eI.Ns builtinsNs mb)(hb:∀ x:Str,x≠"__name__" ->mb x=bootBuiltins x):lT where
 ie:=ie
 Nv:=nl
 glob:=by
  have gC:∀ {x:Str} {n:Nat} {o:Option Value},gH x qI=some n->To n=o->(x,o)∈Co:=λ{x n o} h e=>e▸eW _ (eW _ (List.mem_map_of_mem (f:=λp:Str×Nat=>(p.1,To p.2)) (mX O h)));have gX:∀ {x:Str} {o:Option Value},(x,o)∈([(Str.ofString "enumerate",none),(Str.ofString "zip",none),(Str.ofString "Exception",none),(Str.ofString "Shape",some (.ref (fK 6))),(Str.ofString "Misused",some (.ref 63)),(Str.ofString "_law_refused",some (.ref 528))]:List (Str×Option Value))->(x,o)∈Co:=λh=>List.mem_append_right _ h;refine ⟨mg,mb,G,B,λx i h=> ?_,λx n h=> ?_,⟨mg_none_of ie G (VI O (gX (.head _))),(hb _ (by decide+kernel)).trans (by decide+kernel)⟩,⟨mg_none_of ie G (VI O (gX (.tail _ (.head _)))),(hb _ (by decide+kernel)).trans (by decide+kernel)⟩,mg_of ie G (ZN O (gX (.tail _ (.tail _ (.tail _ (.head _))))))⟩
  ·obtain ⟨t,e⟩:=obI O (eW _ (List.mem_append_right _ (List.mem_map_of_mem (f:=λp:Str×Int=>(p.1,some (Value.int p.2 0))) (mX O h))));exact ⟨t,mg_of ie G e⟩
  ·have c:=aK.mp RW (x,n) (mX O h);rcases Bool.or_eq_true_iff.mp c with c | c
   ·rcases Bool.or_eq_true_iff.mp c with c | c
    ·have b:=aeb (x,n) (mX O h) (sO c);refine .blt n (sO c) ⟨mg_none_of ie G (VI O (gC h ?_)),(hb _ b.2).trans b.1⟩;unfold To; rw [c]; rfl
    ·have c1:=bH (aW c).1;have c2:=bH (aW c).2;refine .fn n c1 c2 (mg_of ie G (ZN O (gC h ?_)));unfold To;rw [sP (af ∅ c1:12<=n),AY (az c2 ∅ :n<90)]; rfl
   ·have c1:=bH (aW c).1;have c2:=sO (aW c).2;obtain ⟨j,rfl⟩:=Nat.exists_eq_add_of_le c1;refine .cls j (Nat.lt_of_add_lt_add_left (show 90+j<90+7 from c2)) (mg_of ie G (ZN O (gC h ?_)));unfold To;rw [sP (af ∅ (aB 90 j):12<=90+j),sP (aB 90 j),Nat.add_sub_cancel_left]; rfl
 cls:=λk h=>(IL O h).1
 init:=λk h=>(IL O h).2.1
 uy:=λk h h'=>uy O h h'
 B5:=λk h=>(IL O h).2.2
 V9:=λk f m h=>by
  obtain ⟨q,hq,rfl⟩:=bN.mp h;have e:=G9 (f:=λq:Nat×Nat×Nat=>(findIn cT (.ref (fK q.1)) (et q.2.1),typeIn cT (.ref (pB q.2.2)))) (g:=λq=>(some (some (.ref (pB q.2.2))),some (.type "function"))) (av (·.2.2.1) O) (List.mem_of_find?_eq_some hq);have p:=List.find?_some hq;obtain ⟨p1,p2⟩:=aW p;obtain rfl:=aD.mp p1;obtain rfl:=aD.mp p2;exact ⟨(cu e).1,(cu e).2⟩
theorem tow{mg mb:Str->Option Value}(ie:cT.In eI)(nl:eI.NoLimit)(G:eI.Ns mainGlobals mg)(B:eI.Ns builtinsNs mb)(hb:∀ x:Str,x≠"__name__" ->mb x=bootBuiltins x)(m:Nat):lT/\fu m (ai m)/\lS m (ai m):=
 have ko:=kok O ie nl G B hb
 ⟨ko,UO ko (λk f h h'=>adU O h h') (kwf O) m⟩
end
section
set_option backward.match.sparseCases true
section
variable{c':bc}{h':Heap}{o':Obj}
inductive Grw(c:bc)(F:iR)(σ:St)(h':Heap)(a:Addr)(o':Obj):Prop
 | mk (c':bc) (l:ji c c') (k:∀ b,b≠a->c'.T b=c.T b) (vl:c'.vals=c.vals) (t:c'.T a=some (.bO,o')) (R:bQ c' F σ h')
theorem og.self(h0:∀ b∈l,eI.get? b=none)(h1:∀ b∈l,∀ t o,c.T b=some (t,o)->t=.bO):og c c l:=⟨h0,h1,ji.refl c,λa o Z e=>e⟩
variable(h3:∃ q,eI.get? 3=some q)
include h3
theorem K8(R:bQ c F σ h)(ow:og c c l):MT c l h':=h3.elim λq e=>⟨3,q,∅,R.w.base 3 q e,λhm=>nn ((ow.base 3 hm).symm.trans e)⟩
theorem bQ.setB(R:bQ c F σ h)(t:c.T a=some (.bO,o))(hb:eI.get? a=none)(hk:∀ b q,b≠a->h.get? b=some q->h'.get? b=some q)(ho:h'.get? a=some o'):Grw c F σ h' a o':=
 have ow:og c c [a]:=.self (ah.mpr ⟨hb,λZ h=>(eX h)⟩) (ah.mpr ⟨λu q e=>av Prod.fst (ae (e.symm.trans t)),λZ h=>(eX h)⟩)
 ⟨c.re [a] h',(ow.ch (h:=h')).gf,λb q=>bc.kX λm=>q (ay.mp m),rfl,bc.rB aq ho,R.re ow (K8 h3 R ow) λb q hb e=>hk b q (λy=>hb (y▸aq)) e⟩
omit h3 in
theorem bQ.aem(R:bQ c F σ h)(hn:c.T a=none)(ho:h.get? a=some o):Grw c F σ h a o:=
 have T:=R.tag .bO hn (.inr (.inl rfl)) ho
 ⟨_,T.1.toji,λb q=>bY _ _ _ q,rfl,aF ..,T.2⟩
theorem bQ.re2 (R:bQ c F σ h) (ow:og c c l) (hLl:F.L ∉ l) (hk:∀ b q,b ∉ l->b≠F.L->h.get? b=some q->h'.get? b=some q)
  (hL:∀ q,h.get? F.L=some q->(∀ vs,q.data≠ .fields vs)->∃ sl,h'.get? F.L=some {q with slots:=sl}):∃ c',ji c c'/\c'.vals=c.vals/\(∀ b,b ∉ l->b≠F.L->c'.T b=c.T b)/\bQ c' F σ h':=by
 injection R.loc.ns with oL m tL n z;obtain ⟨es,ep,d,k1,k2⟩:=n;have Co:=R.w.hold _ _ _ tL;refine ag (hL oL Co λvs q=>(PySem.Data.noConfusion (d.symm.trans q))) λsl hL'=> ?_;have u:=cZ (λq=>{q with slots:=sl}) Co (Heap.get?_some_iff.mp hL').2;refine And.elim (λle R1=> ?_) (R.frame (o':={oL with slots:=sl}) (h':=h.update F.L λq=>{q with slots:=sl}) tL z ⟨es,ep,d,k1,k2⟩ u λb t q hb e=>(gU _ _ hb.symm).trans (R.w.hold b t q e));have e1:∀ b,b≠F.L->(c.put F.L .loc {oL with slots:=sl}).T b=c.T b:=λb hb=>bY _ _ _ hb;generalize c.put F.L .loc {oL with slots:=sl}=c1 at le R1 e1;have ow1:og c1 c1 l:=.self ow.base λb hb t q e=>ow.bO b hb t q ((e1 b λy=>hLl (y▸hb)).symm.trans e);exact ⟨c1.re l h',le.toji.trans (ow1.ch (h:=h')).gf,le.vals,λb h1 h2=>(bc.kX h1).trans (e1 b h2),R1.re ow1 (K8 h3 R1 ow1) λb q hb e=>by
  by_cases y:b=F.L
  ·subst y; exact hL'.trans (u.symm.trans e)
  ·exact hk b q hb y ((gU _ _ (Ne.symm y)).symm.trans e)⟩
end
structure lU(h:Heap)(mg mb:Str->Option Value):Prop where
 O:BL cT=EZ
 K:cT.In h
 nl:h.NoLimit
 G:h.Ns mainGlobals mg
 B:h.Ns builtinsNs mb
 hb:∀ x:Str,x≠"__name__" ->mb x=bootBuiltins x
section
variable{Q:Value->Shared->Prop}{p:Pos}{h':Heap}{mg mb:Str->Option Value}
theorem lU.keeps(b:lU h mg mb)(k:∀ a o,h.get? a=some o->h'.get? a=some o):lU h' mg mb:=⟨b.O,λa o e=>k a o (b.K a o e),b.nl.keeps k,b.G.keeps k,b.B.keeps k,b.hb⟩
theorem lU.h3(b:lU h mg mb):∃ q,h.get? 3=some q:=(f6.mp (adb b.O)).elim λo e=>⟨o,b.K _ _ e⟩
theorem gM{o:Option Value}(i:Nat)(h:Co[i]? =some (x,o)):(x,o)∈Co:=cH h
structure SN(env:Env):Prop where
 kind:env.scope.kind=.function
 glob:env.globals=mainGlobals
 R8:env.builtins=builtinsNs
theorem BP(b:lU s.heap mg mb)(e:SN env)(hx:env.kindOf x=some .globalImplicit)(m:(x,some (.ref a))∈Co)(hd:fQ x=true)(q:Q (.ref a) s):wpAny aO A (eval (.Name x p) env) Q E s:=
 Name_function_global e.kind hx (loadGlobal_global (e.glob▸b.G) (mg_of b.K b.G (ZN b.O m)) q) (jm hd)
theorem xB(hk:env.scope.kind=.function)(hx:env.kindOf x=some .local){m:Str->Option Value}(ns:s.heap.Ns env.locals m)(hm:m x=some v)(hd:fQ x=true)(q:Q v s):wpAny aO A (eval (.Name x p) env) Q E s:=wpAny_Name (wpAny_loadName_local hk hx ns hm q) (jm hd)
theorem Oq {body:List Stmt} {args:Args} {binds:List (Str×Value)} (b:lU s.heap mg mb) (Cc:A.depth<recursionLimit) (D:FD cT a ar body sc) (hs:gdS sc=true) (lM:∀ fd:FuncData,fd.params=ar->fd.defaults=.none->BindsTo s fd args binds) (Q0:jD AM ar.defaults=some [])
  (acR:∀ x∈binds,sc.names.lookup x.1=some .local) (QQ:∀ x∈sc.names,x.2≠ .cell)
  (h:∀ aS env,env.scope=sc->env.locals=s.heap.objs.size->env.frame=some s.heap.objs.size->env.globals=mainGlobals->env.builtins=builtinsNs->aS.Ns s.heap.objs.size (λx=>binds.reverse.lookup x)->(∀ b o,s.heap.get? b=some o->aS.get? b=some o)->
   wpAny aO (A.deeper env) (execs body env) (λf s'=>R (.ok (.ret (match f with | .ret v=>v | _=>.none))) s')
    (λe s'=>wpAny aO (A.deeper env) (leaving env e) (λZ Gb=>R (.error e) Gb) (λe' Gb=>R (.error e') Gb) s') {s with heap:=aS,toks:=s.toks+binds.length}):codeAny aO A (.call (.ref a) args) R s:=by
 injection D with o fd ho d0 e1 e2 e3 e4 e5 e6 e7 e8;subst e3;refine fb hs λg1 n1=> ?_;refine fb g1 λg1 n2=> ?_;refine fb g1 λn4 n3=> ?_;have hk:=vO n4;have hdn:fd.defaults=.none:=by
  have D:=Ol (e8.trans Q0);generalize fd.defaults=dv at D;induction D with
  | none=>rfl
  | some _ _ _ _ _ _ _ gx=>exact absurd rfl gx
 refine codeAny_call_function Cc (b.K _ _ ho) d0 (Bool.not_eq_true' _▸n3) (Bool.not_eq_true' _▸n2) e2 (codeRec_of b.K e7) (lM fd e1 hdn _ _ _ _ ?_);rw [e4];refine wpAny_newFunctionEnv QQ acR (λaS xZ WX=>⟨b.nl.fresh _ WX,codeAny_func ?_⟩) hk;exact h aS _ rfl rfl rfl e5 e6 xZ λb o e=>WX.extBut b o (aL (bt e)) (aE _ e)
end
end
section
open Sem (wp)
abbrev iU(t:Addr)(dd:Option Addr):Obj:={cls:=.ref 63,dict:=dd,data:=.fields #[.ref t,.none,.none,.none,.bool false,.none]}
theorem x1:(Value.ref 63::sM).contains (.type "Exception")=true:=by decide+kernel
theorem x2:(Value.ref 63::sM).contains (.type "AttributeError")=false:=by decide+kernel
theorem x3:(Value.ref 63::sM).contains (.type "NameError")=false:=by decide+kernel
theorem x4:(Value.ref 63::sM).contains (.ref 63)=true:=by decide+kernel
theorem x5:(Value.ref 63::sM).contains (.type "BaseException")=true:=by decide+kernel
abbrev Tw(h:Heap):Prop:=h.get? 63=some (excClassObj "Misused" "Misused" 63 62 [.ref 38] sM true [] [] false none none (some (.ref 54)) none (some (.str "Misused" 241)) (some (.str "Misused" 249)) (some (.bool true)) "Exception.__new__")
theorem Ms(O:BL cT=EZ)(X:cT.In h):Tw h:=X _ _ (VL O)
section
variable{t:Nat}
theorem Yj (hC:Tw h) (Cd:rest.length<=sizeLine)
  (hq:R (.ok (.ret (.ref (h.objs.size+1)))) ⟨(h.push {cls:=.type "tuple",data:=.seq rest.toArray}).push (iU h.objs.size none),g,d,t,os⟩):
  codeAny aO A (.builtin "Exception.__new__" ⟨.ref 63::rest,[]⟩) R ⟨h,g,d,t,os⟩:=by
 have F:=PySem.F.excBase_Exception;have afP:=F.ends;refine codeAny_builtinAt F.entry ?_;unfold Builtin.«BaseException.__new__»;refine PySem.wpAt_bind ?_;show PySem.wpAt _ _ _ (stack>>=_) _ _ _;refine PySem.wpAt_bind (PySem.wpAt_stack λp below=>PySem.wpAt_of_wpAny ?_);wp_walk;refine PySem.wpAt_of_wpAny ?_;rw [F.owner]
 repeat(first | with_reducible refine wpAny_madeHere_exc F.canon hC ?_ | with_reducible refine iK hC ?_ | (with_reducible refine wpAny_isSubtype_exc hC ?_; first | rw [x1] | rw [x2] | rw [x3]) | wp_step)
 show R _ _;rw [Heap.size_push];exact hq
theorem AF{Q:Unit->Shared->Prop}(hC:Tw h)(hq:Q () ⟨h,g,d,t,os⟩):wpAny M A (checkBuiltinCall "Exception.__new__" ⟨.ref 63::rest,[]⟩) Q E ⟨h,g,d,t,os⟩:=wpAny_check_new_subU PySem.F.excBase_Exception (bmB:=sM) (by decide+kernel) .base hC hq
theorem Rx (O:BL cT=EZ) (X:cT.In h) {Q:Value->Shared->Prop}
  (hq:∀ H,H=(h.push {cls:=.type "tuple",data:=.seq #[v]}).push (iU h.objs.size none)->wpAny aO (A.under (.builtin "type.__call__" ⟨[.ref 63,v],[]⟩)) (call (.ref 35) [.ref (h.objs.size+1),v]) (λr s'=>r=.none/\Q (.ref (h.objs.size+1)) s') E ⟨H,g,d,t,os⟩):
  wpAny aO A (call (.ref 63) [v]) Q E ⟨h,g,d,t,os⟩:=by
 have hC:=Ms O X;have f1:=tc_lookup;have f2:=tc_bind (.ref 63);have hT:(⟨h,g,d,t,os⟩:Shared).TypeIs (.ref 63) "type" :=⟨_,hC,rfl⟩
 refine wpAny_call (codeAny_of_tree ?_);show wpAny _ _ (callAny (.ref 63) _) _ _ _
 repeat(any_goals (first | assumption | with_reducible refine iK hC ?_ | wp_step))
 refine ⟨rfl,?_⟩;refine codeAny_call_builtin_at (Code.quiet_builtin _ (by decide+kernel)) entry_typeCall (wpAny_check_type_call_sub hC ?_);have F:=PySem.F.excBase_Exception
 repeat(first | with_reducible refine iK hC ?_ | with_reducible refine wpAny_madeBy_exc hC ?_ | wp_step)
 refine codeAny_call_builtin_code (Code.quiet_builtin _ F.quiet) (AF hC ?_);refine Yj hC (by show 1<=sizeLine; decide) ?_;have hq:=hq _ rfl;show wpAny _ _ _ _ _ ⟨(h.push {cls:=.type "tuple",data:=.seq #[v]}).push (iU h.objs.size none),g,d,t,os⟩;have k1:∀ b o,h.get? b=some o->((h.push {cls:=.type "tuple",data:=.seq #[v]}).push (iU h.objs.size none)).get? b=some o:=λb o e=>aE _ (aE _ e);have Xq:((h.push {cls:=.type "tuple",data:=.seq #[v]}).push (iU h.objs.size none)).get? (h.objs.size+1)=some (iU h.objs.size none):=by heap_get
 generalize (h.push {cls:=.type "tuple",data:=.seq #[v]}).push (iU h.objs.size none)=H at hq k1 Xq ⊢;have hC1:=k1 _ _ hC;have X1:cT.In H:=λa o e=>k1 a o (X a o e);unfold isInstance
 repeat(first | with_reducible refine iK Xq ?_ | (with_reducible refine wpAny_isSubtype_exc hC1 ?_; rw [x4]) | wp_step)
 show wpAny _ _ (typeLookup (.ref 63) _) _ _ _;refine (looks_findIn X1 (Rq O)).here ?_;refine bq (aa ?_);unfold bindSpecial;refine aa ((looks_typeIn X1 (Ph O)).here ?_);rw [dm ∅];refine aj (aa (wpAny_mono hq (λr s' hr=> ?_) λZ Z x=>x));obtain ⟨rfl,hQ⟩:=hr;wp_walk;exact hQ
end
end
section
open PySem.Builtin PySem.Builtin.ObjectAttr
open Sem (wp)
theorem Pg:typeOf (.type "Exception")=pure (.type "type"):=by unfold typeOf; kernel_rfl
section
variable{tk:Nat}{e t:Addr}
theorem AG{oe:Obj}{Q:Unit->Shared->Prop}(hC:Tw h)(he:h.get? e=some oe)(Q1:oe.cls=.ref 63)(hq:Q () ⟨h,g,d,tk,os⟩):
  wpAny M A (checkBuiltinCall "Exception.__init__" ⟨.ref e::rest,[]⟩) Q E ⟨h,g,d,tk,os⟩:=by
 have F:=PySem.F.excBase_Exception;have acC:=F.noStar;simp only [checkBuiltinCall,F.initKind,F.initSplit,F.initRow]
 repeat(first | (with_reducible refine iK he ?_; rw [Q1]) | with_reducible refine iK hC ?_ | (with_reducible refine wpAny_isSubtype_exc hC ?_; rw [x1]) | wp_step)
 refine wpAny_onRaise ?_;rw [show ∀ (a b:String) (n:Nat),Bind.check ⟨.positional,"*","Exception",.self,[⟨"args",.varPos,false⟩]⟩ a b n (List.map (λx=>x.fst) ({pos:=Value.ref e::rest}:Args).kw)=pure ()from
  λa b n=>check_star_args _ _ _ _ _ _]
 exact aj hq
theorem Yk {dd:Option Addr} {Q:Value->Shared->Prop} (hC:Tw h) (he:h.get? e=some (iU t dd))
  (hq:∀ h',(∀ b o,b≠e->h.get? b=some o->h'.get? b=some o)->h'.get? e=some (iU h.objs.size dd)->Q .none ⟨h',g,d,tk,os⟩):wpAny aO A (call (.builtin "Exception.__init__") [.ref e,v]) Q E ⟨h,g,d,tk,os⟩:=by
 have F:=PySem.F.excBase_Exception;refine wpAny_call (codeAny_call_builtin F.init.plain F.initEntry (AG hC he rfl ?_));wp_walk;exact hq _ (λb o hb hx=>(gU _ _ (Ne.symm hb)).trans (aE _ hx)) (cZ _ (aE _ he) rfl)
theorem Gl(self:Value):refuseLoop self "__setattr__" (.ref 63::sM)=pure ():=by unfold sM;rw [refuseLoop_ref,refuseLoop_ref];unfold refuseLoop;kernel_rfl
theorem Yz(O:BL cT=EZ):∃ cd,clsIn cT 63=some cd/\cd.mro=.ref 63::sM/\cd.hasDict=true:=by unfold clsIn;rw [VL O];exact ⟨_,rfl,rfl,rfl⟩
theorem Yi (O:BL cT=EZ) {Q:Unit->Shared->Prop} (X:cT.In s.heap) (he:s.heap.get? e=some (iU t none))
  (hq:∀ h' tk dd,(∀ b o,b≠e->s.heap.get? b=some o->h'.get? b=some o)->h'.get? e=some (iU t (some dd))->Q () {s with heap:=h',toks:=tk}):wpAny aO A (setAttr (.ref e) "why" v) Q E s:=by
 have I:InstAt s.heap e (iU t none) 63 none:=⟨he,rfl,rfl,trivial⟩
 refine ag (Yz O) λcd z1=>And.elim (λzc z2=>And.elim (λacN rW=> ?_) z2) z1;refine set_plain X I (Kj O) ?_;have SF:=PySem.F.store_object;have sub:Looks aO s.heap (isInstance (.ref e) (.type "object")) true:=I.type.andThen (looks_mroIn X (VZ O));refine codeAny_call_builtin SF.slot.plain SF.entry (@check_slot aO _ _ {s with toks:=s.toks+1} "object.__setattr__" "object" "__setattr__" (.ref e) [.str "why" s.toks,v] [] _ SF.kind SF.split sub (SF.args (.ref e) (.str "why" s.toks) v) ?_);have hm:Looks aO s.heap (mroOf (.ref 63)) cd.mro:=(looks_clsIn X zc).andThen .now;rw [osa_eq,refuse_eq];refine aa (aa (I.type.here (s:={s with toks:=s.toks+1}) (aa (hm.here (s:={s with toks:=s.toks+1}) ?_))));rw [acN,Gl];refine aj (aa (I.type.here (s:={s with toks:=s.toks+1}) (aa ((looks_findIn X (VQ O)).here (s:={s with toks:=s.toks+1}) (aa (aj ?_))))));show wpAny _ _ (storeInOwnDict (.ref e) (.ref 63) (.str "why" s.toks) "why" v false) _ _ _;unfold storeInOwnDict;refine aa (aj ?_);show wpAny _ _ (ownDictForStores (.ref e)>>=_) _ _ _;refine aa ?_;show wpAny _ _ (instanceDict e true) _ _ _;unfold instanceDict;refine aa (wpAny_loadPart he ?_);show wpAny _ _ (classData 63>>=_) _ _ _;refine aa ((looks_clsIn X zc).here (s:={s with toks:=s.toks+1}) ?_);rw [rW];show wpAny _ _ (alloc {cls:=.type "dict",data:=.dict #[]}>>=_) _ _ _;refine aa (wpAny_alloc ?_);have he1:=aE (h:=s.heap) {cls:=.type "dict",data:=.dict #[]} he;refine aa (wpAny_update he1 ?_);have hde:s.heap.objs.size≠e:=dM (bt he);have heH:((s.heap.push {cls:=.type "dict",data:=.dict #[]}).update e (λo=>{o with dict:=some s.heap.objs.size})).get? e=some (iU t (some s.heap.objs.size)):=cZ _ he1 rfl;have Z9:((s.heap.push {cls:=.type "dict",data:=.dict #[]}).update e (λo=>{o with dict:=some s.heap.objs.size})).get? s.heap.objs.size=some (b9 [] 0):=(gU _ _ hde.symm).trans (aR _ rfl);have hkH:∀ b o,b≠e->s.heap.get? b=some o->((s.heap.push {cls:=.type "dict",data:=.dict #[]}).update e (λo=>{o with dict:=some s.heap.objs.size})).get? b=some o:=λb o hb q=>(gU _ _ (Ne.symm hb)).trans (aE _ q);generalize (s.heap.push {cls:=.type "dict",data:=.dict #[]}).update e (λo=>{o with dict:=some s.heap.objs.size})=H at heH Z9 hkH ⊢;refine aj ?_;show wpAny _ _ (storeInDict s.heap.objs.size (.str "why" s.toks) "why" v) _ _ _;unfold storeInDict;refine aa (aj (aa ?_));unfold nsSet;refine aa (aa (wpAny_askSetting (aj (aa (wpAny_mkText (aa (wpAny_loadPart Z9 ?_)))))));show wpAny _ _ (if aRefKeyMayBeTheName "why" ([]:List DictEntry).toArray=true then _ else _) _ _ _;rw [cb ∅];refine wpAny_updatePart Z9 ?_;have hd2:(H.update s.heap.objs.size (Obj.putName "why" (PyData.keyHash gD.params "why") (.str "why" (s.toks+1)) v)).get? s.heap.objs.size=some (b9 [⟨PyData.keyHash gD.params "why",.str "why" (s.toks+1),v⟩] 1):=by rw [cZ _ Z9 (by rw [l6]; rfl),l6]; rfl
 refine aa (wpAny_lookBehind hd2 (by exact pastItsLine_dict (by show 1<=sizeLine+1; decide)) ?_);exact aj (hq _ _ s.heap.objs.size (λb o hb q=>(gU _ _ (dM (bt q))).trans (hkH b o hb q)) ((gU _ _ hde).trans heH))
end
end
section
open Sem (wp)
abbrev arg(x:String)(p:Pos):Arg:={arg:=Str.ofString x,annotation:=none,pos:=p}
abbrev BO(x:String)(p:Pos):Expr:=.Name (Str.ofString x) p
abbrev I8(l:List Arg):Arguments:={posonlyargs:=[],args:=l,vararg:=none,kwonlyargs:=[],kw_defaults:=[],kwarg:=none,defaults:=[]}
abbrev ZK(l:List (String×NameKind)):Scope:={kind:=.function,names:=l.map λp=>(Str.ofString p.1,p.2),isGenerator:=false,isCoroutine:=false,more:=[]}
def U8:Scope:=ZK [("self",.local),("why",.local),("Exception",.globalImplicit)]
def Sj:Arguments:=I8 [arg "self" ⟨7,17,7,21⟩,arg "why" ⟨7,23,7,26⟩]
def b35:List Stmt:=[.Expr (.Call (.Attribute (BO "Exception" ⟨8,8,8,17⟩) "__init__" ⟨8,8,8,26⟩) [BO "self" ⟨8,27,8,31⟩,BO "why" ⟨8,33,8,36⟩] [] ⟨8,8,8,37⟩) ⟨8,8,8,37⟩,
 .Assign [.Attribute (BO "self" ⟨9,8,9,12⟩) "why" ⟨9,8,9,16⟩] (BO "why" ⟨9,19,9,22⟩) ⟨9,8,9,22⟩]
theorem ac5:(xC (2,0)).bind oQ=some (Sj,b35,U8):= ⋯
theorem Sb(a b:Value)(s:Shared)(fd:FuncData)(h:fd.params=Sj)(h':fd.defaults=.none):BindsTo s fd ⟨[a,b],[]⟩ [("self",a),("why",b)]:=by
 refine BindsTo.of_eq ?_;have e:fd={fd with params:=Sj,defaults:=.none}:=by rw [<-h,<-h']
 exact (av (λfd=>bindArgs fd _) e).trans ⋯
section
variable{mg mb:Str->Option Value}{e t:Addr}
theorem adX(O:BL cT=EZ):findCls cT (.type "Exception") (.type "type") "__init__" =some (.val (.builtin "Exception.__init__")):= ⋯
theorem Rw {Q:Value->Shared->Prop} (b:lU s.heap mg mb) (he:s.heap.get? e=some (iU t none)) (hn:cT.lookup e=none) (Cc:A.depth<recursionLimit)
  (hq:∀ h' tk t' dd,(∀ b o,b≠e->s.heap.get? b=some o->h'.get? b=some o)->h'.get? e=some (iU t' (some dd))->Q .none {s with heap:=h',toks:=tk}):wpAny aO A (call (.ref 35) [.ref e,v]) Q E s:=by
 refine wpAny_call (Oq (a:=35) (binds:=[("self",.ref e),("why",v)]) b Cc (Ih (ob1 b.O (a:=35) (st:=xC (2,0)) (List.mem_append_right _ (.head _))) ac5) ⋯ (Sb _ _ s) rfl ?_ ∅ λaS env e1 e2 e3 e4 e5 ns hk=> ?_)
 ·intro x hx;rcases aH.mp hx with rfl | hx
  ·rfl
  ·obtain rfl:=ay.mp hx; rfl
 have b1:=b.keeps (h':=aS) hk;have ek:env.scope.kind=.function:=by rw [e1]; rfl
 have kO:env.kindOf=λx=>U8.names.lookup x:=by show(λx=>env.scope.names.lookup x)=_; rw [e1]
 rw [<-e2] at ns;unfold b35;refine fP (wpAny_Expr ?_ (by unfold interactive; rw [e1]; rfl) rfl);rw [ir rfl];refine aa (Name_function_global (s:={s with heap:=aS,toks:=s.toks+2}) ek (by rw [kO]; rfl) (loadGlobal_builtin (e4▸b1.G) (mg_none_of b1.K b1.G (VI b.O (gM 65 rfl))) (e5▸b1.B) ((b1.hb _ ∅).trans (show bootBuiltins "Exception" =some (.type "Exception")by decide+kernel)) (aa (de ?_))) ∅);refine ip rfl ∅ rfl λpl=> ?_;have F:Fr s.heap s.heap.objs.size aS _:=⟨e2▸ns,hk,aA _⟩
 refine method_type (s:={s with heap:=aS,toks:=s.toks+2}) F b.K Pg (by decide+kernel) (adX b.O) rfl ?_;refine eB (Pp:=λZ=>True) rfl (λh Z=>gm rfl h) ?_;refine wpAny_items_cons (xB ek (by rw [kO]; rfl) ns rfl ∅ (wpAny_items_cons (xB ek (by rw [kO]; rfl) ns rfl ∅ (eO ⟨trivial,?_⟩)) rfl)) rfl;refine Yk (Ms b.O b1.K) (hk _ _ he) λeG k2 he2=> ?_;have hLe:s.heap.objs.size≠e:=dM (bt he);have ns2:eG.Ns env.locals λx=>List.lookup x [(Str.ofString "self",Value.ref e),(Str.ofString "why",v)].reverse:=by obtain ⟨o,es,ep,e1,r⟩:=ns;exact ⟨o,es,ep,k2 _ _ (e2▸hLe) e1,r⟩
 have X2:cT.In eG:=λa o q=>k2 a o (λy=>nn (hn.symm.trans (y▸q))) (b1.K a o q);refine fP (plainObj_wpAny_Assign_Attribute (xB ek (by rw [kO]; rfl) ns2 rfl ∅ (xB ek (by rw [kO]; rfl) ns2 rfl ∅ ?_)) rfl);refine Yi (s:={s with heap:=eG,toks:=_}) b.O X2 he2 λgR lJ dd k3 he3=>wpAny_execs_nil ?_;exact hq gR lJ _ dd (λb o hb q=>k3 b o hb (k2 b o hb (hk b o q))) he3
theorem Kt {x:Sem Value} (hh:A.handled=none)
  (h:wpAny M A x (λv cU=>∃ e t dd,v=.ref e/\Tw cU.heap/\cU.heap.get? e=some (iU t dd)/\E (.ref e) cU) E s):wpAny M A (raiseStmt env (some x) none) Q E s:=by
 unfold raiseStmt;refine aa (wpAny_mono h (λv cU aS=> ?_) λZ Z x=>x);obtain ⟨e,t,dd,rfl,hC,he,hE⟩:=aS;obtain ⟨hp,g,d,tk,os⟩:=cU
 repeat(first | with_reducible refine iK he ?_ | with_reducible refine iK hC ?_ | (with_reducible refine wpAny_isSubtype_exc hC ?_; rw [x5]) | wp_step)
 exact wpAny_raiseNew_none hh hE
theorem LR {msg:Str} {kk:Nat} {np Wk Yw pos:Pos} (b:lU s.heap mg mb) (eg:SN env) (hx:env.kindOf "Misused" =some .globalImplicit) (hh:A.handled=none) (Cc:A.depth+10<recursionLimit)
  (hq:∀ h' tk e t dd,(∀ b o,s.heap.get? b=some o->h'.get? b=some o)->s.heap.get? e=none->h'.get? e=some (iU t (some dd))->E (.ref e) {s with heap:=h',toks:=tk}):
  wpAny aO A (exec (.Raise (some (.Call (.Name "Misused" np) [.Constant (.str msg) kk Wk] [] Yw)) none pos) env) Q E s:=by
 rw [arm_exec_Raise];refine aa (de (Kt hh (aa ?_)));show wpAny _ _ (eval (.Call (.Name "Misused" np) [.Constant (.str msg) kk Wk] [] Yw) env) _ _ _;rw [ea];refine aa (BP b eg hx (gM 67 rfl) ∅ ?_);refine eB (Pp:=cT.In) rfl (keeps_K (Qz b.O)) ?_;refine wpAny_items_cons (wpAny_Constant_str (eO ⟨b.K,?_⟩)) rfl;refine Rx b.O b.K λH hH=> ?_;have hun:(A.under (.builtin "type.__call__" ⟨[.ref 63,.str msg s.toks],[]⟩)).depth<recursionLimit:=by show A.depth+Code.weight _<_;rw [tW]; lia
 have k1:∀ b o,s.heap.get? b=some o->H.get? b=some o:=λb o e=>hH▸aE _ (aE _ e);have he:H.get? (s.heap.objs.size+1)=some (iU s.heap.objs.size none):=by rw [hH]; heap_get
 have hn:s.heap.get? (s.heap.objs.size+1)=none:=Heap.get?_none_of_le (da _);have hK:cT.lookup (s.heap.objs.size+1)=none:=by
  rcases q:cT.lookup (s.heap.objs.size+1)with _ | o
  ·rfl
  ·exact nn (hn.symm.trans (b.K _ _ q))
 refine Rw (s:=⟨H,s.gens,s.drawn,_,s.os⟩) (b.keeps k1) he hK hun λh' tk t' dd k2 Tf=>⟨rfl,?_⟩
 have k3:∀ b o,s.heap.get? b=some o->h'.get? b=some o:=λb o e=>k2 b o (λy=>nn (hn.symm.trans (y▸e))) (k1 b o e);exact aa (de (aj ⟨_,t',some dd,rfl,Ms b.O λa o e=>k3 a o (b.K a o e),Tf,hq h' tk _ t' dd k3 hn Tf⟩))
end
end
section
set_option backward.match.sparseCases true
def Ks:List Stmt:=[.Raise (some (.Call (.Name "Misused" ⟨247,14,247,21⟩) [.Constant (.str "a block of another size, or where none may be") 0 ⟨247,22,247,69⟩] [] ⟨247,14,247,70⟩)) none ⟨247,8,247,70⟩]
def WI:Expr:=(IK 64 1).getD (.Name "" ⟨0,0,0,0⟩)
def U1:Stmt:=((hO 64)[0]?).getD (.Pass ⟨0,0,0,0⟩)
theorem IX:hO 64=U1:: .If WI Ks [] ⟨246,4,247,70⟩::(hO 64).drop 2:= ⋯
theorem Yy:IK 64 1=some WI:= ⋯
theorem Ye:(fn 64).map (λf=>(f.np,f.k.vn.length,f.tO.length,f.k.y0.lookup (Str.ofString "Misused")))=some (7,9,0,some .globalImplicit):= ⋯
theorem DX(b rest:List Stmt)(env:Env):execs (b++rest) env=execs b env>>=λf=>match f with
  | .next=>execs rest env
  | f=>pure f:=by
 induction b with
 | nil=>exact (pure_bind (m:=Sem) Flow.next (λf=>match f with
  | .next=>execs rest env
  | f=>pure f)).symm
 | cons st b ih=>rw [List.cons_append,execs_cons,execs_cons,bind_assoc];refine av (exec st env>>=·) (funext λf=> ?_);induction f <;> first | exact ih | exact (pure_bind (m:=Sem) _ _).symm
theorem OL.app {rest:List Stmt} (h:OL F b σ (.ez,σ')) (hA:iZ F.r A) (hR:bQ c F σ s.heap)
  (q:∀ c' h' tk,Lw c c'->bQ c' F σ' h'->wpAny aO A (execs rest F.env) Q E {s with heap:=h',toks:=tk}):wpAny aO A (execs (b++rest) F.env) Q E s:=by
 rw [DX];exact aa (h A c s _ _ hA hR λc' h' tk fl l R X=>by obtain rfl:fl=.next:=X; exact q c' h' tk l R)
section
variable{mg mb:Str->Option Value}
theorem bQ.baseOf(R:bQ c F σ h)(b0:lU eI mg mb):lU h mg mb:=b0.keeps R.old
structure Ba(m:Nat)(as:List V)(W:List aV)(km:St):Prop where
 x0:lZ (ai m) 64 0 1 ⟨as.map (λa=>some (LV.v a))++ [none,none],[],W⟩=some (.ez,km)
 xc:yF (ai m) 64 1 km=some (.bool true,km)
 hW:km.W=W
 hlen:as.length=7
inductive Rsd(c c2:bc)(s:Shared)(σ:St)(hr h':Heap)(env:Env)(e:Addr):Prop
 | mk (F:iR) (t dd:Addr) (l:Lw c c2) (R:bQ c2 F σ hr) (hL:F.L=s.heap.objs.size) (fr:env.frame=some s.heap.objs.size) (kd:env.scope.kind=.function) (k:∀ b o,hr.get? b=some o->h'.get? b=some o) (hn:hr.get? e=none) (he:h'.get? e=some (iU t (some dd)))
theorem JS (b0:lU eI mg mb) (ko:lT) (hc:fu m (ai m)) (hk:lS m (ai m))
  (hA:j2 (m+1) A) (hR:dp c W s.heap) (V:dw c as vs) (X:Ba m as W km)
  (q:∀ (c2:bc) (hr h':Heap) (tk:Nat) (env:Env) (e:Addr),Rsd c c2 s km hr h' env e->wpAny aO (A.deeper env) (leaving env (.ref e)) (λZ Gb=>R (.error (.ref e)) Gb) (λe' Gb=>R (.error e') Gb) {s with heap:=h',toks:=tk}):
  codeAny aO A (.call (.ref (pB 64)) ⟨vs,[]⟩) R s:=by
 rcases hf:fn 64 with _ | f
 ·have:=Ye; rw [hf] at this; exact nn this
 have f4:=Ye;rw [hf] at f4;refine And.elim (λf1 f4=> ?_) (cu (ae f4));refine And.elim (λf2 f4=> ?_) (cu f4);refine And.elim (λf3 f4=> ?_) (cu f4);have kk:nr 64=f.k:=by unfold nr; rw [hf]; rfl
 have kb:hO 64=f.body:=by unfold hO; rw [hf]; rfl
 injection fct b0.O hf ∅ with o fd ho Y hD ha hn;have hvl:vs.length=f.np:=(aY V).symm.trans (X.hlen.trans f1.symm);injection Y.binds s vs (hR.ie ko.ie) (bW hvl) (by rw [hvl,Nat.sub_self]; exact bw _)with tail ht hb;have htl:tail=[]:=by have:=aY (ht c);rw [hvl,Nat.sub_self,Nat.sub_zero,List.drop_length] at this;exact gB.mp this.symm
 subst htl;rw [bS] at hb;refine CB ko ho Y hA hR (X.hlen.trans f1.symm) hb V λF c1 h1 J5 Z l1 R1=> ?_;rw [f1,f2] at R1;rw [<-kb,IX];have N6:iZ F.r (A.deeper F.env):=Z.r▸hA.deeper F.env;have x0:yo (ai m) (nr 64) 12 (((hO 64).drop 0).take 1) _=_:=X.x0;have xc:=X.xc;rw [IX,kk,<-Z.k] at x0;unfold yF at xc;rw [Yy,kk,<-Z.k] at xc;have eg:SN F.env:=⟨Z.ek.kind,Z.ek.glob,Z.ek.R8⟩
 refine (oU Z.r Z.ek ko hc hk x0).app (b:=[U1]) (s:={s with heap:=h1,toks:=J5}) N6 R1 λc2 h2 Pn l2 R2=> ?_;refine fP (wpAny_If ((kF ko hc hk F Z.r Z.ek xc).st true rfl (A.deeper F.env) c2 {s with heap:=h2,toks:=Pn} _ _ N6 R2 λc3 h3 UQ b2 l3 R3 hb2=> ?_));subst hb2;refine fP (LR (R3.baseOf b0) eg (Z.ek.gl _ (Z.k▸f4)) (by exact N6.handled) (az (bf (Nat.le_mul_of_pos_right 10 (cN _)) _) N6.depth) λh4 tk4 e t dd k4 hn4 he4=> ?_);exact q c3 h3 h4 tk4 F.env e ⟨F,t,dd,(l1.trans l2).trans l3.toLw,R3,Z.L,Z.fr,Z.ek.kind,k4,hn4,he4⟩
end
end
def y1:Scope:=ZK [("dnode",.free),("io",.free),("keeper",.free),("rules",.free),("shape",.free),("some",.free),("txg",.free),("write_blocks",.globalImplicit)]
def vN:Arguments:=I8 []
def q7:List (Str×Pos):=[("io",⟨457,50,457,52⟩),("shape",⟨457,54,457,59⟩),("dnode",⟨457,61,457,66⟩),("some",⟨457,68,457,72⟩),("rules",⟨457,74,457,79⟩),("txg",⟨457,81,457,84⟩),("keeper",⟨457,86,457,92⟩)]
def q6:Expr:=.Call (BO "write_blocks" ⟨457,37,457,49⟩) (q7.map λp=>.Name p.1 p.2) [] ⟨457,37,457,93⟩
theorem Rn:∀ p∈q7,y1.names.lookup p.1=some .free/\(p.1==("__debug__" :Str))=false/\(p.1==("__classdict__" :Str))=false:=by decide+kernel
abbrev rR(qual:Str)(oZ:List (Str×Addr))(pm AQ:Value)(c':Addr):Obj:={cls:=.type "function",data:=.func (kla_fn "<lambda>" qual vN q6 y1 oZ pm (.ref c') AQ)}
inductive JL(h:Heap)(oZ:List (Str×Addr)):List (Str×Pos)->List Value->Prop
 | nil:JL h oZ [] []
 | cons (x:Str×Pos) (xs:List (Str×Pos)) (v:Value) (vs:List Value) (a:Addr) (k:oZ.lookup x.1=some a) (e:h.IsCell a (some v)) (r:JL h oZ xs vs):JL h oZ (x::xs) (v::vs)
def Bd(c:bc)(env:Env):Prop:=env.scope.kind≠ .module/\∃ L o,env.frame=some L/\c.T L=some (.bO,o)/\(∀ vs,o.data≠ .fields vs)/\eI.get? L=none
section
variable{mg mb:Str->Option Value}{h':Heap}{pos:Pos}
theorem JL.keeps(k:∀ b o,h.get? b=some o->h'.get? b=some o){xs:List (Str×Pos)}(x:JL h oZ xs vs):JL h' oZ xs vs:=by
 induction x with
 | nil=>exact .nil
 | cons x xs v vs a kk e r ih=>exact .cons x xs v vs a kk (e.imp λo q=>⟨k _ _ q.1,q.2⟩) ih
theorem DT(hk:env.scope.kind=.function){xs:List (Str×Pos)}(x:JL s.heap env.cells xs vs):∀ {Q:List Value->Shared->Prop},(∀ p∈xs,env.kindOf p.1=some .free/\(p.1==("__debug__" :Str))=false/\(p.1==("__classdict__" :Str))=false)->Q vs s->
  wpAny aO A (spliced (backTo pos (starEach (xs.map λp=>Expr.Name p.1 p.2) env))) Q E s:=by
 induction x with
 | nil=>exact λZ q=>eO q
 | cons x xs v vs a kk e r ih=>
  exact λhx q=>have⟨⟨g1,g2,g3⟩,h2⟩:=ah.mp hx
   wpAny_items_cons (wpAny_Name (wpAny_loadName_free hk g1 kk e (ih h2 q) g3) g2) rfl
theorem Od{c:bc}{base:Heap}(hh:∀ a o,c.T a=some (.bO,o)->h.get? a=some o):∀ {l:List Env},(∀ env∈l,Bd c env)->(∀ L∈l.filterMap (·.frame),base.get? L=none)->h.FunFrames base l
 | [],_,_=>trivial
 | env::l,h1,h2=>by
  obtain ⟨k,L,o,f,g,d,_⟩:=h1 env (aq ..);exact ⟨k,⟨L,o,f,h2 L (List.mem_filterMap.mpr ⟨env,aq ..,f⟩),hh _ _ g,d⟩,Od hh (λe he=>h1 e (aw _ he)) λL' hL=>h2 L' (by rw [List.filterMap_cons,f]; exact aw _ hL)⟩
theorem Bd.bO{c':bc}(l:∀ a o,c.T a=some (.bO,o)->c'.T a=some (.bO,o)):Bd c env->Bd c' env
 | ⟨k,L,o,f,t,d⟩=>⟨k,L,o,f,l _ _ t,d⟩
inductive aeL(c:bc)(W:List aV)(h:Heap)(a:Addr)(o:Obj):Prop
 | mk (c':bc) (l:Lw c c') (t:c'.T a=some (.bO,o)) (R:dp c' W h)
theorem dp.UR(R:dp c W h)(hn:c.T a=none)(ho:h.get? a=some o):aeL c W h a o:=
 have x:Ch c (c.put a .bO o) (λZ=>False):=Ch.fresh hn
 ⟨_,x.lw id,aF ..,⟨R.low.put (.inr (.inl rfl)) (λo e=>nn (hn.symm.trans e)),λb u q eq=>(cm eq).elim (λz=>z.1▸z.2.2▸ho) λz=>R.hold _ _ _ z.2,λb q eq=>(x.lw id).bO _ _ (R.base b q eq),R.len,λn M eq=>(R.jx n M eq).ch x (R.lt eq) id id⟩⟩
theorem dp.oD(R:dp c W h)(ha:h.objs.size<=a):c.T a=none:=by
 rcases q:c.T a with _ | p
 ·rfl
 ·exact absurd (bt (R.hold a p.1 p.2 q)) (Nat.not_lt.mpr ha)
theorem uD(e:h.get? a=none):(hideAll h l).get? a=none:=by
 rcases q:(hideAll h l).get? a with _ | o
 ·rfl
 ·exact nn (e.symm.trans (of_hideAll _ q))
inductive aeH(c:bc)(s:Shared)(W:List aV)(outer:List Env)(h':Heap)(e:Addr):Prop
 | mk (c2:bc) (σ:St) (hr:Heap) (x:Value) (o2:Obj) (L3:Addr) (F:iR) (l:Lw c c2) (t2:c2.T s.heap.objs.size=some (.bO,o2)) (R:bQ c2 F σ hr) (hW:σ.W=W) (hL:F.L=L3) (lt:s.heap.objs.size<L3)
   (fl:Heap.FlyingW (hideAll hr (L3::s.heap.objs.size::outer.filterMap (·.frame))) outer e (.ref 63) x h') (us:hr.UpToSlots h')
theorem Lk (b0:lU eI mg mb) (ko:lT) (hc:fu m (ai m)) (hk:lS m (ai m)) {f:Addr} {pm AQ:Value} {outer:List Env}
  (hA:j2 (m+2) A) (yd:A.frames=some outer) (hR:dp c W s.heap) (hf:s.heap.get? f=some (rR qual oZ pm AQ c')) (zc:s.heap.CodeRec (.ref c') qual) (pZ:JL s.heap oZ q7 vs) (V:dw c as vs) (QP:∀ env∈outer,Bd c env) (X:Ba m as W km)
  (q:∀ (h':Heap) (tk:Nat) (e:Addr),aeH c s W outer h' e->R (.error (.ref e)) {s with heap:=h',toks:=tk}):
  codeAny aO A (.call (.ref f) ⟨[],[]⟩) R s:=by
 refine kla_callFunE (by have:=hA.depth; lia) hf rfl rfl rfl rfl zc ?_;have hbd:bindArgs (kla_fn "<lambda>" qual vN q6 y1 oZ pm (.ref c') AQ) ⟨[],[]⟩=pure []:=rfl;rw [hbd];have bs:lU s.heap mg mb:=b0.keeps hR.old;refine aj (wpAny_newFunctionEnv (by show ∀ x∈y1.names,x.2≠ .cell; decide) (λx hx=>(eX hx)) (λaS xZ WX=>⟨bs.nl.fresh _ WX,kla_codeExpr ?_⟩) rfl);have mA:∀ b o,s.heap.get? b=some o->aS.get? b=some o:=λb o e=>WX.extBut b o (aL (bt e)) (aE _ e);have b1:=bs.keeps mA;obtain ⟨o2,Ym,ep2,wI,hd2, -, -⟩:=id xZ;show wpAny aO _ (eval q6 _) _ _ _;unfold q6;rw [ea];refine aa (BP (s:={s with heap:=aS,toks:=s.toks+0}) b1 ⟨rfl,rfl,rfl⟩ rfl (gM 29 rfl) ∅ ?_);refine eB (Pp:=cT.In) rfl (keeps_K (ko.uy 64 ∅ ∅)) (DT (s:={s with heap:=aS,toks:=s.toks+0}) rfl (pZ.keeps mA) Rn ⟨b1.K,wpAny_call ?_⟩);injection (hR.keeps mA).UR hR.fresh wI with c1 l1 t1 R2;have WS:s.heap.objs.size<aS.objs.size:=bt wI;refine JS (s:={s with heap:=aS,toks:=s.toks+0}) b0 ko hc hk (hA.deeper _).two R2 (dw.mono l1.toji _ _ V) X λc2 hr h' tk ai5 e Y=> ?_;injection Y with F3 t dd l2 R3 hL3 hf3 hk3 kr hen he;injection R3.loc.ns with oL mL tL nL zL;obtain ⟨esL,epL,dL, -, -⟩:=nL;rw [hL3] at tL;have hold:∀ a o,c2.T a=some (.bO,o)->h'.get? a=some o:=λa o q=>kr _ _ (R3.w.hold _ _ _ q);have abQ:∀ env∈outer,Bd c2 env:=λenv hm=>(QP env hm).bO λa o q=>l2.bO _ _ (l1.bO _ _ q);have Xr:(hideAll hr (aS.objs.size::s.heap.objs.size::outer.filterMap (·.frame))).get? e=none:=uD hen;refine wpAny_leaving_firstW (base:=hideAll hr (aS.objs.size::s.heap.objs.size::outer.filterMap (·.frame))) (a0:=.ref t) (Around.frames_deeper (Around.frames_deeper yd)) ⟨by rw [hk3]; decide,⟨_,oL,hf3,hideAll_none _ (.head _),kr _ _ (R3.w.hold _ _ _ tL),λvs q=>(PySem.Data.noConfusion (dL.symm.trans q))⟩,
  by show y1.kind≠_; decide,⟨_,o2,rfl,hideAll_none _ (.tail _ (.head _)),hold _ _ (l2.bO _ _ t1),λvs q=>(PySem.Data.noConfusion (hd2.symm.trans q))⟩,Od hold abQ λL hL=>hideAll_none _ (.tail _ (.tail _ hL))⟩ hf3 he (λb o q=>kr _ _ (of_hideAll _ q)) Xr rfl rfl rfl λqq hL=> ?_
 obtain ⟨g1,⟨-, -,g2⟩,g3,g4⟩:=hL;exact wpAny_leaves_onW (Around.frames_deeper yd) rfl ⟨g1,Xr,g2,g3⟩ λh3 x1 x2=>q h3 tk e ⟨c2,km,hr,.ref t,o2,_,F3,l1.trans l2,l2.bO _ _ t1,R3,X.hW,hL3,WS,x1,(Heap.UpToSlots.of_keeps kr).trans (Heap.UpToSlots.trans g4 x2)⟩
end
def FY:Scope:=ZK [("call",.local),("Misused",.globalImplicit)]
def I9:Arguments:=I8 [arg "call" ⟨425,17,425,21⟩]
def Sg:List Stmt:=[.Try [.Expr (.Call (BO "call" ⟨427,8,427,12⟩) [] [] ⟨427,8,427,14⟩) ⟨427,8,427,14⟩] [.ExceptHandler (some (BO "Misused" ⟨428,11,428,18⟩)) none [.Return (some (.Constant (.bool true) 0 ⟨429,15,429,19⟩)) ⟨429,8,429,19⟩] ⟨428,4,429,19⟩] [] [] ⟨426,4,429,19⟩,
 .Return (some (.Constant (.bool false) 0 ⟨430,11,430,16⟩)) ⟨430,4,430,16⟩]
theorem Xu:(pw.main.body[64]?).bind oQ=some (I9,Sg,FY):= ⋯
theorem Mq(a:Value)(s:Shared)(fd:FuncData)(h:fd.params=I9)(h':fd.defaults=.none):BindsTo s fd ⟨[a],[]⟩ [("call",a)]:=by
 refine BindsTo.of_eq ?_;have e:fd={fd with params:=I9,defaults:=.none}:=by rw [<-h,<-h']
 exact (av (λfd=>bindArgs fd _) e).trans ⋯
section
variable{mg mb:Str->Option Value}
variable(b0:lU eI mg mb)(ko:lT)(hc:fu m (ai m))(hk:lS m (ai m)){f:Addr}{pm AQ:Value}{Ik:Env}(hA:j2 (m+3) A)(yd:A.frames=some [Ik])(Te:Ik.frame=some F.L)(QR:Ik.scope.kind≠ .module)(hR:bQ c F σ s.heap)(hf:s.heap.get? f=some (rR qual oZ pm AQ c'))(zc:s.heap.CodeRec (.ref c') qual)(pZ:JL s.heap oZ q7 vs)(V:dw c as vs)(X:Ba m as σ.W km)
include b0 ko hc hk hA yd Te QR hR hf zc pZ V X
theorem PU {aS:Heap} (e1:env.scope=FY) (e2:env.locals=s.heap.objs.size) (e3:env.frame=some s.heap.objs.size) (e4:env.globals=mainGlobals) (e5:env.builtins=builtinsNs) (ns:aS.Ns s.heap.objs.size (λx=>[((Str.ofString "call"),Value.ref f)].reverse.lookup x)) (mA:∀ b o,s.heap.get? b=some o->aS.get? b=some o)
  (q:∀ c3 h' tk,Le c c3->bQ c3 F σ h'->Q (.ret (.bool true)) {s with heap:=h',toks:=tk}):wpAny aO (A.deeper env) (execs Sg env) Q E {s with heap:=aS,toks:=s.toks+1}:=by
 injection hR.loc.ns with oL mL tL nL zL;obtain ⟨esL,epL,dL, -, -⟩:=nL;have hL0:eI.get? F.L=none:=by
  rcases q:eI.get? F.L with _ | o
  ·rfl
  ·exact nomatch tL.symm.trans (hR.w.base _ _ q)
 have acQ:F.L<s.heap.objs.size:=bt (hR.w.hold _ _ _ tL);have ek:env.scope.kind=.function:=by rw [e1]; rfl
 have kO:env.kindOf=λx=>FY.names.lookup x:=by show(λx=>env.scope.names.lookup x)=_; rw [e1]
 refine ag (id ns) λo1 z1=>ag z1 λes1 z2=>ag z2 λep1 z3=>And.elim (λTb z4=>And.elim (λhd1 z5=>And.elim (λZ Z=> ?_) z5) z4) z3;rw [<-e2] at ns;have Xl:s.heap.objs.size<aS.objs.size:=bt Tb;injection (hR.w.hide.keeps mA).UR hR.w.hide.fresh Tb with c1 l1 t1 R2;have V2:=dw.mono l1.toji _ _ (dw.mono (m5 c).gf _ _ V);have QP:∀ ad0∈ [env,Ik],Bd c1 ad0:=ah.mpr ⟨⟨by rw [ek]; decide,_,o1,e3,t1,(λvs q=>(PySem.Data.noConfusion (hd1.symm.trans q))),hR.w.gy hR.w.fresh⟩,ah.mpr ⟨⟨QR,F.L,oL,Te,l1.bO _ _ (qT tL),(λvs q=>(PySem.Data.noConfusion (dL.symm.trans q))),hL0⟩,λZ h=>(eX h)⟩⟩;unfold Sg;refine fP ?_;rw [arm_exec_Try];refine aa (de (wpAny_tryStmt_except (fP (wpAny_Expr ?_ (by unfold interactive; rw [e1]; rfl) rfl))));rw [ea];refine aa (xB (s:={s with heap:=aS,toks:=s.toks+1}) ek (by rw [kO]; rfl) ns rfl ∅ ?_);refine eB (Pp:=FnAt f) rfl (λh X=>keeps_F h X) (eO ⟨⟨_,_,_,_,mA _ _ hf⟩,wpAny_call ?_⟩);refine Lk (s:={s with heap:=aS,toks:=s.toks+1}) b0 ko hc hk (hA.deeper _).two (Around.frames_deeper yd) R2 (mA _ _ hf) (zc.keeps mA) (pZ.keeps mA) V2 QP X λh' tk e Y=> ?_;injection Y with c2 ES hr x o2 L3 F3 l2 t2 R3 hW hL3 jt JB WQ;subst hL3;have jt:aS.objs.size<F3.L:=jt;have t2:c2.T aS.objs.size=some (.bO,o2):=t2;rw [List.filterMap_cons,e3,List.filterMap_cons,Te,List.filterMap_nil] at JB;have JB:Heap.FlyingW (hideAll hr [F3.L,aS.objs.size,s.heap.objs.size,F.L]) [env,Ik] e (.ref 63) x h':=JB;have l:=l1.trans l2;have ge:∀ b∈ [s.heap.objs.size,aS.objs.size,F3.L],s.heap.objs.size<=b:=ah.mpr ⟨aA _,ah.mpr ⟨bV Xl,ah.mpr ⟨bV (di Xl jt),λZ h=>(eX h)⟩⟩⟩;have hid:∀ b o,b ∉ [s.heap.objs.size,aS.objs.size,F3.L] ->b≠F.L->hr.get? b=some o->(hideAll hr [F3.L,aS.objs.size,s.heap.objs.size,F.L]).get? b=some o:=λb o h1 h2 e=>hideAll_get _ e λhm=>by
  simp only [aH,List.not_mem_nil,or_false] at hm h1;rcases hm with h | h | h | h
  ·exact h1 (.inr (.inr h))
  ·exact h1 (.inr (.inl h))
  ·exact h1 (.inl h)
  ·exact h2 h
 refine wpAny_looks_onW (Around.frames_deeper yd) e3 JB λh4 x4 u4=>wpAny_landsW x4 λh5 x5 u5=> ?_;have b5:lU h5 mg mb:=b0.keeps λa o e=>x5.1 _ _ (hid a o (λhm=>nn ((hR.w.gy (hR.w.oD (ge a hm))).symm.trans e)) (λy=>nn (hL0.symm.trans (y▸e))) (R3.old a o e));refine ag x5.there λob z1=>And.elim (λJy acJ=> ?_) z1;refine wpAny_handleBy_cons (codeAny_handlers_test (BP (s:={s with heap:=h5,toks:=tk}) b5 ⟨ek,e4,e5⟩ (by rw [kO]; rfl) (gM 67 rfl) ∅ ?_)) (λq=>PySem.Value.noConfusion q);refine wpAny_excMatches_sub_self (Ms b5.O b5.K) Jy acJ (by decide+kernel) (codeAny_handlers_suite ?_);refine lands_againW (s:={s with heap:=h5,toks:=tk}) x5 λh6 x6 u6=>fP (wpAny_Return_some (wpAny_Constant_bool ?_));have Rb:bQ (c.back c2) F {σ with W:=ES.W} hr:=hR.back l R3.w;rw [hW] at Rb;have ow:og (c.back c2) (c.back c2) [s.heap.objs.size,aS.objs.size,F3.L]:=og.self (λb hb=>hR.w.gy (hR.w.oD (ge b hb))) λb hb t o e=>(wq e).casesOn (λe1 Z=>nn ((hR.w.oD (ge b hb)).symm.trans e1)) λe1 ht=>by
  rcases aH.mp hb with rfl | hb
  ·exact av Prod.fst (ae (e1.symm.trans (l2.bO _ _ t1)))
  ·rcases aH.mp hb with rfl | hb
   ·exact av Prod.fst (ae (e1.symm.trans t2))
   ·obtain rfl:=ay.mp hb;injection R3.loc.ns with o3 m3 t3 _ _;cases t3.symm.trans e1;exact (Bool.noConfusion ht)
 have hLn:F.L ∉ [s.heap.objs.size,aS.objs.size,F3.L]:=λhm=>absurd (ge _ hm) (Nat.not_le.mpr acQ);refine ag (Rb.re2 (h':=h6) b0.h3 ow hLn (λb q h1 h2 e=>x6.1 _ _ (hid b q h1 h2 e)) λq e d=>(WQ.trans (u4.trans (u5.trans u6))) _ q e d) λc3 z1=>And.elim (λlv z2=>And.elim (λvl z3=>And.elim (λkp R4=> ?_) z3) z2) z1;have lb:=lG l;refine q c3 h6 tk ⟨⟨lb.toji.trans lv,λa o e=> ?_⟩,vl.trans lb.vals⟩ R4;have ha:a<s.heap.objs.size:=bt (hR.w.hold _ _ _ e);exact (kp a (λhm=>absurd (ge a hm) (Nat.not_le.mpr ha)) λy=>by subst y; exact nomatch tL.symm.trans e).trans (lb.bO a o e)
theorem zM(q:∀ c3 h' tk,Le c c3->bQ c3 F σ h'->R (.ok (.ret (.bool true))) {s with heap:=h',toks:=tk}):codeAny aO A (.call (.ref 528) ⟨[.ref f],[]⟩) R s:=
 Oq (a:=528) (binds:=[("call",.ref f)]) (b0.keeps hR.old) (az (aB _ (10*(m+3)+5)) (Nat.lt_of_add_lt_add_right (n:=5) hA.depth)) (Ih (ob1 b0.O (a:=528) (st:=pw.main.body[64]?) (List.mem_append_right _ (.tail _ (.head _)))) Xu) ⋯ (Mq _ s) rfl (λx hx=>by obtain rfl:=ay.mp hx; rfl) ∅
  λaS env e1 e2 e3 e4 e5 ns mA=>PU b0 ko hc hk hA yd Te QR hR hf zc pZ V X e1 e2 e3 e4 e5 ns mA q
end
def zU:Pos:=⟨457,29,457,93⟩
def RG:Expr:=.Call (BO "_law_refused" ⟨457,16,457,28⟩) [.Lambda vN q6 y1 zU] [] ⟨457,16,457,94⟩
def zF:Scope:=ZK [(".0",.local),("some",.cell),("_law_refused",.globalImplicit),("dnode",.free),("io",.free),("keeper",.free),("rules",.free),("shape",.free),("txg",.free)]
def yZ:List (Nat×Str):=[(14,"dnode"),(15,"io"),(16,"keeper"),(17,"rules"),(18,"shape"),(19,"txg")]
theorem FX:∀ p∈zF.names,p.2=.free->p.1∈yZ.map (·.2):=by decide+kernel
theorem FW:∀ p∈y1.names,p.2=.free->p.1="some" \/p.1∈yZ.map (·.2):=by decide+kernel
theorem FP:∀ p∈yZ,(p.2,NameKind.free)∈zF.names/\(p.2,NameKind.free)∈y1.names/\(p.2==("some" :Str))=false:=by decide+kernel
structure fY(F:iR)(mg mb:Str->Option Value):Prop where
 b0:lU eI mg mb
 ko:lT
 ek:cM F
 cmp:F.k.cmp=false
 fr:F.env.frame=some F.L
 code:F.env.code=.ref 532
 cd:CodeHd eI 532 530
 bm:eI.BuiltinsAt mg 530
 VV:eI.get? 530=none
 vn:∀ p∈yZ,F.k.vn[p.1]? =some (p.2,true)
def nt(F:iR)(C X:Addr):Env:=compEnvC zF (("some",X)::i9 F.env zF.names []) C F.env
inductive iW(c:bc)(qual:Str):Prop
 | no (t:c.T 530=some (.bO,tabObj #[]))
 | one (c':Addr) (oc:Obj) (vs:Array Value) (tk:Tok) (t:c.T 530=some (.bO,tabObj #[rawInt zU.line,rawInt zU.col,.ref c'])) (t':c.T c'=some (.bO,oc)) (d:oc.data=.fields vs) (g:vs[1]? =some (.str qual tk))
theorem iW.up{c':bc}{q:Str}(l:∀ a o,c.T a=some (.bO,o)->(∀ vs tk,o.data=.fields vs->a=530\/vs[1]? =some (.str q tk)->c'.T a=some (.bO,o))):iW c q->iW c' q
 | .no t=>.no (l _ _ t _ 0 rfl (.inl rfl))
 | .one a oc vs tk t t' d g=>.one a oc vs tk (l _ _ t _ 0 rfl (.inl rfl)) (l _ _ t' vs tk d (.inr g)) d g
theorem iW.bO{c':bc}{q:Str}(l:∀ a o,c.T a=some (.bO,o)->c'.T a=some (.bO,o))(x:iW c q):iW c' q:=x.up λa o e Z Z Z Z=>l a o e
theorem iW.at{q:Str}:iW c q->∃ ps,c.T 530=some (.bO,tabObj ps)
 | .no t=>⟨_,t⟩
 | .one _ _ _ _ t _ _ _=>⟨_,t⟩
section
variable{mg mb:Str->Option Value}{C X:Addr}
theorem fY.YB(L:fY F mg mb)(hx:x∈yZ.map (·.2)):(F.env.cells.lookup x).isSome=true:=by obtain ⟨p,hp,rfl⟩:=ba.mp hx;rw [(L.ek.cell p.1 p.2 (L.vn p hp) (.inl L.cmp)).2]; rfl
theorem fY.Qy(L:fY F mg mb):closureFor zF F.env=pure (i9 F.env zF.names []):=kj λp hp hf=>L.YB (FX p hp hf)
theorem fY.clL(L:fY F mg mb)(hp:p∈yZ):(nt F C X).cells.lookup p.2=some (F.cl p.1):=by obtain ⟨m1,m2,hb⟩:=FP p hp;show List.lookup p.2 (("some",X)::i9 F.env zF.names [])=_;rw [List.lookup_cons,hb];exact m9 (L.ek.cell p.1 p.2 (L.vn p hp) (.inl L.cmp)).2 m1
theorem fY.kinds(L:fY F mg mb):closureFor y1 (nt F C X)=pure (i9 (nt F C X) y1.names []):=kj λp hp hf=>by
 rcases FW p hp hf with e | e
 ·rw [e]; rfl
 ·obtain ⟨q,hq,e⟩:=ba.mp e;rw [<-e,L.clL hq]; rfl
inductive Zy(c:bc)(h:Heap)(cs:List (Str×Addr))(x:Str)(V:V):Prop
 | mk (a:Addr) (v:Value) (k:cs.lookup x=some a) (e:h.IsCell a (some v)) (r:VR c V v)
theorem fY.YA(L:fY F mg mb)(S:∀ p∈yZ,σ.loc[p.1]? =some (~~~(xs p.1)))(R:bQ c F σ h)(hp:p∈yZ):Zy c h (i9 (nt F C X) y1.names []) p.2 (xs p.1):=by injection R.loc.cells p.1 p.2 (L.vn p hp)with o ov t d z;injection R.loc.vals p.1 _ (S p hp)with v hv lr;exact ⟨F.cl p.1,v,m9 (L.clL hp) (FP p hp).2.1,⟨o,R.w.hold _ _ _ t,by rw [d,z v hv]⟩,lr⟩
def I7(xs:Nat->V)(D:V):List V:=[xs 15,xs 18,xs 14,D,xs 17,xs 19,xs 16]
theorem fY.closed(L:fY F mg mb)(S:∀ p∈yZ,σ.loc[p.1]? =some (~~~(xs p.1))){D:V}(R:bQ c F σ h)(hX:h.IsCell X (some vD))(VD:VR c D vD):
  ∃ vs,JL h (i9 (nt F C X) y1.names []) q7 vs/\dw c (I7 xs D) vs:=by
 have g:∀ (i:Nat) {p:Nat×Str},yZ[i]? =some p->Zy c h (i9 (nt F C X) y1.names []) p.2 (xs p.1):=λi {p} e=>L.YA S R (cH e);injection g 0 rfl with a4 v4 k4 e4 r4;injection g 1 rfl with a5 v5 k5 e5 r5;injection g 2 rfl with a6 v6 k6 e6 r6;injection g 3 rfl with a7 v7 k7 e7 r7;injection g 4 rfl with a8 v8 k8 e8 r8;injection g 5 rfl with a9 v9 k9 e9 r9;exact ⟨_,.cons _ _ _ _ _ k5 e5 (.cons _ _ _ _ _ k8 e8 (.cons _ _ _ _ _ k4 e4 (.cons _ _ _ _ X (m9 (by rfl) (by decide+kernel)) hX (.cons _ _ _ _ _ k7 e7 (.cons _ _ _ _ _ k9 e9 (.cons _ _ _ _ _ k6 e6 .nil)))))),⟨_,_,r5,_,_,r8,_,_,r4,_,_,VD,_,_,r7,_,_,r9,_,_,r6,rfl⟩⟩
theorem fY.YK(L:fY F mg mb)(hk:∀ a o,eI.get? a=some o->h.get? a=some o):h.BuiltinsAt mg 530:=
 let⟨bm,o,a1,a2,a3,a4,a5,r⟩:=L.bm; ⟨bm,o,a1,a2,a3,a4,hk _ _ a5,r⟩
structure LwT(c c':bc):Prop where
 l:ji c c'
 bO:∀ a o,a≠530->c.T a=some (.bO,o)->c'.T a=some (.bO,o)
theorem L6 (L:fY F mg mb) (hc:fu m (ai m)) (hk:lS m (ai m)) {D:V} {oX:Obj} {Q:Value->Shared->Prop}
  (hA:j2 (m+3) A) (yd:A.frames=some [F.env]) (R:bQ c F σ s.heap) (S:∀ p∈yZ,σ.loc[p.1]? =some (~~~(xs p.1))) (tX:c.T X=some (.bO,oX)) (dX:oX.data=.cell (some vD)) (nX:X≠530) (VD:VR c D vD) (T:iW c (F.env.qual++"<lambda>")) (Y:Ba m (I7 xs D) σ.W km)
  (q:∀ c3 h' tk,LwT c c3->bQ c3 F σ h'->iW c3 (F.env.qual++"<lambda>")->Q (.bool true) {s with heap:=h',toks:=tk}):
  wpAny aO A (eval RG (nt F C X)) Q E s:=by
 have hkE:F.env.scope.kind≠ .module:=by rw [L.ek.kind]; decide
 have cont:∀ (c1:bc) (H:Heap) (tk:Nat) (f:Addr) (pm AQ:Value) (c':Addr),LwT c c1->bQ c1 F σ H->iW c1 (F.env.qual++"<lambda>")->
   H.get? f=some (rR (F.env.qual++"<lambda>") (i9 (nt F C X) y1.names []) pm AQ c')->H.CodeRec (.ref c') (F.env.qual++"<lambda>")->wpAny aO A (call (.ref 528) [.ref f]) Q E {s with heap:=H,toks:=tk}:=by
  intro c1 H tk f pm AQ c' l1 R1 T1 hf zc;obtain ⟨vs,pZ,V⟩:=L.closed (C:=C) S R1 ⟨oX,R1.w.hold _ _ _ (l1.bO _ _ nX tX),dX⟩ (VR.mono l1.l _ _ VD);exact wpAny_call (zM (s:={s with heap:=H,toks:=tk}) L.b0 L.ko hc hk hA yd L.fr hkE R1 hf zc pZ V Y λc3 h' lX le R3=>q c3 h' lX ⟨l1.l.trans le.toji,λa o ha e=>le.bO _ _ (l1.bO a o ha e)⟩ R3 (T1.bO le.bO))
 have b1:=R.baseOf L.b0;unfold RG;rw [ea];refine aa (BP b1 ⟨rfl,L.ek.glob,L.ek.R8⟩ (kx (sc:=zF) (q:=.globalImplicit) (by decide+kernel) (qN rfl)) (gM 68 rfl) ∅ ?_);refine eB (Pp:=cT.In) rfl (keeps_K (Ll b1.O)) ?_;refine wpAny_items_cons (kla_eval rfl ?_) rfl;have CH:=L.cd.keeps R.old;induction id T with
 | no t5=>have hP:=R.w.hold _ _ _ t5;refine kla_makeFunction (mg:=mg) L.kinds L.ek.glob b1.G L.code CH hP trivial rfl ∅ (L.YK R.old) λc' AQ h' tk hx QY jt acE Z0=> ?_;obtain ⟨c2,oc,vs,t,e2,hoc,hd,hv⟩:=acE;cases e2;have gx:c'≠530:=dM (ax (bt hP) QY);injection R.setB (h':=h') L.b0.h3 t5 L.VV (λb q hb e=>hx b q hb e) Z0 with c1 l1 k1 v1 t1 R1;injection R1.aem ((k1 _ gx).trans (R.w.oD QY)) hoc with c2 l2 k2 v2 t2 R2;have R3:=R2.push (rR (F.env.qual++"<lambda>") (i9 (nt F C X) y1.names []) ((mg "__name__").getD .none) AQ c');refine eO ⟨(R3.baseOf L.b0).K,?_⟩;exact cont c2 _ tk h'.objs.size _ AQ c' ⟨l1.trans l2,λa o ha e=>(k2 a λy=>nn ((R.w.oD QY).symm.trans (y▸e))).trans ((k1 a ha).trans e)⟩ R3 (.one c' oc vs t ((k2 _ gx.symm).trans (by simpa using t1)) t2 hd hv) (aR _ rfl) ⟨c',oc,vs,t,rfl,R3.w.hold _ _ _ t2,hd,hv⟩
 | one c' oc vs t t5 tc dc gc=>have hP:=R.w.hold _ _ _ t5;refine kla_makeFunctionHit (mg:=mg) (cv:=.ref c') L.kinds L.ek.glob b1.G L.code CH hP (by simp [TriplesOk,rawInt]) (by simp [codeAmong,rawInt]) (L.YK R.old) λAQ h' tk HP za=> ?_;have R1:=(R.keeps HP).push (rR (F.env.qual++"<lambda>") (i9 (nt F C X) y1.names []) ((mg "__name__").getD .none) AQ c');refine eO ⟨(R1.baseOf L.b0).K,?_⟩;exact cont c _ tk h'.objs.size _ AQ c' ⟨ji.refl c,λa o Z e=>e⟩ R1 T (aR _ rfl) ⟨c',oc,vs,t,rfl,R1.w.hold _ _ _ tc,dc,gc⟩
end
def Lf:Expr:=.ListComp RG [⟨BO "some" ⟨457,99,457,103⟩,BO "odd" ⟨457,107,457,110⟩,[],0⟩] zF ⟨457,15,457,111⟩
structure Y8(I D C X:Addr):Prop where
 h5:530<I
 ID:I<D
 DC:D<C
 CX:C<X
 bI:eI.get? I=none
 bX:eI.get? X=none
inductive Zi(c:bc)(I l:Addr)(i:Nat)(Pb:List Value):Prop
 | mk (o:Obj) (n:Nat) (t:c.T I=some (.bO,o)) (k:o.cls=.type "list_iterator") (d:o.data=.fields #[.ref l,.int i 0]) (tl:c.T l=some (.gN,dQ Pb n))
inductive aeV(c:bc)(X:Addr):Prop
 | mk (o:Obj) (ov:Option Value) (t:c.T X=some (.bO,o)) (d:o.data=.cell ov)
inductive NsB(c:bc)(C:Addr):Prop
 | mk (o:Obj) (mm:Str->Option Value) (t:c.T C=some (.bO,o)) (n:Ss o mm)
structure OE(c:bc)(D C:Addr)(n:Nat)(q:Str):Prop where
 ac:jw c D (List.replicate n (.bool true))
 ns:NsB c C
 tab:iW c q
section
variable{mg mb:Str->Option Value}{c':bc}{h':Heap}{C X I D l:Addr}{q:Str}
theorem u0(V:dw c ds (vs.drop i)):(∃ d ds' v,ds=d::ds'/\vs.toArray[i]? =some v/\VR c d v/\dw c ds' (vs.drop (i+1)))\/(ds=[]/\vs.toArray[i]? =none):=by
 rw [cq];induction ds using lh with
 | nil=>exact .inr ⟨rfl,ij (Nat.le_of_sub_eq_zero (by rw [<-List.length_drop,show vs.drop i=[] from V]; rfl))⟩
 | cons d ds=>have hl:=aY V;rw [List.length_drop,bZ] at hl;have jt:i<vs.length:=Nat.lt_of_sub_pos (hl▸cN _);rw [List.drop_eq_getElem_cons jt] at V;obtain ⟨v,t,a,b⟩:=V;exact .inl ⟨d,ds,_,rfl,aP jt,a,b⟩
theorem Am(R:bQ c F σ h)(t:c.T I=some (.bO,o))(k:o.cls=.type "list_iterator")(d:o.data=.fields #[.ref l,.int i 0]):h.IsListIter I l i:=⟨o,R.w.hold _ _ _ t,k,d⟩
theorem OE.but(lv:ji c c'){Z:Addr}(hZ:∀ vs tk o,c.T Z=some (.bO,o)->o.data=.fields vs->vs[1]? ≠some (.str q tk))(nD:D≠Z)(nC:C≠Z)(n5:(530:Addr)≠Z)(l:∀ a o,a≠Z->c.T a=some (.bO,o)->c'.T a=some (.bO,o))(w:OE c D C n q):OE c' D C n q:=
 ⟨w.ac.casesOn λws k t S b=>⟨ws,k,l _ _ nD t,dw.mono lv _ _ S,b⟩,w.ns.casesOn λo mm t x=>⟨o,mm,l _ _ nC t,x⟩,w.tab.up λa o e vs tk d z=>l a o (λy=>by subst y; exact z.elim (λy=>n5 y.symm) λz=>hZ vs tk o e d z) e⟩
theorem K6(L:fY F mg mb)(hc:fu m (ai m))(hk:lS m (ai m))(hA:j2 (m+3) A)(yd:A.frames=some [F.env])(ap:Y8 I D C X){Pb:List Value}(S:∀ p∈yZ,σ.loc[p.1]? =some (~~~(xs p.1))){RR:Result->Shared->Prop}{N:Nat}(hN:N<=1000):
  ∀ {i:Nat} {c:bc} {s:Shared},i+ds.length=N->dw c ds (Pb.drop i)->(∀ d∈ds,∃ km,Ba m (I7 xs d) σ.W km)->bQ c F σ s.heap->Zi c I l i Pb->aeV c X->OE c D C i (F.env.qual++"<lambda>")->
   (∀ (c':bc) (h':Heap) (tk:Nat),ji c c'->bQ c' F σ h'->OE c' D C N (F.env.qual++"<lambda>")->RR (.ok .next) {s with heap:=h',toks:=tk})->
   codeAny aO A (.compLoop Lf 0 (.ref I) (.ref D) (nt F C X)) RR s:=by
 have nID:=aL ap.ID;have lIC:=di ap.ID ap.DC;have nIC:=aL lIC;have nIX:=aL (di lIC ap.CX);have nI5:=aL ap.h5;have nDX:=aL (di ap.DC ap.CX);have nCX:=aL ap.CX;have l5D:=di ap.h5 ap.ID;have nD5:=aL l5D;have nDC:=aL ap.DC;have nC5:=aL (di l5D ap.DC);have nX5:=aL (di (di l5D ap.DC) ap.CX);induction ds with
 | nil=>intro i c s hi V hD R P PX W q;refine codeAny_of_tree ?_;show wpAny _ A ((compTurn Lf 0 (.ref I) (.ref D) (nt F C X)).onRaise (λx=>do noteFrame x (nt F C X); theTreesLotGoes x)) _ _ _;refine wpAny_noted ?_;unfold Lf;rw [Fo];refine aa (de (aa ?_));injection P with oI n tI cI dI tl;have hx:Pb.toArray[i]? =none:=(u0 V).elim (λ⟨_,_,_,y,_⟩=>(zNc y)) λy=>y.2;refine wpAny_pyNext_list_end hA.handled (Am R tI cI dI) (dJ R tl) hx λh' ZY=>aj ?_;have ow:og c c [I]:=.self (ah.mpr ⟨ap.bI,λZ h=>(eX h)⟩) (ah.mpr ⟨λu q e=>av Prod.fst (ae (e.symm.trans tI)),λZ h=>(eX h)⟩);have R':=R.re (h':=h') ow (K8 L.b0.h3 R ow) λb q hb e=>ZY b q (λy=>hb (y▸aq)) e;obtain rfl:i=N:=hi;exact q _ h' s.toks (ow.ch (h:=h')).gf R' (W.but (ow.ch (h:=h')).gf (Z:=I) (λvs tk o e d=>by cases tI.symm.trans e; cases dI.symm.trans d; exact λy=>nomatch y) nID.symm nIC.symm nI5 λa o ha e=>(bc.kX λm=>ha (ay.mp m)).trans e)
 | cons d ds ih=>
  intro i c s hi V hD R P PX W q;refine ag (hD d (aq ..)) λkm Y=> ?_;refine codeAny_of_tree ?_;show wpAny _ A ((compTurn Lf 0 (.ref I) (.ref D) (nt F C X)).onRaise (λx=>do noteFrame x (nt F C X); theTreesLotGoes x)) _ _ _;refine wpAny_noted ?_;unfold Lf;rw [Fo];refine aa (de (aa ?_));injection P with oI n tI cI dI tl;rcases u0 V with⟨d',ds',vD,e,hx,VD,Vr⟩ | ⟨e,_⟩
  ·cases e;refine wpAny_pyNext_list_item (Am R tI cI dI) (dJ R tl) hx λh1 Xp hs1=>aa (letGo_listiter Xp (aa ?_));refine ag Xp λoI1 z1=>And.elim (λe1 z2=>And.elim (λcI1 dI1=> ?_) z2) z1;injection R.setB (h':=h1) L.b0.h3 tI ap.bI (λb q hb e=>(hs1.2 b hb).trans e) e1 with c1 l1 k1 v1 t1 R1;injection PX with oX ov tX dX;have tX1:=(k1 X nIX.symm).trans tX;refine wpAny_assign_Name (wpAny_storeName_cell (env:=nt F C X) (by show zF.kind=_; rfl) (kx (sc:=zF) (q:=.cell) (by decide+kernel) (qN rfl)) rfl ⟨oX,R1.w.hold _ _ _ tX1,dX⟩ λh2 hc2 WY=> ?_);refine ag hc2 λoX2 z1=>And.elim (λe2 dX2=> ?_) z1;injection R1.setB (h':=h2) L.b0.h3 tX1 ap.bX (λb q hb e=>(WY.2 b hb).trans e) e2 with c2 l2 k2 v2 t2 R2;have W1:OE c1 D C i (F.env.qual++"<lambda>"):=W.but l1 (Z:=I) (λvs tk o e d=>by cases tI.symm.trans e; cases dI.symm.trans d; exact λy=>nomatch y) nID.symm nIC.symm nI5 λa o ha e=>(k1 a ha).trans e;have W2:OE c2 D C i (F.env.qual++"<lambda>"):=W1.but l2 (Z:=X) (λvs tk o e d=>by cases tX1.symm.trans e; exact (PySem.Data.noConfusion (dX.symm.trans d))) nDX nCX nX5 λa o ha e=>(k2 a ha).trans e;have lv2:=l1.trans l2;refine aa (aj ?_);simp only [if_true];refine aa (aa (L6 (s:={s with heap:=h2}) L hc hk hA yd R2 S t2 dX2 nX5.symm (VR.mono lv2 _ _ VD) W2.tab Y λc3 h3 UQ lt R3 T3=> ?_));injection W2.ac with wsD nD tD SD bD;have ac3:jw c3 D (List.replicate i (.bool true)):=⟨wsD,nD,lt.bO _ _ nD5.symm tD,dw.mono lt.l _ _ SD,bD⟩
   refine aa (CU (s:={s with heap:=h3,toks:=UQ}) R3 ac3 (by rw [fM]; lia) (v:=.bool true) rfl λc4 h4 l4 R4 ac4=> ?_);have lvA:=lv2.trans (lt.l.trans l4.gf);have bA:∀ a o,a≠D->a≠530->c2.T a=some (.bO,o)->c4.T a=some (.bO,o):=λa o h1 h2 e=>l4.bO _ _ h1 (lt.bO _ _ h2 e);refine aj (aj ⟨rfl,?_⟩);refine ih (i:=i+1) (c:=c4) (s:={s with heap:=h4,toks:=UQ}) (by rw [bZ] at hi; lia) (dw.mono lvA _ _ Vr) (λd hd=>hD d (aw _ hd)) R4 ⟨oI1,n,bA _ _ nID nI5.symm ((k2 I nIX).trans t1),cI1,dI1,lvA.gN _ _ tl⟩ ⟨oX2,_,bA _ _ nDX.symm nX5.symm t2,dX2⟩ ?_ λc' h' tk lz=>q c' h' tk (lvA.trans lz);have aeo:=ac3;refine ⟨by rw [List.replicate_succ']; exact ac4,W2.ns.casesOn λo mm t x=>⟨o,mm,bA _ _ nDC.symm nC5.symm t,x⟩,T3.up λa o e vs tk d z=>l4.bO _ _ (λy=> ?_) e⟩;subst y;rcases z with z | z
   ·exact nD5 z.symm
   ·injection aeo with ws3 n3 tD3 _ _;cases tD3.symm.trans e;exact (PySem.Data.noConfusion d)
  ·exact (ZA e)
end
theorem j2.one{r:Nat}(h:j2 (r+1) A):iZ r A:=⟨by have:=h.depth; lia,by have:=h.units; lia,h.handled⟩
theorem IH {E0:Env} {cl:List (Str×Addr)} {Q:Env->Shared->Prop}
  (h:Q {scope:=zF,locals:=s.heap.objs.size,globals:=E0.globals,cells:=("some",s.heap.objs.size+1)::cl,qual:=E0.qual,func:=none,code:=E0.code,frame:=E0.frame,builtins:=E0.builtins}
   {s with heap:=(s.heap.push {cls:=.type "dict",data:=.dict #[]}).push {cls:=.type "cell",data:=.cell none}}):
  wpAny M A (newFunctionEnv zF E0.globals cl [] E0.qual none .none (some E0)) Q E s:=by
 unfold newFunctionEnv zF;refine aa (wpAny_alloc ?_);show wpAny M A (alloc {cls:=.type "cell",data:=.cell none}>>=_) _ _ _;refine aa (wpAny_alloc ?_);rw [Heap.size_push];exact aj h
section
variable{mg mb:Str->Option Value}
theorem bQ.wx(R:bQ c F σ h)(o:Obj)(hf:o.isFreed=false):Grw c F σ (h.push o) h.objs.size o:=⟨_,(R.gw .bO o).toji,λb q=>bY _ _ _ q,rfl,aF ..,R.alloc .bO o hf⟩
theorem IG (L:fY F mg mb) (hr:F.r=m) (hc:fu m (ai m)) (hk:lS m (ai m)) (hA:j2 (m+3) A) (yd:A.frames=some [F.env]) {Q:Value->Shared->Prop}
  (hvo:rf F.k "odd" =some 13) (hg:DS σ 13=some (.lst odd,σ')) (hN:odd.length<=1000) (S:∀ p∈yZ,σ'.loc[p.1]? =some (~~~(xs p.1))) (R:bQ c F σ s.heap) (T:iW c (F.env.qual++"<lambda>")) (hD:∀ d∈odd,∃ km,Ba m (I7 xs d) σ'.W km)
  (q:∀ c' h' tk D,ji c c'->bQ c' F σ' h'->iW c' (F.env.qual++"<lambda>")->VR c' (.lst (List.replicate odd.length (.bool true))) (.ref D)->Q (.ref D) {s with heap:=h',toks:=tk}):
  wpAny aO A (eval Lf F.env) Q E s:=by
 unfold Lf;rw [eval_ListComp];show wpAny _ _ (comprehension _ zF F.env _ (newList []) false (eval (BO "odd" ⟨457,107,457,110⟩) F.env) none) _ _ _;refine wpAny_comprehension_free rfl (λZ=>rfl) L.Qy rfl ∅ ?_;refine SE.var L.ek hvo ∅ hg A c s _ _ (hr▸hA.one.mono (aB m 2)) R λc1 h1 J5 v l1 R1 V1=> ?_;have V1:wB c1 .gN dQ odd.length (dw c1 odd) v:=V1;injection V1 with l Pb nl tl Vl _;have T1:=T.bO l1.bO;refine wpAny_pyIter_list (s:={s with heap:=h1,toks:=J5}) (dJ R1 tl) ?_;refine cX (IH ?_);have HV:530<h1.objs.size:=T1.at.elim λps t=>bt (R1.w.hold _ _ _ t);injection R1.wx ({cls:=.type "list_iterator",data:=.fields #[.ref l,.int 0 0]}:Obj) rfl with c2 l2 k2 v2 t2 R2;have z2:(h1.push ({cls:=.type "list_iterator",data:=.fields #[.ref l,.int 0 0]}:Obj)).objs.size=h1.objs.size+1:=Heap.size_push ..;have n2:=R1.w.gy R1.w.fresh;generalize h1.push ({cls:=.type "list_iterator",data:=.fields #[.ref l,.int 0 0]}:Obj)=H2 at R2 z2 ⊢;injection R2.wx (dQ [] 0) rfl with c3 l3 k3 v3 t3 R3;have z3:(H2.push (dQ [] 0)).objs.size=H2.objs.size+1:=Heap.size_push ..;have n3:=R2.w.gy R2.w.fresh;generalize H2.push (dQ [] 0)=H3 at R3 z3 ⊢;injection R3.wx ({cls:=.type "dict",data:=.dict #[]}:Obj) rfl with c4 l4 k4 v4 t4 R4;have z4:(H3.push ({cls:=.type "dict",data:=.dict #[]}:Obj)).objs.size=H3.objs.size+1:=Heap.size_push ..;have n4:=R3.w.gy R3.w.fresh;generalize H3.push ({cls:=.type "dict",data:=.dict #[]}:Obj)=H4 at R4 z4 ⊢;injection R4.wx ({cls:=.type "cell",data:=.cell none}:Obj) rfl with c5 l5 k5 v5 t5 R5;have n5:=R4.w.gy R4.w.fresh;generalize H4.push ({cls:=.type "cell",data:=.cell none}:Obj)=H5 at R5 ⊢;rw [z4] at t5 n5;have lID:h1.objs.size<H2.objs.size:=by lia
 have lDC:H2.objs.size<H3.objs.size:=by lia
 have ap:Y8 h1.objs.size H2.objs.size H3.objs.size (H3.objs.size+1):=⟨HV,lID,lDC,Nat.lt_succ_self _,n2,n5⟩
 have Qo:ji c1 c5:=l2.trans (l3.trans (l4.trans l5));have kk:∀ a,a<h1.objs.size->c5.T a=c1.T a:=λa ha=>((k5 a (aL (by lia))).trans (k4 a (aL (by lia)))).trans ((k3 a (aL (by lia))).trans (k2 a (aL (by lia))));have T5:iW c5 (F.env.qual++"<lambda>"):=T1.bO λa o e=>(kk a (bt (R1.w.hold _ _ _ e))).trans e;have W5:OE c5 H2.objs.size H3.objs.size 0 (F.env.qual++"<lambda>"):=⟨⟨[],0,(k5 _ (aL (by lia))).trans ((k4 _ (aL (by lia))).trans t3),rfl,n3⟩,⟨_,_,(k5 _ (aL (by lia))).trans t4,⟨#[],0,rfl,(λZ h=>by simp at h),λZ=>rfl⟩⟩,T5⟩
 have I5:Zi c5 h1.objs.size l 0 Pb:=⟨_,nl,(k5 _ (aL (by lia))).trans ((k4 _ (aL (by lia))).trans ((k3 _ (aL (by lia))).trans t2)),rfl,rfl,Qo.gN _ _ tl⟩
 have loop:=K6 L hc hk hA yd ap S (RR:=compPost aO A E none Q (.ref H2.objs.size) H3.objs.size) hN (s:={s with heap:=H5,toks:=J5}) (bF _) (by rw [List.drop_zero]; exact dw.mono Qo _ _ Vl) hD R5 I5 ⟨_,_,t5,rfl⟩ W5 ?_
 ·exact codeAny_compStart_list loop (wpAny_pyIter_listiter (s:={s with heap:=H5,toks:=J5}) (I5.casesOn λo n t k d Z=>Am R5 t k d) loop)
 ·intro c' h' tk lz R' W;injection W.ns with oC mC tC nC;refine ⟨mC,nC.ns (R'.w.hold _ _ _ tC),λqq hs=> ?_⟩;obtain ⟨es,ep,dC, -, -⟩:=nC;refine ag L.b0.h3 λq3 e3=> ?_;have ow:og c' c' [H3.objs.size]:=.self (ah.mpr ⟨n4,λZ h=>(eX h)⟩) (ah.mpr ⟨λu q e=>av Prod.fst (ae (e.symm.trans tC)),λZ h=>(eX h)⟩);have R6:=R'.re (h':=qq) ow (K8 L.b0.h3 R' ow) λb q hb e=>(hs.2 b (λy=>hb (y▸aq))).trans e;have lv6:=(ow.ch (h:=qq)).gf;have b6:∀ a,a≠H3.objs.size->(c'.re [H3.objs.size] qq).T a=c'.T a:=λa ha=>bc.kX λm=>ha (ay.mp m);generalize c'.re [H3.objs.size] qq=c6 at R6 lv6 b6;have T6:iW c6 (F.env.qual++"<lambda>"):=W.tab.up λa o e vs tk d z=>(b6 a λy=>by
   subst y;rcases z with z | z
   ·exact absurd z (dM (by lia))
   ·cases tC.symm.trans e; exact (PySem.Data.noConfusion (dC.symm.trans d))).trans e
  injection W.ac with wsD nD tD SD bD;have tD6:=(b6 _ (aL lDC)).trans tD;injection R6.H9 ⟨wsD,nD,tD6,dw.mono lv6 _ _ SD,bD⟩ (by rw [fM]; lia) (a:=3) ∅ (λy=>nn (n3.symm.trans (y▸e3))) (R6.w.base 3 q3 e3)with c7 x7 e7 v7 R7 V7;exact q c7 qq tk _ (l1.toji.trans (Qo.trans (lz.trans (lv6.trans x7.gf)))) R7 (T6.up λa o e vs tk d z=>(e7 a λy=>by
   subst y;rcases z with z | z
   ·exact absurd z (dM (by lia))
   ·cases tD6.symm.trans e; exact (PySem.Data.noConfusion d)).trans e) V7
theorem Gm (L:fY F mg mb) (hr:F.r=m) (hc:fu m (ai m)) (hk:lS m (ai m)) (hA:j2 (m+3) A) (yd:A.frames=some [F.env])
  (hvo:rf F.k "odd" =some 13) (hga:fR F.k "all" =true) (hg:DS σ 13=some (.lst odd,σ')) (hN:odd.length<=1000) (hU:jN σ'.W 3 [.lst (List.replicate odd.length (.bool true))]=some (.bool true)) (S:∀ p∈yZ,σ'.loc[p.1]? =some (~~~(xs p.1))) (R:bQ c F σ s.heap) (T:iW c (F.env.qual++"<lambda>"))
  (hD:∀ d∈odd,∃ km,Ba m (I7 xs d) σ'.W km) {pa pb pn pi:Pos} {bs:List Stmt}
  (q:∀ c' h' tk,ji c c'->bQ c' F σ' h'->iW c' (F.env.qual++"<lambda>")->Q .next {s with heap:=h',toks:=tk}):
  wpAny aO A (exec (.If (.UnaryOp .Not (.Call (BO "all" pa) [Lf] [] pb) pn) bs [] pi) F.env) Q E s:=by
 have b:=L.b0;refine wpAny_If (wpAny_isTrue_Not (wpAny_isTrue_value ?_ rfl));rw [ea];refine aa (nE (v:=sQ 3) L.ek R hga ∅ b.G b.B ⟨mg_none_of b.K b.G (VI b.O (gM 3 rfl)),(b.hb _ ∅).trans (by decide+kernel)⟩ ?_);refine eB (Pp:=λZ=>True) rfl (λh Z=>gm rfl h) ?_;refine wpAny_items_cons (IG L hr hc hk hA yd hvo hg hN S R T hD λc1 h1 J5 D l1 R1 T1 V1=> ?_) rfl;refine eO ⟨trivial,?_⟩;refine uY (s:={s with heap:=h1,toks:=J5}) (hr▸hA.one.mono (aB m 2)) R1 (kb:=3) ∅ ∅ hU ⟨_,_,V1,rfl⟩ λc2 h2 Pn a l2 R2 V2=> ?_;obtain rfl:a=.bool true:=V2;refine cA ?_;show wpAny _ _ (execs [] F.env) _ _ _;exact wpAny_execs_nil (q c2 h2 Pn (l1.trans l2.toji) R2 (T1.bO l2.bO))
end
def st9:Stmt:=.If (.UnaryOp .Not (.Call (BO "all" ⟨457,11,457,14⟩) [Lf] [] ⟨457,11,457,112⟩) ⟨457,7,457,112⟩) [.Return (some (.Constant (.bool false) 0 ⟨458,15,458,20⟩)) ⟨458,8,458,20⟩] [] ⟨457,4,458,20⟩
theorem Yt:(hO 76).drop 9=st9::(hO 76).drop 10:= ⋯
theorem RQ:(hO 76).drop 10=((hO 76).drop 10).take 3:= ⋯
theorem VH:rf (nr 76) "odd" =some 13:= ⋯
theorem YS:fR (nr 76) "all" =true:= ⋯
def xsL(q tx:Int)(i:Nat):V:=([.glob 4,.glob 1,.glob 5,dD,iq q,.int tx][i-14]?).getD .none
section
variable{mg mb:Str->Option Value}
theorem U6{cf:CF}{p:Out×St}(h:lZ cf k i n σ=some p)(e:F.k=nr k):yo cf F.k 12 (((hO k).drop i).take n) σ=some p:=by rw [e]; exact h
theorem FT (hr:F.r=m) (ek:cM F) (ko:lT) (hc:fu m (ai m)) (hk:lS m (ai m)) (N1:F.k=nr k) (h:lZ (ai m) k i n σ=some (.ez,σ')) (hA:iZ F.r A) (hR:bQ c F σ s.heap)
  (q:∀ c' h' tk,Lw c c'->bQ c' F σ' h'->wpAny aO A (execs ((hO k).drop (i+n)) F.env) Q E {s with heap:=h',toks:=tk}):wpAny aO A (execs ((hO k).drop i) F.env) Q E s:=by
 rw [<-List.take_append_drop n ((hO k).drop i),List.drop_drop];exact (oU hr ek ko hc hk (U6 h N1)).app hA hR q
theorem Lj (L:fY F mg mb) (hr:F.r=14) (N1:F.k=nr 76) (hc:fu 14 (ai 14)) (hk:lS 14 (ai 14)) (hA:j2 17 A) (yd:A.frames=some [F.env]) (l:List Int)
  (R:bQ c F ⟨lI (.lst (l.map V.int)),[],[]⟩ s.heap) (T:iW c (F.env.qual++"<lambda>"))
  (q:∀ c' σ' h' tk ps,ji c c'->bQ c' F σ' h'->h'.get? 530=some (tabObj ps)->Q (.ret (.bool true)) {s with heap:=h',toks:=tk}):wpAny aO A (execs (hO 76) F.env) Q E s:=by
 have LB:iZ F.r A:=hr▸hA.one.mono (aB 14 2);injection ach 0 l with q' tx n x5 x6 x7 x8 x9 iT iS σ0 km kept W e0 e6 e7 e10 e64;refine FT (i:=0) hr L.ek L.ko hc hk N1 e0 LB R λc1 h1 J5 l1 R1=> ?_;refine FT (s:={s with heap:=h1,toks:=J5}) hr L.ek L.ko hc hk N1 e6 LB R1 λc2 h2 Pn l2 R2=> ?_;refine FT (s:={s with heap:=h2,toks:=Pn}) hr L.ek L.ko hc hk N1 e7 LB R2 λc3 h3 UQ l3 R3=> ?_;have T3:=T.bO ((l1.trans l2).trans l3).bO;rw [show 7+2=9 from rfl,Yt];unfold st9;have S:∀ iQ:Option LV,∀ p∈yZ,(ll (.lst ((l.take 63).map V.int)) q' tx x5 x6 x7 x8 x9 iT iS (~~~kept) iQ)[p.1]? =some (~~~(xsL q' tx p.1)):=λiQ=>ah.mpr ⟨rfl,ah.mpr ⟨rfl,ah.mpr ⟨rfl,ah.mpr ⟨rfl,ah.mpr ⟨rfl,ah.mpr ⟨rfl,λZ h=>(eX h)⟩⟩⟩⟩⟩⟩;refine fP (Gm (s:={s with heap:=h3,toks:=UQ}) (xs:=xsL q' tx) (odd:=GQ) (σ':=⟨ll (.lst ((l.take 63).map V.int)) q' tx x5 x6 x7 x8 x9 iT iS (~~~kept) (~~~(.lst GQ)),[],W⟩) L hr hc hk hA yd (N1▸VH) (N1▸YS) rfl ∅ rfl (S _) R3 T3 ?_ λc4 h4 tk4 l4 R4 T4=> ?_)
 ·intro d hd;obtain ⟨D,hD,rfl⟩:∃ D∈VG,d=.df D:=by
   rcases aH.mp hd with rfl | hd
   ·exact ⟨_,.head _,rfl⟩
   ·rcases aH.mp hd with rfl | hd
    ·exact ⟨_,.tail _ (.head _),rfl⟩
    ·obtain rfl:=ay.mp hd; exact ⟨_,.tail _ (.tail _ (.head _)),rfl⟩
  exact ⟨_,(e64 D hD).1,(e64 D hD).2,rfl,rfl⟩
 ·obtain ⟨σ',e10⟩:=e10 (~~~(.lst GQ));show wpAny _ _ (execs ((hO 76).drop 10) F.env) _ _ _;rw [RQ];refine oU hr L.ek L.ko hc hk (U6 e10 N1) A c4 {s with heap:=h4,toks:=tk4} _ _ LB R4 λc5 h5 tk5 fl l5 R5 F5=> ?_;have F5:Sr c5 (.bool true) fl:=F5;injection F5 with v V5;obtain rfl:v=.bool true:=V5;obtain ⟨ps,t5⟩:=(T4.bO l5.bO).at;exact q c5 σ' h5 tk5 ps (((l1.trans l2).trans l3).toji.trans (l4.trans l5.toji)) R5 (R5.w.hold _ _ _ t5)
end
theorem acs:(fn 76).isSome=true:= ⋯
theorem adz:((nW 76).bind oQ).elim false (λh=>gdS h.2.2)=true:= ⋯
theorem abc:∀ p∈yZ,(nr 76).vn[p.1]? =some (p.2,true):=by decide+kernel
theorem UM:((nr 76).vn.take 1).map (·.1)=[("script" :Str)]:= ⋯
theorem NL:(nr 76).vn.length=20:= ⋯
theorem xT{l:List Int}(h:IntsAre vs l):dw c (l.map V.int) vs:=by
 induction h with
 | nil=>rfl
 | cons n t r ih=>exact ⟨_,_,⟨t⟩,ih⟩
section
variable{g:Heap}{w8:Addr}{ol:Obj}
theorem N2{b:Addr}(e:g.get? b=some o)(hb:b≠w8):(hideAll g [w8]).get? b=some o:=hideAll_get _ e λm=>hb (ay.mp m)
theorem ns1(el:g.get? w8=some ol)(dl:∀ es ep,ol.data≠ .dict es ep){m:Str->Option Value}(n:g.Ns a m):(hideAll g [w8]).Ns a m:=by obtain ⟨o,es,ep,e,d,r⟩:=n;exact ⟨o,es,ep,N2 e (λy=>by subst y; obtain rfl:=ae (el.symm.trans e); exact dl _ _ d),d,r⟩
end
theorem Hd{t:String}(h:t≠"list"):(dQ vs n).cls≠ .type t:=λq=>h (Value.type.inj q).symm
theorem TZ:Je xn:=λar b sc g aS L mg mb w8 w7 l name a s Q E hfn H hs q=>by
 have eh:eI=hideAll g [w8]:=H.eh;have el:=H.el;have Qf:∀ es ep,(dQ w7 0).data≠ .dict es ep:=λes ep e=>(PySem.Data.noConfusion e)
 have ne8:∀ {b:Addr} {o:Obj},g.get? b=some o->o.cls≠ .type "list" ->b≠w8:=λe hc y=>by subst y; obtain rfl:=ae (el.symm.trans e); exact hc rfl
 have h0g:∀ {b:Addr} {o:Obj},g.get? b=some o->b≠w8->eI.get? b=some o:=λe hb=>eh▸N2 e hb;have b0:lU eI mg mb:=⟨H.ob,λb o e=>h0g (H.ie b o e) λy=>by
   subst y;obtain rfl:=ae (el.symm.trans (H.ie _ o e));exact absurd (show false=true from aK.mp H.all _ (mem_of_lookupK e)) ∅,by
   obtain ⟨mc,n,z⟩:=H.nl;exact ⟨mc,eh▸ns1 el Qf n,z⟩,eh▸ns1 el Qf H.G,eh▸ns1 el Qf H.B,H.hb⟩
 obtain ⟨ko,hc,hk⟩:=tow H.ob b0.K b0.nl b0.G b0.B b0.hb 14;rcases hf:fn 76 with _ | f
 ·have:=acs; rw [hf] at this; exact (Bool.noConfusion this)
 have hbk:hO 76=f.body:=by unfold hO; rw [hf]; rfl
 have Q2:nr 76=f.k:=by unfold nr; rw [hf]; rfl
 injection Yc hf with ar' b' sc' d' acW JC e';subst e';cases hfn.symm.trans acW;have hbk:hO 76=b:=hbk;have Q2:nr 76=j4 sc true:=Q2;have g76:=adz;rw [hfn] at g76;have g76:gdS sc=true:=g76;obtain ⟨g1,n1⟩:=aW g76;obtain ⟨g1,n2⟩:=aW g1;obtain ⟨n4,n3⟩:=aW g1;have tn:=G1 n1;have hkd:=vO n4;have n50:eI.get? 530=none:=eh▸uD H.n5;have n58:(530:Addr)≠w8:=λy=>nn (H.n5.symm.trans (y▸el));have n80:eI.get? w8=none:=eh▸hideAll_none _ (ay.mpr rfl);have hL:=H.hL;have gl:∀ {b:Addr} {o:Obj},g.get? b=some o->(qc aS L).get? b=some o:=λe=>(kK (hL▸bt e)).trans (H.F.keep _ _ e);obtain ⟨c0,t8,t5,tb,R0⟩:∃ c0:bc,c0.T w8=some (.gN,dQ w7 0)/\c0.T 530=some (.bO,tabObj #[])/\(∀ b o,eI.get? b=some o->c0.T b=some (.bO,o))/\dp c0 [] (qc aS L):=by
  have tb:∀ b o,eI.get? b=some o->((bc.put (.put ⟨λb=>(eI.get? b).map λo=>(.bO,o),0,λZ=>0,λZ=>0,λZ=>none⟩ 530 .bO (tabObj #[])) w8 .gN (dQ w7 0)).T b)=some (.bO,o):=λb o e=>
   (bY _ _ _ λy=>nn (n80.symm.trans (y▸e))).trans ((bY _ _ _ λy=>nn (n50.symm.trans (y▸e))).trans (av (Option.map λo=>(gG.bO,o)) e))
  refine ⟨_,aF ..,(bY _ _ _ n58).trans (aF ..),tb,⟨⟨b0.h3.elim λq e=>⟨3,q,∅,tb 3 q e⟩,λt o e hc=> ?_⟩,λb t o e=> ?_,tb,rfl,λn M e=>nn e⟩⟩
  ·rcases cm e with⟨_,_,rfl⟩ | ⟨_,e⟩
   ·exact absurd hc (Hd ∅)
   ·rcases cm e with⟨_,rfl,_⟩ | ⟨_,e⟩
    ·rfl
    ·obtain ⟨o',_,e⟩:=bN.mp e;cases e; rfl
  ·rcases cm e with⟨rfl,_,rfl⟩ | ⟨_,e⟩
   ·exact gl el
   ·rcases cm e with⟨rfl,_,rfl⟩ | ⟨_,e⟩
    ·exact (kK H.l5).trans H.e5
    ·obtain ⟨o',e1,e⟩:=bN.mp e;cases e;exact gl (of_hideAll _ (eh▸e1))
 have za:L=(qc aS L).objs.size:=by obtain ⟨oL,es,ep,eL, -⟩:=H.F.ns;show L=(aS.objs.extract 0 L).size;rw [Array.size_extract,Nat.sub_zero,Nat.min_eq_left (bV (bt eL))]
 have keep:∀ b o,(qc aS L).get? b=some o->aS.get? b=some o:=λb o e=>by
  rcases Nat.lt_or_ge b L with hb | hb
  ·exact (kK hb).symm.trans e
  ·exact nn ((qa hb).symm.trans e)
 have pZ:∀ x:Str,sc.names.lookup x=some .cell->((cellsFrom (L+1) sc.names []).lookup x).isSome=true:=λx hx=>cellsFrom_some _ _ _ (.inl hx);have hlw:w7.length=l.length:=(aY (xT (c:=c0) H.hI)).symm.trans (ao ..);induction uL (as:=[.lst (l.map V.int)]) (ws:=[.ref w8]) (sc:=sc) (w:=true) (r:=14) (L:=L) (cells:=cellsFrom (L+1) sc.names []) (binds:=[("script",.ref w8)]) (env:=envOfC name sc L a (.ref 532)) (h':=aS) R0 tn za keep rfl H.F.ns H.C.cell H.C.apart H.C.above pZ
  ⟨_,_,⟨w8,w7,0,t8,xT H.hI,by rw [ao]; exact af H.hlen ∅⟩,rfl⟩ (by rw [<-Q2,NL]; exact cR 1 19) (by rw [<-Q2]; show _=(((nr 76).vn.take 1).map (·.1)).zip _; rw [UM]; rfl)with | mk c1 l1 R1=>
 rw [<-Q2,NL] at R1;have EK:=yq (w:=true) (r:=14) (env:=envOfC name sc L a (.ref 532)) (L:=L) (cells:=cellsFrom (L+1) sc.names []) tn rfl rfl rfl rfl rfl hkd pZ;have LC:fY (Cp sc true (envOfC name sc L a (.ref 532)) L (cellsFrom (L+1) sc.names []) 14) mg mb:={
  b0:=b0
  ko:=ko
  ek:=EK
  cmp:=rfl
  fr:=rfl
  code:=rfl
  cd:=codeHd_of_K b0.K (ae (VJ H.ob (i:=4) rfl))
  bm:=by
   obtain ⟨bm,ob,b1,b2,b3,b4,b5,b6⟩:=H.bmn;refine ⟨bm,ob,b1,b2,λy=> ?_,λy=> ?_,h0g b3 (ne8 b3 (by rw [b4]; exact λq=>absurd (Value.type.inj q) ∅)),b4,b5,b6⟩
   ·obtain ⟨o,es,ep,e,hd, -⟩:=H.G;subst y;obtain rfl:=ae (e.symm.trans b3);exact (PySem.Data.noConfusion (hd.symm.trans b6))
   ·subst y; exact nn (H.n5.symm.trans b3)
  VV:=n50
  vn:=λp hp=>(av (λk:gr=>k.vn[p.1]?) Q2).symm.trans (abc p hp)}
 subst hs;have hA:j2 17 (callerA.deeper (envOfC name sc L a (.ref 532))):=⟨by show 1+claimMargin+1+10*18<recursionLimit+5; decide,by show 4+3+100*18<cLine+50; decide,rfl⟩
 rw [<-hbk];refine Lj LC rfl Q2.symm hc hk hA (Around.frames_deeper rfl) l R1 (.no (l1.bO _ _ t5)) λc' σ' h' tk ps lv R' e'=> ?_;injection R'.loc.ns with oL mL tL nL _;refine q h' tk mL ⟨nL.ns (R'.w.hold _ _ _ tL),λb o e=> ?_,bW hL.symm⟩ ⟨ps,e'⟩;by_cases hb8:b=w8
 ·subst hb8;obtain rfl:=ae (el.symm.trans e);exact R'.w.hold _ _ _ (lv.gN _ _ (l1.gN _ _ t8))
 ·exact R'.old _ _ (h0g e hb8)
theorem want(p:World×Frag×Heap):Je p:=Classical.byContradiction λh=>(Classical.epsilon_spec (p:=λp=>¬ Je p) ⟨p,h⟩:¬ Je xn) TZ
theorem Ew(e:h.objs[a]? =some o):h.get? a=alive o:=by unfold Heap.get?;rw [e];obtain ⟨c,d,x,i⟩:=o;induction x using PySem.Data.casesOn <;> rfl
theorem LN{l:List Obj}{a:Nat}{x:Obj}{ks:List Nat}(m:(a,x)∈Ro n l ks):(∃ i o,a=n+i/\l[i]? =some o/\alive o=some x)/\GO x=true:=by
 induction l generalizing n ks with
 | nil=>exact eX m
 | cons o r ih=>
  have sh:∀ {ks},(a,x)∈Ro (n+1) r ks->(∃ i o',a=n+i/\(o::r)[i]? =some o'/\alive o'=some x)/\GO x=true:=λm=>
   And.elim (λh k=>⟨h.elim λi h=>h.elim λo' h=>⟨i+1,o',h.1.trans (cF n i),h.2⟩,k⟩) (ih m)
  induction ks using lh with
  | nil=>exact eX m
  | cons k ks=>
   have m:(a,x)∈(bif Nat.beq n k then((alive o).bind λo=>iv (GO o) (n,o)).toList++Ro (n+1) r ks else Ro (n+1) r (k::ks)):=m;generalize Nat.beq n k=b at m;induction b using eK with
   | false=>exact sh m
   | true=>
    refine (List.mem_append.mp m).elim (λm=> ?_) sh;injection eY (Option.mem_toList.mp m)with o' ho e;obtain ⟨k,e⟩:GO o'=true/\(n,o')=(a,x):=by
     unfold iv at e;cases q:GO o' with
     | true=>rw [q] at e; exact ⟨rfl,ae e⟩
     | false=>rw [q] at e; exact nn e
    cases e;exact ⟨⟨0,o,rfl,rfl,ho⟩,k⟩
theorem Ct(m:(a,o)∈frK h):h.get? a=some o/\GO o=true:=by refine And.elim (λz k=>⟨z.elim λi z=>z.elim λo' z=> ?_,k⟩) (LN m);obtain ⟨e,e1,e2⟩:=z;rw [bF] at e;subst e;exact (Ew (Array.getElem?_toList.symm.trans e1)).trans e2
def Xo:Hook:=⟨KO×Option Obj,obS,λZ=>(EZ,some (tabObj #[])),λZ h=>∃ K:Frag,K.In h/\K.all (λq=>GO q.2)=true/\BL K=EZ/\h.get? 530=some (tabObj #[]),
 λZ s e=>⟨frK s.heap,λa o q=>(Ct (mem_of_lookupK q)).1,aK.mpr λp hp=>(Ct hp).2,(cu e).1,(cu e).2⟩,λ_ _ _ ⟨K,a,b,c,d⟩ k=>⟨K,λx o e=>k _ _ (a x o e),b,c,k _ _ d⟩⟩
def dL:DefRec:=((defOf qv PySem.Challenge.rw_np0205_01.row.toRowW.name).map (·.1)).getD ⟨"",⟨[],[],none,[],[],none,[]⟩,[],⟨.function,[],false,false,[]⟩,⟨0,0,0,0⟩⟩
theorem h_1:defOf qv PySem.Challenge.rw_np0205_01.row.toRowW.name=some (dL,[]):= ⋯
theorem h_2:PySem.Challenge.rw_np0205_01.row.toRowW.prog.theDef PySem.Challenge.rw_np0205_01.row.toRowW.name=some (dL.params,dL.body,dL.scope):= ⋯
theorem h_3:kwWritten? dL.params.kwonlyargs dL.params.kw_defaults=some []:= ⋯
theorem h_4:(nW 76).bind oQ=some (dL.params,dL.body,dL.scope):= ⋯
theorem Dx(h:K.all (λq=>GO q.2)=true):noTabs K=true:=aK.mpr λp hp=>by
 have q:=aK.mp h p hp;unfold GO at q;generalize p.2.cls=c at q ⊢;generalize p.2.data=d at q ⊢;induction c using PySem.Value.casesOn <;> first | rfl | (induction d using PySem.Data.casesOn <;> first | rfl | exact q)
theorem Ml:WalkO qv Wb (λZ Z=>True) Xo.says PySem.Challenge.rw_np0205_01.row.toRowW dL [] λf vs=>PySem.call f vs:=by
 intro w ag0 cU mg mb G Y fa o pm cd doc dV kV ho hd zc hD hmg hg args vals as acG acS hrd hwl Av;obtain ⟨K,XK,Zg,Jy,HV⟩:=Y;refine Ground.open G ?_;intro T B D TE TW;have hT9:TabsAt [(532,530)] cU.heap:=ah.mpr ⟨⟨codeHd_of_K XK (ae (av (λq:KO=>q.2.2.2.1[4]?) Jy:_=some true)),HV⟩,λZ h=>(eX h)⟩;obtain rfl:cd=.ref 532:=law_code (x:="law") (P:=530) XK T.g (av (λq:KO=>q.2.2.2.2.2.2.2.1) Jy) hmg ho hd;clear hmg G
 wrow_args acG acS hrd hwl Av
 first | refine callC_kw (enter_call ?_) | refine enter_call ?_
 w_top on
 kn_posts
 rename Well _ _ _ _=>wl
 rename IntsAre _ _=>hI
 rename Heap.IsList _ _ _=>il
 rename ¬ _=>hlen
 have he:=Dflts.none hD rfl;subst he;have he:=Dflts.noKw hD;subst he;have TT:=ghost_top hT9 T;refine call_cells (binds:=[("script",.ref _)]) ∅ ho (fd_plain hd) (Top.nolimit T) zc rfl (λx hx=>.inl (by obtain rfl:=ay.mp hx; kernel_rfl)) λaS tk F C=> ?_;refine want (w,K,hideAll (ghostOf cU.heap [(532,530)]) [_]) dL.params dL.body dL.scope (ghostOf cU.heap [(532,530)]) aS cU.heap.objs.size mg mb _ _ _ dL.name fa _ _ _ h_4 ⟨Jy,Zg,ghost_K hT9 XK (Dx Zg),TT.nolimit,TT.g,TT.b,TT.builtins,TT.bmain,hideAll_none _ (ay.mpr rfl),rfl,?el,hI,dZ λq=>hlen (cz.mpr q),(hideAll_size _ _).symm,ghost_fr hT9 F,C,F.keep _ _ HV,bt HV⟩ rfl λh' tk m F' G'=> ?q
 case el=>
  obtain ⟨o,e,hc,n,JC⟩:=ghost_list hT9 il;have e':=of_hideAll _ e;cases wl with
  | list h1 h2=>rw [e'] at h1;cases h1;cases JC;exact e
 case q=>exact ⟨goodW_bool F' hg (λZ=>rfl) (by first | kernel_rfl | with_unfolding_all rfl),G',trivial⟩
theorem LeftO.KS {p q:Program} {loose:List Str} {Xt:Shared->Bool} {Yf:Shared->α} {Ya:World->α} {N Qj:Nat} {ann:Option Value} {tU:Params->Heap} {gs:Array GenState} {RI:Drawn} {Qu:Nat} {Y0:Params->OsState->SharedT} {F:Params->Shared->Bool×_×α}
  (op:∀ w:World,(fencedOpening treeTable p w N).map (λs=>(s.heap,s.gens,s.drawn,s.toks))=some (tU w.params,gs,RI,Qu))
  (abs:∀ P os,(Y0 P os).abs=⟨tU P,gs,RI,Qu,os⟩) (sz:∀ P,((tU P).isNs mainGlobals&&gs.size==0,(tU P).objs.size,(tU P).nsMap mainGlobals "__annotations__")=(true,Qj,ann))
  (hF:∀ P s,F P s=(staticsOk (importedModules p.main.body) (tU P) s.heap&&namesBound p s.heap&&gensDone s&&laidKept (tU P) s.heap,openSeen q loose (importedModules p.main.body) Xt true s,Yf s))
  (run:∀ (w:World) (os:OsState),(XO (stepT (denote treeTable) p w) (stepOk Qj ann) N (Y0 w.params os) (topStub p)).map (λS=>F w.params S.abs)=some (true,openGood q loose,Ya w)):
  LeftO p q loose Xt Yf Ya N:=λw=>by
 obtain ⟨⟨h,g,d,k,os⟩,e,e'⟩:=bN.mp (op w);obtain ⟨rfl,rfl,rfl,rfl⟩:h=tU w.params/\g=gs/\d=RI/\k=Qu:=by simpa using e'
 obtain ⟨S,r,f⟩:=bN.mp (run w os);have r:=t9 r;rw [abs] at r;rw [hF] at f;obtain ⟨f1,f2⟩:=cu f;have z:=cu (sz w.params);have z2:=cu z.2;unfold openEnds;rw [e];show(topFrom treeTable p w N _).map _=_;unfold topFrom;dsimp only;rw [z.1,z2.1,z2.2,r];show((match staticsOk (importedModules p.main.body) (tU w.params) S.abs.heap&&namesBound p S.abs.heap&&gensDone S.abs&&laidKept (tU w.params) S.abs.heap with | true=>some S.abs | false=>none)).map _=_;rw [f1];exact av some f2
theorem bo1:opening pw=plainProg pw.main.scope.names:= ⋯
theorem bo2(s:Shared):fenceModules? pw s=some s:= ⋯
theorem left:LeftO pw qv Wb (λZ=>true) Xo.obs Xo.val 4400:=LeftO.KS (F:=fin) (boot_open bo1 ∅ bo2) MP sz (λZ Z=>rfl) run
theorem okq:(chainsOk qv&&opensWell pw&&(frees PySem.Challenge.rw_np0205_01.row.toRowW&&PySem.Challenge.rw_np0205_01.row.toRowW.within.isEmpty))=true:= ⋯
theorem final:PySem.Challenge.rw_np0205_01.Holds:=by
 refine holds_law abr λs=> ?_;refine holds_open (q:=qv) (loose:=Wb) (d:=dL) (kwd:=[]) (XP:=λZ Z=>True) left Xo.of Xo.keeps (λZ Z=>trivial) (λZ Z Z Z Z=>trivial) h_1 h_2 h_3 (λZ Z=>recFacts_nil rfl) rfl s okq ⟨rfl,rfl,rfl,rfl,rfl,by decide+kernel⟩ ?hw Ml
 w_witness2
end
end Mine
theorem PySem.Challenge.cw_np0205_01_holds : PySem.Challenge.rw_np0205_01.Holds :=
  Mine.final
