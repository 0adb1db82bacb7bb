import PyProof.Rows.All
import OpenK.KLine
import Open.Pieces
import PyProof.Rows.SeqMore
import KE.IntBitsLaws
import PyProof.NoPylong
import PyProof.Rows.RuleB_and
import PyProof.Rows.RuleB_floordiv
import PyProof.Rows.RuleB_rshift
import PyProof.Rows.RuleB_mod
import PyProof.Rows.RuleB_small
import PyProof.Rows.EqDataRows
import PyProof.DictStraight
import PyProof.StrLawsFirst
import PyProof.StrLawsTight
import PyProof.P3In
import PyProof.ListTruth
import PyProof.DictTable
import PyProof.TupleIter
import PyProof.Rows.Own
import PyProof.CallFns
import PyProof.CallStr
import PyProof.Methods
import PyProof.ListCopy
import PyProof.StrOps
import PyProof.FitsInt
import PyProof.Rows.Tup
import PyProof.Rows.TupleOfSeqD
import PyProof.MeetsStr
import PyProof.MeetsStr2
import PyProof.StrBlock
import PyProof.Comp
import PyProof.AutoListH
import PyProof.AutoSeq1
import PyProof.EqAt
import PyProof.FactsAll.list_3
import PyProof.LetGo
import PyProof.ListIndex
import PyProof.ListIndexNeg
import PyProof.StrLawsIdx
import PyProof.DictRoads
import PyProof.MeetsDict
import PyProof.EqKinds
import PyProof.MeetsIn
import PyProof.FactsAll.dict_0
import PyProof.FactsAll.dict_3
import PyProof.SliceMore
import PyProof.SliceStr2
import PyProof.SliceSyntax
import PyProof.Rows.TupMore
import KE.KRevSl
import KE.KItem
import PyProof.Rows.TupAssign
import PyProof.StationsW
import PyProof.RangeFor
import PyProof.WalksMore
import PyProof.StrWalks
import PyProof.CompFree
import PyProof.ExcBaseAll.Exception
import PyProof.ExcClass2
import PyProof.ExcInit
import OpenK.KCls
import PyProof.ExcAttrAll.Exception
import PyProof.RulesAs
import PyProof.Rows.SortWalk
import PyProof.EnumMake
import Lean
import PySem.Challenge.RW_pq1059_01
set_option autoImplicit false
set_option genSizeOf false
set_option genSizeOfSpec false
set_option genInjectivity false
set_option maxRecDepth 100000
set_option Elab.async false
set_option linter.unusedVariables false
set_option tactic.hygienic false
set_option bootstrap.genMatcherCode false
section
namespace Mine
abbrev ax:=@_root_.PySem.wpAny_bind
abbrev aI:=@_root_.Nat.le_of_ble_eq_true
abbrev aM:=@_root_.congrArg
abbrev aT:=@_root_.Prod.mk.inj
abbrev aW:=@_root_.List.map_inj_left
abbrev aY:=@_root_.PySem.wpAny_pure
abbrev ba:=@_root_.Nat.le_trans
abbrev bd:=@_root_.List.length_append
abbrev bf:=@_root_.Nat.succ_pos
abbrev b9:=@_root_.List.forall_mem_cons
abbrev bM:=@_root_.List.append_assoc
abbrev bO:=@_root_.Option.some.inj
abbrev b7:=@_root_.if_neg
abbrev cp:=@_root_.Bool.and_eq_true_iff
abbrev cw:=@_root_.of_decide_eq_true
abbrev cq:=@_root_.if_pos
abbrev cE:=@_root_.List.mem_range
abbrev cD:=@_root_.List.length_map
abbrev cR:=@_root_.Nat.le_refl
abbrev cQ:=@_root_.PySem.wpAny_mono
abbrev cZ:=@_root_.List.mem_map
abbrev cY:=@_root_.List.mem_singleton
abbrev dT:=@_root_.List.append_nil
abbrev dI:=@_root_.Nat.zero_le
abbrev d8:=@_root_.Nat.add_le_add
abbrev ej:=@_root_.List.nodup_cons
abbrev eB:=@_root_.PySem.Heap.get?_push_of_some
abbrev eM:=@_root_.Nat.lt_of_le_of_lt
abbrev e8:=@_root_.List.prefix_refl
abbrev e7:=@_root_.List.size_toArray
abbrev fK:=@_root_.List.not_mem_nil
abbrev fB:=@_root_.PySem.Heap.get?_push_size
abbrev fy:=@_root_.List.mem_cons
abbrev fU:=@_root_.Nat.add_le_add_right
abbrev f7:=@_root_.Nat.add_le_add_left
abbrev f8:=@_root_.PySem.wpAny_field
abbrev gu:=@_root_.Nat.succ_le_succ
abbrev gp:=@_root_.Nat.ble_eq_true_of_le
abbrev gi:=@_root_.Ne.symm
abbrev gL:=@_root_.List.getElem?_eq_some_iff
abbrev gI:=@_root_.List.mem_map_of_mem
abbrev im:=@_root_.List.map_cons
abbrev ie:=@_root_.Nat.not_lt_zero
abbrev ib:=@_root_.Nat.le_add_left
abbrev iD:=@_root_.Nat.le_succ
abbrev iH:=@_root_.List.cons.inj
abbrev iQ:=@_root_.List.map_append
abbrev iS:=@_root_.PySem.wpAny_execs_cons
abbrev jv:=@_root_.List.mem_append
abbrev jn:=@_root_.decide_eq_true
abbrev jA:=@_root_.List.mem_flatMap
abbrev kh:=@_root_.List.mem_append_right
abbrev j3:=@_root_.List.prefix_append
abbrev kj:=@_root_.Nat.eq_of_beq_eq_true
abbrev kJ:=@_root_.Option.eq_none_iff_forall_ne_some
abbrev lB:=@_root_.PySem.wpAny_standAt
abbrev lQ:=@_root_.Nat.add_comm
abbrev mr:=@_root_.Nat.le_add_right
abbrev mv:=@_root_.Nat.add_assoc
abbrev n9:=@_root_.LawfulBEq.eq_of_beq
abbrev oj:=@_root_.PySem.Heap.get?_update_other
abbrev om:=@_root_.Nat.zero_add
abbrev og:=@_root_.PySem.wpAny_holding
abbrev rg:=@_root_.List.lookup_cons
abbrev rt:=@_root_.Nat.lt_of_succ_lt_succ
abbrev ub:=@_root_.Nat.lt_of_lt_of_le
abbrev tq:=@_root_.decide_eq_false
abbrev wu:=@_root_.beq_eq_false_iff_ne
abbrev vr:=@_root_.List.forall_mem_singleton
abbrev wz:=@_root_.List.getElem?_append_right
abbrev wr:=@_root_.Nat.sub_self
abbrev wj:=@_root_.PySem.sizeLine_eq
abbrev vq:=@_root_.PySem.Heap.get?_update_self
abbrev vp:=@_root_.List.getElem?_toArray
abbrev ww:=@_root_.PySem.F.slot_tuple_getitem
abbrev vE:=@_root_.PySem.wpAny_loadPart_at
abbrev yF:=@_root_.List.mem_of_getElem?
abbrev x9:=@_root_.Int.natCast_nonneg
abbrev zp:=@_root_.PySem.wpAny_Call_NameR
abbrev yP:=@_root_.Nat.lt_succ_self
abbrev zn:=@_root_.PySem.wpAny_newObj_type
abbrev yh:=@_root_.PySem.wpAny_execs_nil
abbrev zi:=@_root_.List.reverse_cons
abbrev zA:=@_root_.PySem.wpAny_call
abbrev zh:=@_root_.Nat.lt_of_succ_lt
abbrev AS:=@_root_.List.mem_append_left
abbrev A8:=@_root_.Nat.lt_irrefl
abbrev Ba:=@_root_.List.length_cons
abbrev B8:=@_root_.PySem.wpAny_call_entry
abbrev Cb:=@_root_.PySem.Obj.data_mapFields
abbrev Bj:=@_root_.List.getElem?_eq_none_iff
abbrev BE:=@_root_.PySem.Heap.get?_none_of_le
abbrev Cm:=@_root_.PySem.wpAny_setField_rec
abbrev ES:=@_root_.beq_self_eq_true
abbrev FR:=@_root_.PySem.Heap.lt_size
abbrev Gu:=@_root_.List.length_reverse
abbrev FM:=@_root_.List.getElem?_map
abbrev EK:=@_root_.Nat.succ.inj
abbrev FF:=@_root_.Nat.le_of_eq
abbrev FS:=@_root_.PySem.wpAny_setField
abbrev Aa:=@_root_.PySem.Obj.isFreed_of_fields
abbrev zG:=@_root_.PySem.wpAny_loadPart
abbrev D5:=@_root_.List.mem_flatten
abbrev C0:=@_root_.List.nodup_append
abbrev CI:=@_root_.Option.map_eq_some_iff
abbrev D2:=@_root_.PySem.wpAny_Constant_int
abbrev Ct:=@_root_.Bool.eq_false_iff
abbrev Em:=@_root_.List.all_eq_true
abbrev Di:=@_root_.PySem.wpAny_truthy_bool
abbrev Dd:=@_root_.List.length_drop
abbrev Ef:=@_root_.PySem.wpAny_callSpecial?_slot
abbrev Cs:=@_root_.List.of_mem_zip
abbrev CG:=@_root_.PySem.Calls.callWith_function
abbrev EF:=@_root_.List.contains_cons
abbrev ED:=@_root_.PySem.wpAny_isSubtype_exc
abbrev CJ:=@_root_.Option.bind_eq_some_iff
abbrev CN:=@_root_.PySem.BindsTo.of_defaults
abbrev DG:=@_root_.PySem.F.plainAttrs_str
abbrev EC:=@_root_.Nat.not_lt_of_le
abbrev CD:=@_root_.Nat.mul_le_mul_right
abbrev HG:=@_root_.PySem.wpAny_loadName_local
abbrev HR:=@_root_.Nat.ne_of_beq_eq_false
abbrev H7:=@_root_.PySem.wpAny_Call_method_late
abbrev HN:=@_root_.List.mem_iff_getElem?
abbrev HZ:=@_root_.PySem.wpAny_letTemporaryGo
abbrev Id:=@_root_.List.reverse_reverse
abbrev HE:=@_root_.List.map_fst_zip
abbrev H0:=@_root_.List.any_toArray
abbrev H1:=@_root_.PyProof.Rows.spliced_more
abbrev H6:=@_root_.PySem.F.slot_tuple_iterator_next
abbrev HX:=@_root_.PySem.F.slot_enumerate_next
abbrev HQ:=@_root_.Nat.lt_add_of_pos_right
abbrev H3:=@_root_.List.reverse_append
abbrev HO:=@_root_.Nat.mul_le_mul_left
abbrev HY:=@_root_.Classical.choose_spec
abbrev OW:=@_root_.Classical.byContradiction
abbrev M9:=@_root_.List.getElem?_eq_getElem
abbrev NU:=@_root_.PyProof.Rows.assign_Name
abbrev Nc:=@_root_.Array.getElem?_setIfInBounds_self_of_lt
abbrev OC:=@_root_.List.getD_eq_getElem?_getD
abbrev OH:=@_root_.PySem.plainObj_wpAny_Assign_Attribute
end Mine
end
noncomputable section
namespace Mine
section
noncomputable abbrev T:=List Nat
noncomputable def bU:T->T->Bool
 |[],[]=>true
 |a::s,b::t=>match Nat.beq a b with |true=>bU s t |false=>false
 |_,_=>false
noncomputable def V8:T->T->Bool
 |[],_=>true
 |_::_,[]=>false
 |a::s,b::t=>match Nat.beq a b with |true=>V8 s t |false=>Nat.blt a b
inductive I where
 |none
 |bool (b:Bool)
 |int (i:Int)
 |str (s:T)
 |tup (xs:List I)
 |fn
 |fd (n:Nat)
 |tk (k s:T)
 |dig (ds:List (Nat×Nat))
 |num (ds:List (Nat×Nat))
 |fl (xs:List I)
inductive V where
 |i (x:I)
 |ref (n:Nat)
 |sub (k n:Nat)
 |pr (a:I) (n:Nat)
inductive aF where
 |list (xs:List I)
 |dict (kvs:List (I×I))
 |rd (pre rest:List I) (known:List (I×I)) (fam tab:I)
 |exn (new:Bool) (why:T) (row col:Int)
noncomputable abbrev av:=List (Option V)
noncomputable abbrev ai:=List aF
inductive RE (α:Type) where
 |bad
 |ok (a:α) (σ:ai)
 |exc (why:T) (row col:Int)
inductive Flow where
 |nxt
 |brk
 |ret (v:V)
inductive RS where
 |bad
 |ok (f:Flow) (l:av) (σ:ai)
 |exc (why:T) (row col:Int)
abbrev Ex:=av->ai->RE V
abbrev Tx:=av->ai->RE Bool
abbrev Sx:=av->ai->RS
abbrev Fn:=List V->ai->RE V
noncomputable def RE.bind {α β:Type} (x:RE α) (k:α->ai->RE β):RE β:=match x with
 | .bad=> .bad
 | .ok a σ=>k a σ
 | .exc w r c=> .exc w r c
noncomputable def RE.bindS {α:Type} (x:RE α) (k:α->ai->RS):RS:=match x with
 | .bad=> .bad
 | .ok a σ=>k a σ
 | .exc w r c=> .exc w r c
noncomputable def aJ:Nat:=16777216
noncomputable def LP (f:List I->Bool):I->Bool
 | .none=>true
 | .bool _=>true
 | .int _=>true
 | .str _=>true
 | .tup xs=>f xs
 |_=>false
def bS:Nat->I->Bool
 |0=>LP fun j=>false
 |n+1=>LP fun xs=>xs.all (bS n)
noncomputable def AR (f:I->I->Option Bool):List I->List I->Option Bool
 |[],[]=>some true
 |a::s,b::t=>match f a b with
  |some true=>AR f s t
  |some false=>some false
  |Option.none=>Option.none
 |_,_=>some false
noncomputable def eqBB:Bool->Bool->Bool
 |true,true=>true
 |false,false=>true
 |_,_=>false
noncomputable def kd:I->Option Nat
 | .none=>some 0
 | .int _=>some 1
 | .str _=>some 2
 | .tup _=>some 3
 |_=>none
def Wp (i:Nat) (b:I):Option Bool:=match kd b with
 |some j=>match Nat.beq i j with |true=>none |false=>some false
 |none=>none
def Uo (f:List I->List I->Option Bool) (a b:I):Option Bool:=match a with
 | .bool x=>(match b with | .bool y=>some (eqBB x y) |_=>none)
 | .int x=>(match b with | .int y=>some (decide (x=y)) |b=>Wp 1 b)
 | .str x=>(match b with | .str y=>some (bU x y) |b=>Wp 2 b)
 | .tup x=>(match b with | .tup y=>f x y |b=>Wp 3 b)
 | .none=>(match b with | .none=>some true |b=>Wp 0 b)
 |_=>none
def uS:Nat->I->I->Option Bool
 |0=>Uo fun j j=>none
 |n+1=>Uo (AR (uS n))
def nJ:List I->List I->Bool
 |[],[]=>true
 | .str a::s,.str b::t=>match bU a b with |true=>nJ s t |false=>false
 |_,_=>false
def Om:I->I->Bool
 | .str a,.str b=>bU a b
 | .tup a,.tup b=>nJ a b
 |_,_=>false
def fQ:List (I×I)->I->Option I
 |[],_=>Option.none
 |(k,v)::r,x=>match Om k x with |true=>some v |false=>fQ r x
def iP:List (I×I)->I->I->List (I×I)
 |[],x,y=>[(x,y)]
 |(k,v)::r,x,y=>match Om k x with |true=>(k,y)::r |false=>(k,v)::iP r x y
noncomputable def t (s:String):T:=s.toList.map Char.toNat
noncomputable def u0:T:=[105,112,118,52,95,97,100,100,114]
noncomputable def u1:T:=[98,105,103]
noncomputable def u2:T:=[105,112,52]
noncomputable def u3:T:=[105,110,101,116,95,115,101,114,118,105,99,101]
noncomputable def u4:T:=[110,117,109,98,101,114]
noncomputable def u5:T:=[105,110,101,116,95,112,114,111,116,111]
noncomputable def u6:T:=[105,110,116,101,103,101,114]
noncomputable def u7:T:=[105,112,32,115,97,100,100,114]
noncomputable def u8:T:=[112,97,121,108,111,97,100]
noncomputable def u9:T:=[105,112]
noncomputable def u10:T:=[110,101,116,119,111,114,107]
noncomputable def u11:T:=[116,99,112,32,100,112,111,114,116]
noncomputable def u12:T:=[116,99,112]
noncomputable def u13:T:=[116,114,97,110,115,112,111,114,116]
noncomputable def u14:T:=[49,48,46,48,46,48,46,49]
noncomputable def u15:T:=[49,48,46,48,46,48,46,48,47,56]
noncomputable def u16:T:=[49,57,50,46,49,54,56,46,49,46,49,45,49,57,50,46,49,54,56,46,49,46,53]
noncomputable def Mr:T:=[115,115,104]
noncomputable def u18:T:=[56,48,45,52,52,51]
noncomputable def u19:T:=[48,120,53,48]
noncomputable def u20:T:=[117,100,112]
noncomputable def u21:T:=[109,98,121,116,101,115,47,119,101,101,107]
noncomputable def u22:T:=[49,104]
noncomputable def u23:T:=[48,56]
noncomputable def u24:T:=[115,97,100,100,114]
noncomputable def u25:T:=[49,109,49,115]
def FD:Nat->List (I×I)
 |0=>[(.str u0,.tup [.int 32,.str u1,.str u2,.fd 3]),(.str u3,.tup [.int 16,.str u1,.str u4,.fd 4]),
     (.str u5,.tup [.int 8,.str u1,.str u4,.fd 5]),(.str u6,.tup [.int 0,.str u1,.str u4,.fd 6])]
 |1=>[(.str u7,.tup [.str u8,.str u0,.int 32,.str u1,.tup [.str u9,.str u10,.int 96]]),
     (.str u11,.tup [.str u8,.str u3,.int 16,.str u1,.tup [.str u12,.str u13,.int 16]])]
 |2=>[(.str u0,.tup [.tup [.str u14,.int 167772161,.int 167772161],.tup [.str u15,.int 167772160,.int 184549375],.tup [.str u16,.int 3232235777,.int 3232235781]]),
     (.str u3,.tup [.tup [.str Mr,.int 22,.int 22],.tup [.str u18,.int 80,.int 443],.tup [.str u19,.int 80,.int 80]])]
 |4=>[(.str Mr,.int 22)]
 |5=>[(.str u12,.int 6),(.str u20,.int 17)]
 |_=>[]
noncomputable def aP (σ:ai) (n:Nat):Option aF:=σ[n]?
noncomputable def putAt (σ:ai) (n:Nat) (c:aF):ai:=List.set σ n c
noncomputable def bN (l:av):Nat->Option V:=@List.rec (Option V) (fun j=>Nat->Option V) (fun j=>none) (fun x j ih n=>@Nat.rec (fun j=>Option V) x (fun n j=>ih n) n) l
noncomputable def bK:av->Nat->V->av
 |[],0,v=>[some v]
 |[],n+1,v=>none::bK [] n v
 |_::r,0,v=>some v::r
 |x::r,n+1,v=>x::bK r n v
noncomputable def nF:List I->Option (List T)
 |[]=>some []
 | .str s::r=>match nF r with
  |some ss=>some (s::ss)
  |none=>none
 |_::_=>none
def jI {β:Type} (k:List T->β) (n:β) (xs:List I):β:=match nF xs with |some ss=>k ss |none=>n
section
variable {β:Type} (σ:ai)
noncomputable def gd (b:Bool) {α:Type} (r:RE α):RE α:=match b with |true=>r |false=> .bad
noncomputable def Mh (b:Bool) (r:RS):RS:=match b with |true=>r |false=> .bad
noncomputable def yD (k:I->β) (n:β):V->β | .i x=>k x |_=>n
noncomputable def cG (k:Int->β) (n:β):V->β | .i (.int a)=>k a |_=>n
noncomputable def mX (k:Nat->β) (n:β):V->β | .i (.int (.ofNat a))=>k a |_=>n
noncomputable def cz (k:T->β) (n:β):V->β | .i (.str a)=>k a |_=>n
noncomputable def zP (k:Nat->β) (n:β):V->β | .i (.str [c])=>k c |_=>n
noncomputable def eQ (k:List I->β) (n:β):V->β | .i (.tup a)=>k a |_=>n
noncomputable def C7 (k:Bool->β) (n:β):V->β | .i (.bool a)=>k a |_=>n
noncomputable def Pm (k n:β):Bool->β |true=>k |false=>n
def Fc (k:Nat->β) (n:β):V->β | .i (.fd m)=>Pm (k m) n (Nat.blt m 7) |_=>n
noncomputable def Nt (k:T->T->β) (n:β):V->β | .i (.tk a b)=>k a b |_=>n
noncomputable def onFn (k n:β):V->β | .i .fn=>k |_=>n
noncomputable def N9 (k:List I->β) (n:β):V->β | .i (.fl a)=>k a |_=>n
noncomputable def ph (k:List I->β) (n:β):Option aF->β |some (.list xs)=>k xs |_=>n
noncomputable def U5 (k:List (I×I)->β) (n:β):Option aF->β |some (.dict xs)=>k xs |_=>n
noncomputable def MY (k:List I->List I->List (I×I)->I->I->β) (n:β):Option aF->β |some (.rd a b c d e)=>k a b c d e |_=>n
noncomputable def aac (k:Bool->T->Int->Int->β) (n:β):Option aF->β |some (.exn a b c d)=>k a b c d |_=>n
def cy (k:Nat->List I->β) (n:β):V->β | .ref m=>ph (k m) n (aP σ m) |_=>n
def qU (k:Nat->List (I×I)->β) (n:β):V->β | .ref m=>U5 (k m) n (aP σ m) |_=>n
def vw (k:Nat->List I->List I->List (I×I)->I->I->β) (n:β):V->β | .ref m=>MY (k m) n (aP σ m) |_=>n
def sO (j:Nat) (k:Nat->List I->List I->List (I×I)->I->I->β) (n:β):V->β | .sub i m=>Pm (MY (k m) n (aP σ m)) n (Nat.beq i j) |_=>n
def Wd (k:Nat->Bool->T->Int->Int->β) (n:β):V->β | .ref m=>aac (k m) n (aP σ m) |_=>n
noncomputable def eq3 (p q:Bool) (r:Option Bool):RE Bool:=match p,q,r with |true,true,some r=> .ok r σ |_,_,_=> .bad
noncomputable def chr1 (k:Nat->β) (n:β):T->β |[c]=>k c |_=>n
noncomputable def sS (n:Nat):RE V:= .ok (.i (.int (.ofNat n))) σ
noncomputable def iI (xs:List I):RE V:= .ok (.ref σ.length) (σ++[.list xs])
end
noncomputable def aN (x:I):Ex:=fun j σ=> .ok (.i x) σ
def aa (n:Nat):Ex:=fun l σ=>match bN l n with
 |some v=> .ok v σ
 |none=> .bad
noncomputable def d7:Ex:=fun j j=> .bad
noncomputable def un (f:V->ai->RE V) (a:Ex):Ex:=fun l σ=>(a l σ).bind f
noncomputable def af (f:V->V->ai->RE V) (a b:Ex):Ex:=fun l σ=>(a l σ).bind fun x σ=>(b l σ).bind fun y σ=>f x y σ
noncomputable def dj (c:Tx) (a b:Ex):Ex:=fun l σ=>(c l σ).bind fun b' σ=>match b' with
 |true=>a l σ
 |false=>b l σ
def cS (es:List Ex):av->ai->RE (List V):=@List.rec Ex (fun j=>av->ai->RE (List V)) (fun j σ=> .ok [] σ) (fun a j ih l σ=>(a l σ).bind fun v σ=>(ih l σ).bind fun vs σ=> .ok (v::vs) σ) es
noncomputable def zE:List V->Option (List I)
 |[]=>some []
 | .i x::r=>match zE r with
  |some xs=>some (x::xs)
  |none=>none
 |_::_=>none
def zT {β:Type} (k:List I->β) (n:β) (vs:List V):β:=match zE vs with |some xs=>k xs |none=>n
noncomputable def pr1 (vs:List V) (σ:ai):RE V:=match vs with
 |[.i a,.ref n]=> .ok (.pr a n) σ
 |_=> .bad
def NM (vs:List V) (σ:ai):RE V:=gd (Nat.ble vs.length aJ) (zT (fun xs=> .ok (.i (.tup xs)) σ) (pr1 vs σ) vs)
def Jj (vs:List V) (σ:ai):RE V:=zT (fun xs=>gd (Nat.ble xs.length aJ) (iI σ xs)) .bad vs
def ah (as:List Ex):Ex:=fun l σ=>(cS as l σ).bind NM
def aZ (as:List Ex):Ex:=fun l σ=>(cS as l σ).bind Jj
def rK:List V->List (I×I)->Option (List (I×I))
 |[],d=>some d
 |u::r,d=>cz (fun k=>match r with
  |v::r=>yD (fun x=>rK r (iP d (.str k) x)) none v
  |[]=>none) none u
def Ui (vs:List V) (σ:ai):RE V:=match rK vs [] with
 |some d=>gd (Nat.ble d.length aJ) (.ok (.ref σ.length) (σ++[.dict d]))
 |none=> .bad
def mH (as:List Ex):Ex:=fun l σ=>(cS as l σ).bind Ui
def au (u v:V) (σ:ai):RE V:=
 cG (fun a=>cG (fun b=> .ok (.i (.int (a+b))) σ) .bad v)
 (cz (fun a=>cz (fun b=>gd (Nat.ble (a.length+b.length) aJ) (.ok (.i (.str (a++b))) σ)) .bad v)
 (eQ (fun a=>eQ (fun b=>gd (Nat.ble (a.length+b.length) aJ) (.ok (.i (.tup (a++b))) σ)) .bad v)
 (cy σ (fun j a=>cy σ (fun j b=>gd (Nat.ble (a.length+b.length) aJ) (iI σ (a++b))) .bad v) .bad u) u) u) u
def jl (u v:V) (σ:ai):RE V:=
 cG (fun a=>cG (fun b=> .ok (.i (.int (a+b))) σ) .bad v)
 (cz (fun a=>cz (fun b=>gd (Nat.ble (a.length+b.length) aJ) (.ok (.i (.str (a++b))) σ)) .bad v) .bad u) u
def ii (f:Int->Int->RE V) (u v:V):RE V:=cG (fun a=>cG (f a) .bad v) .bad u
def dQ (u v:V) (σ:ai):RE V:=ii (fun a b=> .ok (.i (.int (a - b))) σ) u v
noncomputable def sw (a:Int):Bool:=Nat.blt a.natAbs (2 ^ 250)
def jx (u v:V) (σ:ai):RE V:=ii (fun a b=>gd (sw a && sw b) (.ok (.i (.int (a*b))) σ)) u v
noncomputable def Cp (b:Int):Bool:=match b with | .ofNat 0=>false |_=>true
def f6 (u v:V) (σ:ai):RE V:=ii (fun a b=>gd (Cp b && sw b) (.ok (.i (.int (a.fdiv b))) σ)) u v
noncomputable def Rj:Int:= .ofNat 1329227995784915872903807060280344576
def ck (u v:V) (σ:ai):RE V:=match u with
 | .i (.num ds)=>cG (fun b=>gd (decide (b=Rj)) (.ok (.i (.dig ds)) σ)) .bad v
 |_=>ii (fun a b=>gd (Cp b) (.ok (.i (.int (a.fmod b))) σ)) u v
def iN (f:Int->Nat->RE V) (u v:V):RE V:=cG (fun a=>mX (fun n=>gd (Nat.blt a.natAbs 65536 && Nat.ble n 256) (f a n)) .bad v) .bad u
def ig (u v:V) (σ:ai):RE V:=iN (fun a n=> .ok (.i (.int (a ^ n))) σ) u v
def Jl (u v:V) (σ:ai):RE V:=iN (fun a n=> .ok (.i (.int (a*2 ^ n))) σ) u v
def TG (u v:V) (σ:ai):RE V:=cG (fun a=>mX (fun n=>gd (Nat.ble n 256) (.ok (.i (.int (a.fdiv (2 ^ n)))) σ)) .bad v) .bad u
def OK (u v:V) (σ:ai):RE V:=mX (fun a=>mX (fun b=> .ok (.i (.int (.ofNat (Nat.land a b)))) σ) .bad v) .bad u
def ey (u:V) (σ:ai):RE V:=cG (fun a=> .ok (.i (.int (-a))) σ) .bad u
noncomputable def place (n:Nat):Int->Option Nat
 | .ofNat k=>match Nat.blt k n with |true=>some k |false=>none
 | .negSucc k=>match Nat.blt k n with |true=>some (n - (k+1)) |false=>none
noncomputable def Ee {α:Type} (xs:List α) (k:Int):Option α:=match k with
 | .ofNat k=>xs[k]?
 | .negSucc k=>match Nat.blt k xs.length with |true=>xs[xs.length - (k+1)]? |false=>none
noncomputable def tL (x:Option I) (σ:ai):RE V:=match x with
 |some x=> .ok (.i x) σ
 |none=> .bad
def ag (u v:V) (σ:ai):RE V:=
 cG (fun k=>eQ (fun xs=>tL (Ee xs k) σ)
  (cz (fun s=>match Ee s k with |some c=> .ok (.i (.str [c])) σ |none=> .bad)
  (Nt (fun a s=>match k with | .ofNat 0=> .ok (.i (.str a)) σ | .ofNat 1=> .ok (.i (.str s)) σ |_=> .bad)
  (cy σ (fun j xs=>tL (Ee xs k) σ)
  (sO σ 1 (fun j pre rest j j j=>tL (Ee (pre.reverse++rest) k) σ) .bad u) u) u) u) u)
 (cz (fun x=>Fc (fun n=>tL (fQ (FD n) (.str x)) σ) (qU σ (fun j d=>tL (fQ d (.str x)) σ) .bad u) u)
 (eQ (fun xs=>jI (fun j=>sO σ 2 (fun j j j kn j j=>tL (fQ kn (.tup xs)) σ) .bad u) .bad xs) .bad v) v) v
noncomputable def U9 (n:Nat):Int->Nat
 | .ofNat k=>Nat.min k n
 | .negSucc k=>n - (k+1)
def cut {α:Type} (xs:List α) (lo hi:Option Int):List α:=
 match lo,hi with
 |none,none=>xs
 |some a,none=>xs.drop (U9 xs.length a)
 |none,some (.ofNat b)=>xs.take b
 |none,some (.negSucc b)=>xs.take (xs.length - (b+1))
 |some a,some b=>(xs.take (U9 xs.length b)).drop (U9 xs.length a)
noncomputable def Jm:V->Option (Option Int)
 | .i .none=>some none
 | .i (.int k)=>some (some k)
 |_=>none
def Nd (o a b:V) (σ:ai):RE V:=match Jm a,Jm b with
 |some lo,some hi=>cz (fun s=> .ok (.i (.str (cut s lo hi))) σ) (eQ (fun xs=> .ok (.i (.tup (cut xs lo hi))) σ)
  (Nt (fun k s=>gd (decide (lo=none/\hi=some 2)) (.ok (.i (.tup [.str k,.str s])) σ))
  (cy σ (fun j xs=>iI σ (cut xs lo hi)) (N9 (fun xs=>iI σ (cut xs lo hi)) .bad o) o) o) o) o
 |_,_=> .bad
def bF (o a b:Ex):Ex:=fun l σ=>(o l σ).bind fun o σ=>(a l σ).bind fun a σ=>(b l σ).bind fun b σ=>Nd o a b σ
def OY (u:V) (σ:ai):RE V:=cy σ (fun j xs=>iI σ xs.reverse) .bad u
def pc (u v:V) (σ:ai):RE V:=eQ (fun xs=>match xs with
 |[a,b,c,d,e,f]=>mX (fun k=>match k with |0=> .ok (.i (.tup [a,c,e])) σ |1=> .ok (.i (.tup [b,d,f])) σ |_=> .bad) .bad v
 |_=> .bad) .bad u
noncomputable def rdV (n:Nat) (pre:List I) (fam tab:I):List V:=[.sub 1 n,.i (.int (.ofNat pre.length)),.sub 0 n,.sub 2 n,.i fam,.i tab]
noncomputable def tgV (f:Nat):Option V:=match Nat.beq f 6 with
 |true=>some (.i (.fd 1))
 |false=>match Nat.beq f 7 with
  |true=>some (.i (.fd 0))
  |false=>none
noncomputable def optV (x:Option V) (σ:ai):RE V:=match x with
 |some v=> .ok v σ
 |none=> .bad
def bp (f:Nat) (u:V) (σ:ai):RE V:=vw σ (fun n pre j j fam tab=>optV (rdV n pre fam tab)[f]? σ) (sO σ 0 (fun j j j j j j=>optV (tgV f) σ) .bad u) u
def bC (u:V) (σ:ai):RE V:=cz (fun s=>sS σ s.length) (eQ (fun xs=>sS σ xs.length) (cy σ (fun j xs=>sS σ xs.length)
 (sO σ 1 (fun j pre rest j j j=>sS σ (pre.length+rest.length)) (N9 (fun xs=>sS σ xs.length) .bad u) u) u) u) u
def Nn (u:V) (σ:ai):RE V:=zP (sS σ) .bad u
noncomputable def digs:Nat->Nat->T->T
 |0,_,acc=>acc
 |f+1,n,acc=>match Nat.blt n 10 with
  |true=>(48+n)::acc
  |false=>digs f (n / 10) ((48+n % 10)::acc)
def cF (n:Nat):T:=digs 200 n []
def AX:Int->T
 | .ofNat n=>cF n
 | .negSucc n=>45::cF (n+1)
def jt (u:V) (σ:ai):RE V:=cG (fun k=>gd (Nat.blt k.natAbs (10 ^ 100)) (.ok (.i (.str (AX k))) σ)) .bad u
def eN (u:V) (σ:ai):RE V:=eQ (fun xs=> .ok (.i (.tup xs)) σ) (cy σ (fun j xs=> .ok (.i (.tup xs)) σ) .bad u) u
def HT (u:V) (σ:ai):RE V:=eQ (iI σ) .bad u
def EO (u:V) (σ:ai):RE V:=cy σ (fun j xs=>gd (Nat.ble xs.length 1) (iI σ xs)) .bad u
noncomputable def oh (c:Nat):T->Nat->Option Nat
 |[],_=>none
 |d::s,n=>match Nat.beq d c with
  |true=>some n
  |false=>oh c s (n+1)
def HK (u v:V) (σ:ai):RE V:=cz (fun s=>zP (fun c=>match oh c s 0 with |some n=>sS σ n |none=> .ok (.i (.int (-1))) σ) .bad v) .bad u
noncomputable def dA (c:Nat):T->T->List T
 |acc,[]=>[acc.reverse]
 |acc,d::s=>match Nat.beq c d with
  |true=>acc.reverse::dA c [] s
  |false=>dA c (d::acc) s
def Ez (u v:V) (σ:ai):RE V:=cz (fun s=>zP (fun c=>gd (Nat.blt s.length aJ) (iI σ ((dA c [] s).map .str))) .bad v) .bad u
noncomputable def bA (p:T):List T->T
 |[]=>[]
 |[a]=>a
 |a::r=>a++(p++bA p r)
def Dw (p:T) (xs:List I) (σ:ai):RE V:=jI (fun ss=>gd (Nat.ble ((bA p ss).length+p.length) aJ) (.ok (.i (.str (bA p ss))) σ)) .bad xs
def eV (u v:V) (σ:ai):RE V:=cz (fun p=>eQ (fun xs=>Dw p xs σ) (cy σ (fun j xs=>Dw p xs σ) .bad v) v) .bad u
noncomputable def Oa (c:Nat):Nat:=match Nat.ble 65 c,Nat.ble c 90 with
 |true,true=>c+32
 |_,_=>c
def Ir (u:V) (σ:ai):RE V:=zP (fun c=>gd (Nat.blt c 128) (.ok (.i (.str [Oa c])) σ)) .bad u
def CZ (s:T):Option T:=match bU s [100,114,111,112,32],bU s [103,111,116,111,32,99,50] with
 |true,_=>some [100,114,111,112]
 |_,true=>some s
 |_,_=>none
def IK (u:V) (σ:ai):RE V:=cz (fun s=>match CZ s with |some z=> .ok (.i (.str z)) σ |none=> .bad) .bad u
def aO (u v:V) (σ:ai):RE V:=cy σ (fun n xs=>yD (fun x=>gd (Nat.blt xs.length aJ) (.ok (.i .none) (putAt σ n (.list (xs++[x]))))) .bad v) .bad u
def fm (u v:V) (σ:ai):RE V:=cy σ (fun n xs=>cy σ (fun m ys=>gd (!Nat.beq m n && Nat.blt (xs.length+ys.length) aJ) (.ok (.i .none) (putAt σ n (.list (xs++ys))))) .bad v) .bad u
def FY (s:T):List T->Nat->Option Nat
 |[],_=>none
 |a::r,n=>match bU a s with |true=>some n |false=>FY s r (n+1)
def JL (u v:V) (σ:ai):RE V:=cy σ (fun j xs=>cz (fun s=>jI (fun ss=>match FY s ss 0 with |some k=>sS σ k |none=> .bad) .bad xs) .bad v) .bad u
def Jh (d:V) (D:List (I×I)) (s:T) (σ:ai):RE V:=match fQ D (.str s) with
 |some v=> .ok (.i v) σ
 |none=> .ok d σ
def T7 (o k d:V) (σ:ai):RE V:=cz (fun s=>Fc (fun n=>Jh d (FD n) s σ) (qU σ (fun j D=>Jh d D s σ) .bad o) o) .bad k
noncomputable def dK (v:V) (_:ai):Bool:=cz (fun j=>true) false v
def a6 (v:V) (σ:ai):Bool:=cy σ (fun j j=>true) false v
def TF (v:V) (σ:ai):Bool:=Fc (fun j=>true) (qU σ (fun j j=>true) false v) v
def bm (p:V->ai->Bool) (f:V->V->ai->RE V) (a b:Ex):Ex:=fun l σ=>(a l σ).bind fun x σ=>gd (p x σ) ((b l σ).bind fun y σ=>f x y σ)
def UL (o k:Ex):Ex:=fun l σ=>(o l σ).bind fun o σ=>gd (TF o σ) ((k l σ).bind fun k σ=>T7 o k (.i .none) σ)
def jm (o k d:Ex):Ex:=fun l σ=>(o l σ).bind fun o σ=>gd (TF o σ) ((k l σ).bind fun k σ=>(d l σ).bind fun d σ=>T7 o k d σ)
def MB (u v:V) (σ:ai):RE Bool:=
 yD (fun a=>yD (fun b=>eq3 σ (bS 12 a) (bS 12 b) (uS 12 a b))
  (eQ (fun a=>cy σ (fun j b=>gd (a.all (bS 12) && b.all (bS 12)) (.ok false σ)) .bad v) .bad u) v)
 (cy σ (fun j a=>cy σ (fun j b=>eq3 σ (a.all (bS 12)) (b.all (bS 12)) (AR (uS 12) a b))
  (eQ (fun b=>gd (a.all (bS 12) && b.all (bS 12)) (.ok false σ)) .bad v) v) .bad u) u
def az (u v:V) (σ:ai):RE Bool:=cz (fun a=>cz (fun b=> .ok (bU a b) σ) (MB u v σ) v) (cG (fun a=>cG (fun b=> .ok (decide (a=b)) σ) (MB u v σ) v) (MB u v σ) u) u
def mw (c:Nat) (s:T):Bool:=match oh c s 0 with
 |some _=>true
 |none=>false
def yw (d:List (I×I)) (k:I):Bool:=match fQ d k with
 |some _=>true
 |none=>false
def inR (s:T) (xs:List I) (σ:ai):RE Bool:=jI (fun ss=> .ok (ss.any fun a=>bU a s) σ) .bad xs
def cJ (a b:V) (σ:ai):RE Bool:=
 cz (fun s=>cz (fun u=>chr1 (fun c=> .ok (mw c u) σ) .bad s) (eQ (fun xs=>inR s xs σ) (Fc (fun n=> .ok (yw (FD n) (.str s)) σ)
  (cy σ (fun j xs=>inR s xs σ) (qU σ (fun j d=> .ok (yw d (.str s)) σ) .bad b) b) b) b) b)
 (eQ (fun xs=>jI (fun j=>sO σ 2 (fun j j j kn j j=> .ok (yw kn (.tup xs)) σ) .bad b) .bad xs) .bad a) a
noncomputable def notB (x:RE Bool):RE Bool:=x.bind fun r σ=> .ok (match r with |true=>false |false=>true) σ
def cM (a b:V) (σ:ai):RE Bool:=notB (az a b σ)
def gn (a b:V) (σ:ai):RE Bool:=notB (cJ a b σ)
noncomputable def Ae:V->ai->RE Bool
 | .i .none,σ=> .ok true σ
 | .i (.dig _),_=> .bad
 |_,σ=> .ok false σ
def MC (u v:V) (σ:ai):RE Bool:=cG (fun a=>cG (fun b=> .ok (decide (a<=b)) σ) .bad v) (cz (fun a=>cz (fun b=> .ok (V8 a b) σ) .bad v) .bad u) u
def VZ (f:Int->Int->Bool) (u v:V) (σ:ai):RE Bool:=cG (fun a=>cG (fun b=> .ok (f a b) σ) .bad v) .bad u
def fz (u v:V) (σ:ai):RE Bool:=VZ (fun a b=>decide (a< b)) u v σ
def gA (u v:V) (σ:ai):RE Bool:=VZ (fun a b=>decide (b< a)) u v σ
def MQ (u v:V) (σ:ai):RE Bool:=VZ (fun a b=>decide (b<=a)) u v σ
def RJ (u:V) (σ:ai):RE Bool:=C7 (fun b=> .ok b σ) (cy σ (fun j xs=> .ok (match xs with |[]=>false |_=>true) σ) .bad u) u
noncomputable def aj (f:V->V->ai->RE Bool) (a b:Ex):Tx:=fun l σ=>(a l σ).bind fun x σ=>(b l σ).bind fun y σ=>f x y σ
noncomputable def RZ (f g:V->V->ai->RE Bool) (a b c:Ex):Tx:=fun l σ=>(a l σ).bind fun x σ=>(b l σ).bind fun y σ=>(f x y σ).bind fun r σ=>match r with
 |true=>(c l σ).bind fun z σ=>g y z σ
 |false=> .ok false σ
def isNone (a:Ex):Tx:=fun l σ=>(a l σ).bind Ae
def bP (a:Tx):Tx:=fun l σ=>notB (a l σ)
def a7 (a:Ex):Tx:=fun l σ=>(a l σ).bind RJ
def EY (a:Ex):Tx:=fun l σ=>(a l σ).bind fun v σ=>C7 (fun b=> .ok b σ) .bad v
noncomputable def badT:Tx:=fun j j=> .bad
noncomputable def bv:List Tx->Tx
 |[]=>fun j σ=> .ok true σ
 |a::r=>fun l σ=>(a l σ).bind fun b σ=>match b with
  |true=>bv r l σ
  |false=> .ok false σ
noncomputable def f5:List Tx->Tx
 |[]=>fun j σ=> .ok false σ
 |a::r=>fun l σ=>(a l σ).bind fun b σ=>match b with
  |true=> .ok true σ
  |false=>f5 r l σ
noncomputable def gE (a:Tx):Ex:=fun l σ=>(a l σ).bind fun b σ=> .ok (.i (.bool b)) σ
noncomputable def Fa (acc:List Nat) (n:Nat):List Nat:=match acc.any (Nat.beq n) with
 |true=>acc
 |false=>acc++[n]
noncomputable def V.refn:V->Option Nat
 | .i _=>none
 | .ref n=>some n
 | .sub _ n=>some n
 | .pr _ n=>some n
def bz (vs:List V) (acc:List Nat):List Nat:=(vs.filterMap V.refn).foldl Fa acc
noncomputable def eP:List Nat->Nat->Nat
 |[],_=>0
 |a::r,n=>match Nat.beq a n with |true=>0 |false=>eP r n+1
noncomputable def gH (f:Nat->Nat):V->V
 | .i x=> .i x
 | .ref n=> .ref (f n)
 | .sub k n=> .sub k (f n)
 | .pr a n=> .pr a (f n)
def b6 (σ:ai):List Nat->Option ai
 |[]=>some []
 |n::r=>match aP σ n,b6 σ r with
  |some c,some cs=>some (c::cs)
  |_,_=>none
def cT:ai->List Nat->ai->ai
 |σ,n::r,c::cs=>cT (putAt σ n c) r cs
 |σ,_,_=>σ
def sj (σ:ai) (rs:List Nat) (cs:ai) (n:Nat) (k:Nat->V):RE V:=match rs[n]? with
 |some m=> .ok (k m) (cT σ rs cs)
 |none=>match aP cs n with
  |some c=> .ok (k σ.length) (cT σ rs cs++[c])
  |none=> .bad
def Ii (σ:ai) (rs:List Nat) (cs:ai):V->RE V
 | .i x=> .ok (.i x) (cT σ rs cs)
 | .ref n=>sj σ rs cs n .ref
 | .pr a n=>sj σ rs cs n (.pr a)
 | .sub _ _=> .bad
def dX (σ:ai) (rs:List Nat) (r:RE V):RE V:=match r with
 | .bad=> .bad
 | .exc w r c=> .exc w r c
 | .ok v cs=>Ii σ rs cs v
def et (F:Fn) (vs:List V) (σ:ai):RE V:=
 match b6 σ (bz vs []) with
 |none=> .bad
 |some cs=>dX σ (bz vs []) (F (vs.map (gH (eP (bz vs [])))) cs)
def call (F:Fn) (as:List Ex):Ex:=fun l σ=>(cS as l σ).bind fun vs σ=>et F vs σ
def Cw (F:Fn) (f:Ex) (as:List Ex):Ex:=fun l σ=>(f l σ).bind fun g σ=>onFn ((cS as l σ).bind fun vs σ=>et F vs σ) .bad g
def aw (F:Fn) (o:Ex) (as:List Ex):Ex:=fun l σ=>(o l σ).bind fun o σ=>vw σ (fun j j j j j j=>(cS as l σ).bind fun vs σ=>et F (o::vs) σ) .bad o
def ZD (vs:List V) (σ:ai):RE V:=match vs with
 |[a,b,c]=>cz (fun w=>cG (fun r=>cG (fun k=> .ok (.ref σ.length) (σ++[.exn true w r k])) .bad c) .bad b) .bad a
 |_=> .bad
def Ca (as:List Ex):Ex:=fun l σ=>(cS as l σ).bind ZD
def vz:av->List Nat->List V->Option av
 |l,[],vs=>match vs with
  |[]=>some l
  |_=>none
 |l,n::ns,vs=>match vs with
  |v::vs=>vz (bK l n v) ns vs
  |[]=>none
def yt (ns:List Nat) (v:V) (l:av):Option av:=match v with
 | .i x=>match x with
  | .tup xs=>vz l ns (xs.map .i)
  |_=>none
 | .pr a m=>vz l ns [.i a,.ref m]
 |_=>none
def Af (ns:List Nat) (x:I) (l:av):Option av:=match ns with
 |[n]=>some (bK l n (.i x))
 |_=>yt ns (.i x) l
noncomputable def xZ {α β:Type} (x:RE α) (k:α->ai->RE β):RE β:=match x with
 | .ok a σ=>k a σ
 |_=> .bad
def gG (tg:List Nat) (c:Tx) (e:Ex) (l:av) (x:I) (k:List I->ai->RE (List I)) (acc:List I) (σ:ai):RE (List I):=match Af tg x l with
 |none=> .bad
 |some l'=>xZ (c l' σ) fun b σ=>match b with
  |false=>k acc σ
  |true=>xZ (e l' σ) fun v σ=>yD (fun y=>gd (Nat.blt acc.length aJ) (k (acc++[y]) σ)) .bad v
noncomputable def lL:Tx:=fun j σ=> .ok true σ
noncomputable def HS:Nat->Int->List I
 |0,_=>[]
 |n+1,a=> .int a::HS n (a+1)
def MJ (a b:Int):List I:=HS (b - a).toNat a
noncomputable def xI:List I->Nat->List I
 |[],_=>[]
 |x::r,n=> .tup [.int (.ofNat n),x]::xI r (n+1)
inductive uA where
 |xs (l:List I)
 |lst (n:Nat)
abbrev Hx:=av->ai->RE uA
def R3 (v:V) (σ:ai):RE uA:=eQ (fun xs=> .ok (.xs xs) σ) (cz (fun s=> .ok (.xs (s.map fun c=> .str [c])) σ) (cy σ (fun n j=> .ok (.lst n) σ) .bad v) v) v
def di (a:Ex):Hx:=fun l σ=>(a l σ).bind R3
noncomputable def ko (a:Int):Bool:=Nat.blt a.natAbs (2 ^ 60)
def gO (a b:Ex):Hx:=fun l σ=>(a l σ).bind fun x σ=>(b l σ).bind fun y σ=>cG (fun x=>cG (fun y=>gd (ko x && ko y) (.ok (.xs (MJ x y)) σ)) .bad y) .bad x
def HW (a:Ex):Hx:=fun l σ=>(a l σ).bind fun v σ=>eQ (fun xs=> .ok (.xs (xI xs 0)) σ) .bad v
def sK (n i:Nat) (σ:ai):Option (Option I):=match aP σ n with
 |some (.list xs)=>some xs[i]?
 |_=>none
noncomputable def pF {S ρ:Type} (fin:S->ai->ρ) (stp:I->(S->ai->ρ)->S->ai->ρ):List I->S->ai->ρ
 |[],a,σ=>fin a σ
 |x::r,a,σ=>stp x (pF fin stp r) a σ
def iu {S ρ:Type} (bad:ρ) (fin:S->ai->ρ) (stp:I->(S->ai->ρ)->S->ai->ρ) (n:Nat):Nat->Nat->S->ai->ρ
 |0,_,_,_=>bad
 |f+1,i,a,σ=>match sK n i σ with
  |none=>bad
  |some y=>match y with
   |none=>fin a σ
   |some x=>stp x (iu bad fin stp n f (i+1)) a σ
noncomputable def fw:Nat:=16777216
noncomputable def GQ:List Nat->av->av
 |[],l=>l
 |n::r,l=>GQ r (clr1 n l)
where clr1:Nat->av->av
 |_,[]=>[]
 |0,_::r=>none::r
 |n+1,x::r=>x::clr1 n r
def Ad {S ρ:Type} (bad:ρ) (fin:S->ai->ρ) (stp:I->(S->ai->ρ)->S->ai->ρ):uA->S->ai->ρ
 | .xs xs=>pF fin stp xs
 | .lst n=>iu bad fin stp n fw 0
def eG (h:Hx) (tg:List Nat) (c:Tx) (e:Ex):Ex:=fun l σ=>(h l σ).bind fun it σ=>
 xZ (Ad .bad .ok (gG tg c e (GQ tg l)) it [] σ) fun ys σ=> .ok (V.ref σ.length) (σ++[aF.list ys])
noncomputable def sq (a b:Sx):Sx:=fun l σ=>match a l σ with
 | .ok .nxt l σ=>b l σ
 |r=>r
noncomputable def ae:Sx:=fun l σ=> .ok .nxt l σ
noncomputable def badS:Sx:=fun j j=> .bad
def set (n:Nat) (e:Ex):Sx:=fun l σ=>(e l σ).bindS fun v σ=> .ok .nxt (bK l n v) σ
noncomputable def Td (x:Option av) (σ:ai):RS:=match x with
 |some l=> .ok .nxt l σ
 |none=> .bad
def fu (ns:List Nat) (e:Ex):Sx:=fun l σ=>(e l σ).bindS fun v σ=>Td (yt ns v l) σ
noncomputable def Dr:Nat->List I->List I->Option (List I×List I)
 |0,pre,rest=>some (pre,rest)
 |_+1,[],_=>none
 |n+1,x::pre,rest=>Dr n pre (x::rest)
def stAt (n p:Nat) (pre rest:List I) (kn:List (I×I)) (fam tab:I) (l:av) (σ:ai):RS:=Mh (Nat.ble p pre.length) (match Dr (pre.length - p) pre rest with
 |some x=> .ok .nxt l (putAt σ n (.rd x.1 x.2 kn fam tab))
 |none=> .bad)
def NO (o v:V) (l:av) (σ:ai):RS:=vw σ (fun n pre rest kn fam tab=>mX (fun p=>stAt n p pre rest kn fam tab l σ) .bad v) .bad o
def M8 (o v:V) (l:av) (σ:ai):RS:=vw σ (fun n pre rest kn j tab=>yD (fun x=> .ok .nxt l (putAt σ n (.rd pre rest kn x tab))) .bad v) .bad o
def OT (o v:V) (l:av) (σ:ai):RS:=vw σ (fun n pre rest kn fam j=>yD (fun x=> .ok .nxt l (putAt σ n (.rd pre rest kn fam x))) .bad v) .bad o
noncomputable def Fe (f:V->V->av->ai->RS) (o e:Ex):Sx:=fun l σ=>(e l σ).bindS fun v σ=>(o l σ).bindS fun o σ=>f o v l σ
def Pp (o:Ex):Sx:=fun l σ=>(o l σ).bindS fun o σ=>vw σ (fun n pre rest kn fam tab=>match rest with
 |x::rest=> .ok .nxt l (putAt σ n (.rd (x::pre) rest kn fam tab))
 |[]=> .bad) .bad o
def R0 (o:Ex):Sx:=fun l σ=>(o l σ).bindS fun o σ=>vw σ (fun n pre rest kn fam tab=>match pre with
 |x::pre=> .ok .nxt l (putAt σ n (.rd pre (x::rest) kn fam tab))
 |[]=> .bad) .bad o
def xX (o k v:V) (l:av) (σ:ai):RS:=yD (fun x=>
 qU σ (fun n d=>cz (fun s=>Mh (Nat.blt d.length aJ) (.ok .nxt l (putAt σ n (.dict (iP d (.str s) x))))) .bad k)
 (cy σ (fun n xs=>mX (fun j=>Mh (Nat.blt j xs.length) (.ok .nxt l (putAt σ n (.list (xs.set j x))))) .bad k)
 (sO σ 2 (fun n pre rest kn fam tab=>eQ (fun ks=>jI (fun q=>Mh (Nat.blt kn.length aJ) (.ok .nxt l (putAt σ n (.rd pre rest (iP kn (.tup ks) x) fam tab)))) .bad ks) .bad k) .bad o) o) o) .bad v
def dF (o k e:Ex):Sx:=fun l σ=>(e l σ).bindS fun v σ=>(o l σ).bindS fun o σ=>(k l σ).bindS fun k σ=>xX o k v l σ
def nE (n:Nat) (f:V->V->ai->RE V) (e:Ex):Sx:=fun l σ=>(aa n l σ).bindS fun a σ=>(e l σ).bindS fun b σ=>(f a b σ).bindS fun v σ=> .ok .nxt (bK l n v) σ
noncomputable def aE (e:Ex):Sx:=fun l σ=>(e l σ).bindS fun j σ=> .ok .nxt l σ
noncomputable def am (c:Tx) (a b:Sx):Sx:=fun l σ=>(c l σ).bindS fun r σ=>match r with
 |true=>a l σ
 |false=>b l σ
def kS:List (Tx×Sx)->Sx
 |[]=>ae
 |p::r=>match r with
  |[]=>am p.1 p.2 ae
  |_::_=>am p.1 p.2 (sq (kS r) ae)
noncomputable def al (e:Ex):Sx:=fun l σ=>(e l σ).bindS fun v σ=> .ok (.ret v) l σ
noncomputable def brk:Sx:=fun l σ=> .ok .brk l σ
def aV (e:Ex):Sx:=fun l σ=>(e l σ).bindS fun v σ=>Wd σ (fun j new w r c=>match new with |true=> .exc w r c |false=> .bad) .bad v
def RS.loop (r:RS) (k:Sx):RS:=match r with
 | .ok g l σ=>match g with
  | .nxt=>k l σ
  | .brk=> .ok .nxt l σ
  | .ret v=> .ok (.ret v) l σ
 | .bad=> .bad
 | .exc w r c=> .exc w r c
noncomputable def jq (c:Tx) (b:Sx):Nat->Sx
 |0,_,_=> .bad
 |n+1,l,σ=>(c l σ).bindS fun r σ=>match r with
  |false=> .ok .nxt l σ
  |true=>(b l σ).loop (jq c b n)
def wh (c:Tx) (b:Sx):Sx:=fun l σ=>jq c b fw l σ
def gx (tg:List Nat) (b:Sx) (x:I) (k:Sx) (l:av) (σ:ai):RS:=match Af tg x l with
 |none=> .bad
 |some l=>(b l σ).loop k
def forI (tg:List Nat) (b:Sx):List I->Sx:=pF (fun l σ=> .ok .nxt l σ) (gx tg b)
def cI (h:Hx) (tg:List Nat) (b:Sx):Sx:=fun l σ=>(h l σ).bindS fun it σ=>Ad .bad (fun l σ=> .ok .nxt l σ) (gx tg b) it l σ
def HV (F:Fn) (n:Nat) (e:Ex):Sx:=fun l σ=>(e l σ).bindS fun v σ=>yD (fun x=>match F [.i x] [] with
 | .ok v σ'=>cy σ' (fun j ts=> .ok .nxt (bK l n (.ref σ.length)) (σ++[aF.rd [] ts [] (.str []) (.str [])])) .bad v
 | .exc w r c=> .exc w r c
 | .bad=> .bad) .bad v
noncomputable def Kp (b:Sx):Sx:=fun l σ=>match b l σ with
 | .exc w r c=> .ok (.ret (.i (.tup [.str w,.int r,.int c]))) [] []
 | .ok f l σ=> .ok f l σ
 | .bad=> .bad
noncomputable def jP:List (Option I)->List V->Option av
 |[],[]=>some []
 |_::r,v::vs=>match jP r vs with
  |some l=>some (some v::l)
  |none=>none
 |some d::r,[]=>match jP r [] with
  |some l=>some (some (.i d)::l)
  |none=>none
 |_,_=>none
def RS.fin (r:RS):RE V:=match r with
 | .ok f _ σ=>match f with
  | .ret v=> .ok v σ
  | .nxt=> .ok (.i .none) σ
  | .brk=> .bad
 | .bad=> .bad
 | .exc w r c=> .exc w r c
def fn (ps:List (Option I)) (b:Sx):Fn:=fun vs σ=>match jP ps vs with
 |none=> .bad
 |some l=>(b l σ).fin
noncomputable def RF {β:Type} (k:aF->β) (n:β):ai->β
 |[]=>n
 |c::r=>match r with
  |[]=>k c
  |_::_=>n
def is0 {β:Type} (k n:β):V->β | .ref m=>Pm k n (Nat.beq m 0) |_=>n
noncomputable def Vq {β:Type} (k:Nat->Nat->List (Nat×Nat)->β) (n:β):List I->β
 |[]=>n
 |x::r=>match r,x with
  |[],.dig ((d,j)::ds)=>k d j ds
  |_,_=>n
def N5 {β:Type} (k0:β) (k:Nat->β) (n:β):List V->β
 |[]=>n
 |u::r=>is0 (match r with
  |[]=>k0
  |v::r=>match r with
   |[]=>mX k n v
   |_::_=>n) n u
def takeX (F:Fn):Fn:=fun vs σ=>N5 (F vs σ) (fun m=>RF (fun c=>ph (Vq (fun d k ds=>gd (Nat.beq m k && Nat.blt k 1048576) (.ok (.i (.int (.ofNat d))) [.list [.dig ds]])) (F vs σ)) (F vs σ) (some c)) (F vs σ) σ) (F vs σ) vs
def numF (f:Int->List V->List (Nat×Nat)) (F:Fn):Fn:=fun vs σ=>match vs with
 |[]=> .bad
 |v::r=>cG (fun n=>F (.i (.num (f n r))::r) σ) .bad v
noncomputable def SW {β:Type} (k:T->β) (n:β):List V->β
 |[]=>n
 |v::r=>match r with
  |[]=>cz k n v
  |_::_=>n
noncomputable def pickF (p:T->Bool) (F G:Fn):Fn:=fun vs σ=>SW (fun s=>match p s with
 |true=>F vs σ
 |false=>G vs σ) .bad vs
def tkL (x:I):List I->I
 |[]=>x
 |a::r=>match r with
  |[]=>x
  |b::r=>match r with
   |[]=>x
   |c::r=>match r with
    |[]=>x
    |d::r=>match r with
     |_::_=>x
     |[]=>cz (fun k=>cz (fun s=>cG (fun j=>cG (fun j=> .tk k s) x (.i d)) x (.i c)) x (.i b)) x (.i a)
def zg (x:I):I:=eQ (tkL x) x (.i x)
def tkF (F:Fn):Fn:=fun vs σ=>match σ with
 |_::_=> .bad
 |[]=>match F vs [] with
  | .bad=> .bad
  | .exc w r c=> .exc w r c
  | .ok v σ'=>cy σ' (fun j xs=> .ok (.ref 0) [.list (xs.map zg)]) .bad v
noncomputable def zd (pre rest:List I) (kn:List (I×I)) (fam tab:I) (a:Nat):RE V:=match rest[a]? with
 |some x=> .ok (.i x) [.rd pre rest kn fam tab]
 |none=>match rest,a with
  |[x],1=> .ok (.i x) [.rd pre [x] kn fam tab]
  |_,_=> .bad
def Ia:Fn:=fun vs σ=>RF (fun c=>MY (fun pre rest kn fam tab=>N5 (zd pre rest kn fam tab 0) (zd pre rest kn fam tab) .bad vs) .bad (some c)) .bad σ
theorem BG {k x:Mine.I} (d:List (Mine.I×Mine.I)):(iP d k x).length<=d.length+1:=by
 induction d with
 |nil=>exact cR _
 |cons p r ih=>
  simp only [iP]
  cases Om p.1 k with
  |true=>exact iD _
  |false=>exact gu ih
theorem jc {α:Type} {x:α} {P:Prop} (h:none=some x):P:=nomatch h
theorem ff {P:Prop} (h:false=true):P:=nomatch h
end
section
abbrev ci (n:Nat):Ex:=aN (.int (.ofNat n))
abbrev cs (s:T):Ex:=aN (.str s)
noncomputable def s0:T:=[105,112]
noncomputable def s1:T:=[105,112,54]
noncomputable def s2:T:=[105,110,101,116]
noncomputable def s3:T:=[97,114,112]
noncomputable def s4:T:=[98,114,105,100,103,101]
noncomputable def s5:T:=[110,101,116,100,101,118]
noncomputable def s6:T:=[112,114,101,114,111,117,116,105,110,103]
noncomputable def s7:T:=[105,110,112,117,116]
noncomputable def s8:T:=[102,111,114,119,97,114,100]
noncomputable def s9:T:=[111,117,116,112,117,116]
noncomputable def Cz:T:=[112,111,115,116,114,111,117,116,105,110,103]
noncomputable def kr:T:=[105,110,103,114,101,115,115]
noncomputable def qd:T:=[97,99,99,101,112,116]
noncomputable def iV:T:=[118,101,114,100,105,99,116]
noncomputable def aQ:T:=[]
noncomputable def s15:T:=[116,99,112,32,100,112,111,114,116,32,115,115,104,32,106,117,109,112,32,99,50]
noncomputable def QV:T:=[109,97,116,99,104]
noncomputable def D8:T:=[102,105,101,108,100]
noncomputable def s18:T:=[116,99,112,32,100,112,111,114,116]
noncomputable def Ik:T:=[61,61]
noncomputable def QC:T:=[110,117,109]
noncomputable def Kq:T:=[106,117,109,112]
noncomputable def G0:T:=[99,50]
noncomputable def s23:T:=[105,112,32,115,97,100,100,114,32,33,61,32,64,115,49,32,100,114,111,112,32,99,111,109,109,101,110,116,32,34,97,59,32,98,32,125,34]
noncomputable def VJ:T:=[105,112,32,115,97,100,100,114]
noncomputable def CA:T:=[33,61]
noncomputable def VV:T:=[114,101,102]
noncomputable def s27:T:=[115,49]
noncomputable def nH:T:=[100,114,111,112]
noncomputable def Y5:T:=[97,59,32,98,32,125]
noncomputable def s30:T:=[105,112,32,115,97,100,100,114,32,118,109,97,112,32,123,32,49,48,46,48,46,48,46,49,32,58,32,114,101,116,117,114,110,44,10,125]
noncomputable def PI:T:=[118,109,97,112]
noncomputable def fS:T:=[109,97,112]
noncomputable def ME:T:=[114,101,116,117,114,110]
noncomputable def s34:T:=[97,100,100,32,101,108,101,109,101,110,116,32,105,112,32,116,49,32,115,57,32,123,32,49,32,125]
noncomputable def ZU:T:=[78,111,32,115,117,99,104,32,102,105,108,101,32,111,114,32,100,105,114,101,99,116,111,114,121]
noncomputable def s36:T:=[97,100,100,32,99,104,97,105,110,32,105,112,32,116,49,32,50,99]
noncomputable def s37:T:=[115,121,110,116,97,120,32,101,114,114,111,114,44,32,117,110,101,120,112,101,99,116,101,100,32,39,50,99,39,44,32,101,120,112,101,99,116,105,110,103,32,115,116,114,105,110,103]
noncomputable def s38:T:=[116,97,98,108,101,32,105,112,32,116,49,32,123,32,115,101,116,32,115,32,123,32,102,108,97,103,115,32,105,110,116,101,114,118,97,108,32,125,32,125]
noncomputable def s39:T:=[115,101,116,32,100,101,102,105,110,105,116,105,111,110,32,100,111,101,115,32,110,111,116,32,115,112,101,99,105,102,121,32,107,101,121]
noncomputable def s40:T:=[97,100,100,32,99,104,97,105,110,32,105,112,32,116,32,99,32,123,32,116,121,112,101,32,110,97,116,32,104,111,111,107,32,105,110,112,117,116,32,112,114,105,111,114,105,116,121,32,100,115,116,110,97,116,59,32,125]
noncomputable def s41:T:=[39,100,115,116,110,97,116,39,32,105,115,32,105,110,118,97,108,105,100,32,112,114,105,111,114,105,116,121,32,105,110,32,116,104,105,115,32,99,111,110,116,101,120,116,46]
noncomputable def s42:T:=[100,101,108,101,116,101,32,114,117,108,101,32,105,112,32,116,32,99,32,105,110,100,101,120,32,51]
noncomputable def s43:T:=[115,121,110,116,97,120,32,101,114,114,111,114,44,32,117,110,101,120,112,101,99,116,101,100,32,39,105,110,100,101,120,39,44,32,101,120,112,101,99,116,105,110,103,32,104,97,110,100,108,101]
noncomputable def s44:T:=[102,108,117,115,104,32,99,111,117,110,116,101,114,32,116,32,110]
noncomputable def s45:T:=[115,121,110,116,97,120,32,101,114,114,111,114,44,32,117,110,101,120,112,101,99,116,101,100,32,39,99,111,117,110,116,101,114,39,44,32,101,120,112,101,99,116,105,110,103,32,114,117,108,101,115,101,116,32,111,114,32,116,97,98,108,101,32,111,114,32,99,104,97,105,110,32,111,114,32,115,101,116,32,111,114,32,109,97,112]
noncomputable def r7:T:=[102,105,108,116,101,114]
noncomputable def LY:T:=[100,115,116,110,97,116]
noncomputable def s48:T:=[111,117,116]
noncomputable def L9:T:=[115,114,99,110,97,116]
noncomputable def PF:T:=[114,97,119]
noncomputable def Pb:T:=[109,97,110,103,108,101]
noncomputable def Qq:T:=[115,101,99,117,114,105,116,121]
noncomputable def Qt:T:=[109,97,115,107]
noncomputable def s54:T:=[111,114]
noncomputable def s55:T:=[120,111,114]
noncomputable def YX:T:=[115,104,108]
noncomputable def Vy:T:=[115,104,114]
noncomputable def s58:T:=[104,97,115,104]
noncomputable def s59:T:=[98,105,116,115]
noncomputable def lW:T:=[116,121,112,101]
noncomputable def s61:T:=[109,97,114,107]
noncomputable def s62:T:=[99,111,110,99,97,116]
noncomputable def Vj:T:=[48]
noncomputable def s64:T:=[57]
noncomputable def uK:T:=[46]
noncomputable def Vi:T:=[47]
noncomputable def s67:T:=[48,49,50,51,52,53,54,55,56,57,97,98,99,100,101,102]
noncomputable def s68:T:=[48,120]
noncomputable def s69:T:=[100]
noncomputable def s70:T:=[104]
noncomputable def s71:T:=[109]
noncomputable def s72:T:=[115]
noncomputable def s73:T:=[109,115]
noncomputable def s74:T:=[48,49,50,51,52,53,54,55,56,57]
noncomputable def Zz:T:=[105,112,52]
noncomputable def s76:T:=[109,97,99]
noncomputable def s77:T:=[110,97,109,101]
noncomputable def s78:T:=[116,105,109,101]
noncomputable def GZ:T:=[45]
noncomputable def VT:T:=[97,98,99,100,101,102,103,104,105,106,107,108,109,110,111,112,113,114,115,116,117,118,119,120,121,122,65,66,67,68,69,70,71,72,73,74,75,76,77,78,79,80,81,82,83,84,85,86,87,88,89,90,48,49,50,51,52,53,54,55,56,57,95,46,58,42,43,45,47]
noncomputable def bX:T:=[10]
noncomputable def s82:T:=[34]
noncomputable def s83:T:=[117,110,116,101,114,109,105,110,97,116,101,100,32,115,116,114,105,110,103]
noncomputable def jE:T:=[58]
noncomputable def s85:T:=[58,58]
noncomputable def fY:T:=[115,105,103,110]
noncomputable def iR:T:=[119,111,114,100]
noncomputable def fE:T:=[101,110,100]
noncomputable def iT:T:=[59]
noncomputable def s90:T:=[35]
noncomputable def s91:T:=[92]
noncomputable def jL:T:=[115,116,114,105,110,103]
noncomputable def V5:T:=[60,61]
noncomputable def Vp:T:=[62,61]
noncomputable def Vm:T:=[60,60]
noncomputable def VG:T:=[62,62]
noncomputable def VC:T:=[123,125,40,41,91,93,44,61,60,62,38,124,94,33,64,36]
noncomputable def s98:T:=[32,9,13]
noncomputable def s99:T:=[117,110,101,120,112,101,99,116,101,100,32,99,104,97,114,97,99,116,101,114,32,39]
noncomputable def Cl:T:=[39]
noncomputable def vJ:T:=[101,111,102]
noncomputable def s102:T:=[101,110,100,32,111,102,32,102,105,108,101]
noncomputable def s103:T:=[110,101,119,108,105,110,101]
noncomputable def s104:T:=[115,121,110,116,97,120,32,101,114,114,111,114,44,32,117,110,101,120,112,101,99,116,101,100,32]
noncomputable def s105:T:=[44,32,101,120,112,101,99,116,105,110,103,32]
noncomputable def ZS:T:=[110,117,109,98,101,114]
noncomputable def s107:T:=[99,111,109,109,101,110,116,32,116,111,111,32,108,111,110,103,44,32,49,50,56,32,99,104,97,114,97,99,116,101,114,115,32,109,97,120,105,109,117,109,32,97,108,108,111,119,101,100]
noncomputable def Y8:T:=[118,97,108,117,101]
noncomputable def s109:T:=[82,97,110,103,101,32,110,101,103,97,116,105,118,101,32,115,105,122,101]
noncomputable def s110:T:=[42]
noncomputable def RD:T:=[124]
noncomputable def eI:T:=[32]
noncomputable def s113:T:=[105,105,102]
noncomputable def s114:T:=[111,105,102]
noncomputable def s115:T:=[105,105,102,110,97,109,101]
noncomputable def s116:T:=[111,105,102,110,97,109,101]
noncomputable def s117:T:=[109,101,116,97,32]
noncomputable def Y4:T:=[106,104,97,115,104]
noncomputable def s119:T:=[38]
noncomputable def s120:T:=[94]
noncomputable def s121:T:=[101,120,112,114,101,115,115,105,111,110,32,110,101,115,116,101,100,32,116,111,111,32,100,101,101,112,108,121]
noncomputable def s122:T:=[40]
noncomputable def s123:T:=[101,120,112,114,101,115,115,105,111,110]
noncomputable def TN:T:=[99,111,110,116,105,110,117,101]
noncomputable def BX:T:=[103,111,116,111]
noncomputable def eu:T:=[116,105,109,101,111,117,116]
noncomputable def Nb:T:=[99,111,109,109,101,110,116]
noncomputable def cH:T:=[123]
noncomputable def cV:T:=[125]
noncomputable def gb:T:=[44]
noncomputable def NH:T:=[64]
noncomputable def dO:T:=[115,101,116]
noncomputable def s133:T:=[115,112,97,110]
noncomputable def s134:T:=[60]
noncomputable def s135:T:=[62]
noncomputable def s136:T:=[33]
noncomputable def s137:T:=[110,111,110,101]
noncomputable def N0:T:=[99,116]
noncomputable def il:T:=[101,120,112,101,99,116,97,116,105,111,110]
noncomputable def s140:T:=[101,120,112,101,99,116]
noncomputable def s141:T:=[97,110,121]
noncomputable def ER:T:=[98,121,116,101,115]
noncomputable def s143:T:=[107,98,121,116,101,115]
noncomputable def s144:T:=[109,98,121,116,101,115]
noncomputable def s145:T:=[103,98,121,116,101,115]
noncomputable def s146:T:=[98,121,116,101,115,44,32,107,98,121,116,101,115,32,111,114,32,109,98,121,116,101,115]
noncomputable def s147:T:=[98,121,116,101,115,44,32,107,98,121,116,101,115,44,32,109,98,121,116,101,115,32,111,114,32,103,98,121,116,101,115]
noncomputable def s148:T:=[111,118,101,114]
noncomputable def s149:T:=[117,110,116,105,108]
noncomputable def TC:T:=[112,97,99,107,101,116,115]
noncomputable def aaF:T:=[117,115,101,100]
noncomputable def s152:T:=[39,47,39]
noncomputable def s153:T:=[115,101,99,111,110,100]
noncomputable def s154:T:=[109,105,110,117,116,101]
noncomputable def aa1:T:=[104,111,117,114]
noncomputable def s156:T:=[100,97,121]
noncomputable def Zp:T:=[119,101,101,107]
noncomputable def s158:T:=[115,101,99,111,110,100,44,32,109,105,110,117,116,101,44,32,104,111,117,114,44,32,100,97,121,32,111,114,32,119,101,101,107]
noncomputable def TT:T:=[114,97,116,101]
noncomputable def ZF:T:=[98,117,114,115,116]
noncomputable def s161:T:=[115,116,97,116,101,109,101,110,116]
noncomputable def s162:T:=[110,101,119,108,105,110,101,32,111,114,32,115,101,109,105,99,111,108,111,110]
noncomputable def s163:T:=[117,110,107,110,111,119,110,32,100,97,116,97,116,121,112,101,32,39]
noncomputable def s164:T:=[117,110,113,117,97,108,105,102,105,101,100,32,116,121,112,101,32,39]
noncomputable def s165:T:=[39,32,115,112,101,99,105,102,105,101,100,32,105,110,32,115,101,116,32,100,101,102,105,110,105,116,105,111,110]
noncomputable def R7:T:=[99,111,110,115,116,97,110,116]
noncomputable def Rn:T:=[100,121,110,97,109,105,99]
noncomputable def Sv:T:=[105,110,116,101,114,118,97,108]
noncomputable def s169:T:=[117,110,107,110,111,119,110,32,115,101,116,32,102,108,97,103]
noncomputable def jg:T:=[102,108,97,103,115]
noncomputable def jp:T:=[115,105,122,101]
noncomputable def qV:T:=[97,117,116,111,45,109,101,114,103,101]
noncomputable def eH:T:=[101,108,101,109,101,110,116,115]
noncomputable def Zs:T:=[32,111,114,32]
noncomputable def s175:T:=[89,111,117,32,99,97,110,32,111,110,108,121,32,115,112,101,99,105,102,121,32,116,104,105,115,32,111,110,99,101]
noncomputable def s176:T:=[32,100,101,102,105,110,105,116,105,111,110,32,100,111,101,115,32,110,111,116,32,115,112,101,99,105,102,121,32,107,101,121]
noncomputable def wl:T:=[100,97,116,97]
noncomputable def jr:T:=[61]
noncomputable def nZ:T:=[99,111,117,110,116,101,114]
noncomputable def mu:T:=[113,117,111,116,97]
noncomputable def JP:T:=[112,114,111,116,111,99,111,108]
noncomputable def IO:T:=[100,112,111,114,116]
noncomputable def AV:T:=[108,51,112,114,111,116,111]
noncomputable def s184:T:=[97,110,32,101,120,112,101,99,116,97,116,105,111,110,32,104,97,115,32]
noncomputable def A7:T:=[44,32]
noncomputable def s186:T:=[105,110,101,116,95,112,114,111,116,111]
noncomputable def EW:T:=[105,110,101,116,95,115,101,114,118,105,99,101]
noncomputable def s188:T:=[108,51,112,114,111,116,111,32,105,115,32,105,112,32,111,114,32,105,112,54]
noncomputable def s189:T:=[101,120,112,101,99,116,97,116,105,111,110,32,100,101,102,105,110,105,116,105,111,110,32,100,111,101,115,32,110,111,116,32,115,112,101,99,105,102,121,32]
noncomputable def s190:T:=[48,49,50,51,52,53,54,55,56,57,45,47]
noncomputable def s191:T:=[58,42,43]
noncomputable def er:T:=[99,104,97,105,110]
noncomputable def sZ:T:=[108,105,109,105,116]
noncomputable def aav:T:=[99,116,32,101,120,112,101,99,116,97,116,105,111,110]
noncomputable def iG:T:=[102,108,111,119,116,97,98,108,101]
noncomputable def s196:T:=[98,108,111,99,107]
noncomputable def mE:T:=[105,110,115,101,114,116]
noncomputable def fH:T:=[114,117,108,101]
noncomputable def kH:T:=[114,101,112,108,97,99,101]
noncomputable def EX:T:=[102,108,117,115,104]
noncomputable def RA:T:=[114,117,108,101,115,101,116]
noncomputable def fL:T:=[116,97,98,108,101]
noncomputable def Kl:T:=[114,101,110,97,109,101]
noncomputable def ON:T:=[114,101,115,101,116]
noncomputable def ly:T:=[101,108,101,109,101,110,116]
noncomputable def Rs:T:=[43,45]
noncomputable def NG:T:=[43]
noncomputable def s208:T:=[39,32,105,115,32,105,110,118,97,108,105,100,32,112,114,105,111,114,105,116,121,32,105,110,32,116,104,105,115,32,99,111,110,116,101,120,116,46]
noncomputable def OG:T:=[110,97,116]
noncomputable def Oy:T:=[114,111,117,116,101]
noncomputable def s211:T:=[117,110,107,110,111,119,110,32,99,104,97,105,110,32,116,121,112,101]
noncomputable def nU:T:=[104,111,111,107]
noncomputable def s213:T:=[117,110,107,110,111,119,110,32,99,104,97,105,110,32,104,111,111,107]
noncomputable def aap:T:=[100,101,118,105,99,101]
noncomputable def nX:T:=[112,114,105,111,114,105,116,121]
noncomputable def s216:T:=[121,111,117,32,99,97,110,110,111,116,32,115,101,116,32,99,104,97,105,110,32,116,121,112,101,32,116,119,105,99,101]
noncomputable def BI:T:=[112,111,108,105,99,121]
noncomputable def s218:T:=[121,111,117,32,99,97,110,110,111,116,32,115,101,116,32,99,104,97,105,110,32,112,111,108,105,99,121,32,116,119,105,99,101]
noncomputable def s219:T:=[97,32,112,111,108,105,99,121,32,105,115,32,97,99,99,101,112,116,32,111,114,32,100,114,111,112]
noncomputable def aU:T:=[97,100,100]
noncomputable def ze:T:=[100,101,108,101,116,101]
noncomputable def jS:T:=[100,101,115,116,114,111,121]
noncomputable def e9:T:=[104,97,110,100,108,101]
noncomputable def Bh:T:=[112,111,115,105,116,105,111,110]
noncomputable def rY:T:=[105,110,100,101,120]
noncomputable def s226:T:=[100,101,118,105,99,101,115]
noncomputable def s227:T:=[97,32,102,108,111,119,116,97,98,108,101,32,104,97,115,32,104,111,111,107,32,97,110,100,32,100,101,118,105,99,101,115]
noncomputable def s228:T:=[109,105,115,115,105,110,103,32,104,111,111,107,32,97,110,100,32,112,114,105,111,114,105,116,121,32,105,110,32,102,108,111,119,116,97,98,108,101,32,100,101,99,108,97,114,97,116,105,111,110]
noncomputable def mD:T:=[100,111,114,109,97,110,116]
noncomputable def Io:T:=[99,114,101,97,116,101]
noncomputable def SI:T:=[32,123,10]
noncomputable def Oi:T:=[32,123,32]
noncomputable def lI:T:=[59,32]
noncomputable def nP:T:=[32,125]
noncomputable def F5:T:=[59,125]
noncomputable def Zi:T:=[111,118,101,114,32]
noncomputable def s237:T:=[117,110,116,105,108,32]
noncomputable def aaC:T:=[112,97,99,107,101,116,115,32]
noncomputable def s239:T:=[32,98,121,116,101,115,32,55,48]
noncomputable def IT:T:=[32,98,121,116,101,115]
noncomputable def s241:T:=[32,117,115,101,100,32,50,32,107,98,121,116,101,115]
noncomputable def Oe:T:=[114,97,116,101,32]
noncomputable def Si:T:=[47,104,111,117,114]
noncomputable def s244:T:=[51,32,109,98,121,116,101,115,47,119,101,101,107,32,98,117,114,115,116,32]
noncomputable def TL:T:=[112,114,111,116,111,99,111,108,32]
noncomputable def Oz:T:=[116,99,112]
noncomputable def Tp:T:=[49,55]
noncomputable def s248:T:=[100,112,111,114,116,32,115,115,104]
noncomputable def YY:T:=[116,105,109,101,111,117,116,32,49,104]
noncomputable def s250:T:=[115,105,122,101,32,48,56]
noncomputable def s251:T:=[112,114,111,116,111,99,111,108,32,116,99,112]
noncomputable def s252:T:=[108,51,112,114,111,116,111,32,105,112]
noncomputable def s253:T:=[108,51,112,114,111,116,111,32,105,112,54]
noncomputable def s254:T:=[99,116,32,101,120,112,101,99,116,97,116,105,111,110,32]
noncomputable def aa2:T:=[32,43,32]
noncomputable def Zy:T:=[45,32]
noncomputable def vB:T:=[104,111,111,107,32,105,110,103,114,101,115,115,32,112,114,105,111,114,105,116,121,32]
noncomputable def yQ:T:=[100,101,118,105,99,101,115,32,61,32,123,32,101,116,104,48,44,10,34,108,97,110,45,49,34,32,125]
noncomputable def E8:T:=[102,108,111,119,116,97,98,108,101,32]
noncomputable def Fp:T:=[101,116,104,48]
noncomputable def RR:T:=[108,97,110,45,49]
noncomputable def FA:T:=[116,121,112,101,32]
noncomputable def SL:T:=[32,104,111,111,107,32]
noncomputable def TP:T:=[32,100,101,118,105,99,101,32,34,101,116,104,48,34]
noncomputable def SH:T:=[32,112,114,105,111,114,105,116,121,32]
noncomputable def JZ:T:=[112,111,108,105,99,121,32]
noncomputable def FZ:T:=[99,104,97,105,110,32]
noncomputable def Bp:T:=[32,46,32]
noncomputable def s269:T:=[32,116,105,109,101,111,117,116,32,49,109,49,115,32,99,111,109,109,101,110,116,32,34,35,49,34]
noncomputable def t9:T:=[32,58,32]
noncomputable def Fm:T:=[49,48,46,48,46,48,46,49]
noncomputable def ZK:T:=[49,48,46,48,46,48,46,49,32,46,32,115,115,104]
noncomputable def Ug:T:=[35,49]
noncomputable def J4:T:=[101,108,101,109,101,110,116,115,32,61,32,123,32]
noncomputable def ma:T:=[105,112,118,52,95,97,100,100,114]
noncomputable def s276:T:=[102,108,97,103,115,32]
noncomputable def T9:T:=[116,105,109,101,111,117,116,32]
noncomputable def Ry:T:=[54,48,109]
noncomputable def Um:T:=[53,115,53,48,48,109,115]
noncomputable def Ti:T:=[115,105,122,101,32]
noncomputable def Ub:T:=[105,110,100,101,120,32]
noncomputable def SO:T:=[112,111,115,105,116,105,111,110,32]
noncomputable def TZ:T:=[104,97,110,100,108,101,32]
noncomputable def Sq:T:=[32,114,117,108,101,32]
noncomputable def Tz:T:=[99,49,32]
noncomputable def mn:T:=[99,49]
noncomputable def TV:T:=[100,101,115,116,114,111,121,32,114,117,108,101,32]
noncomputable def Sw:T:=[99,49,32,104,97,110,100,108,101,32]
noncomputable def s289:T:=[102,108,117,115,104,32,114,117,108,101,115,101,116]
noncomputable def s290:T:=[102,108,117,115,104,32,109,97,112,32]
noncomputable def tG:T:=[109,48]
noncomputable def s292:T:=[114,101,110,97,109,101,32,99,104,97,105,110,32]
noncomputable def s293:T:=[99,49,32,120,46,121,47,50]
noncomputable def Bg:T:=[120,46,121,47,50]
noncomputable def s295:T:=[114,101,115,101,116,32,113,117,111,116,97,32]
noncomputable def s296:T:=[113,95,49]
noncomputable def s297:T:=[99,114,101,97,116,101,32,101,108,101,109,101,110,116,32]
noncomputable def s298:T:=[109,48,32,123,10,49,48,46,48,46,48,46,49,32,58,32,106,117,109,112,32,99,50,44,32,125]
noncomputable def s299:T:=[100,101,108,101,116,101,32,101,108,101,109,101,110,116,32]
noncomputable def s300:T:=[109,48,32,123,32,49,48,46,48,46,48,46,49,32,125]
noncomputable def s301:T:=[100,101,108,101,116,101,32,99,116,32,101,120,112,101,99,116,97,116,105,111,110,32]
noncomputable def s302:T:=[101,45,49]
noncomputable def s303:T:=[99,114,101,97,116,101,32,116,97,98,108,101,32]
noncomputable def s304:T:=[123,32,102,108,97,103,115,32,100,111,114,109,97,110,116,59,32,125]
noncomputable def s305:T:=[108,105,109,105,116,32]
noncomputable def s306:T:=[32,108,49,32,114,97,116,101,32,53,47,100,97,121]
noncomputable def s307:T:=[108,49]
noncomputable def Fu:T:=[116,49]
noncomputable def FV:T:=[97,45,98]
noncomputable def OX:T:=[102,108,97,103,115,32,100,111,114,109,97,110,116]
noncomputable def s311:T:=[110]
noncomputable def SV:T:=[10,59,97,100,100,32,109,97,112,32]
noncomputable def RW:T:=[32,109,48,32,123,32,116,121,112,101,32,105,112,118,52,95,97,100,100,114,32,58,32,118,101,114,100,105,99,116,32,125]
noncomputable def Jx:T:=[116,97,98,108,101,32]
noncomputable def Jt:T:=[97,100,100,32,116,97,98,108,101,32]
noncomputable def Ox:T:=[32,59,32]
noncomputable def FU:T:=[10,10]
def fk:I:=(.tup [(.str s0),(.str s1),(.str s2),(.str s3),(.str s4),(.str s5)])
def AC:I:=(.tup [(.str s6),(.str s7),(.str s8),(.str s9),(.str Cz),(.str kr)])
def sY:I:=(.tup [(.tup [(.str qd),(.tup [(.tup [(.str iV),(.tup [(.str qd),(.str aQ)])])]),(.str aQ)]),(.tup [(.str s15),(.tup [(.tup [(.str QV),(.tup [(.str D8),(.str s18)]),(.str Ik),(.tup [(.str QC),(.int (.ofNat (22)))])]),(.tup [(.str iV),(.tup [(.str Kq),(.str G0)])])]),(.str aQ)]),(.tup [(.str s23),(.tup [(.tup [(.str QV),(.tup [(.str D8),(.str VJ)]),(.str CA),(.tup [(.str VV),(.str s27)])]),(.tup [(.str iV),(.tup [(.str nH),(.str aQ)])])]),(.str Y5)]),(.tup [(.str s30),(.tup [(.tup [(.str PI),(.tup [(.str D8),(.str VJ)]),(.tup [(.str fS),(.tup [(.tup [(.tup [(.tup [(.int (.ofNat (167772161))),(.int (.ofNat (167772161)))])]),(.tup [(.str ME),(.str aQ)]),(.int (.ofNat (0))),(.str aQ)])])])])]),(.str aQ)])])
def eJ:I:=(.tup [(.tup [(.str s34),(.str ZU),(.int (.ofNat (19)))]),(.tup [(.str s36),(.str s37),(.int (.ofNat (17)))]),(.tup [(.str s38),(.str s39),(.int (.ofNat (40)))]),(.tup [(.str s40),(.str s41),(.int (.ofNat (49)))]),(.tup [(.str s42),(.str s43),(.int (.ofNat (20)))]),(.tup [(.str s44),(.str s45),(.int (.ofNat (7)))])])
def Jb:Sx:=
 (sq (am (aj az (aa 0) (cs s4)) (sq (set 2 (mH [(cs r7),(un ey (ci (200)))])) (sq (am (aj az (aa 1) (cs s6)) (sq (dF (aa 2) (cs LY) (un ey (ci (300)))) ae) ae) (sq (am (aj az (aa 1) (cs s9)) (sq (dF (aa 2) (cs s48) (ci (100))) ae) ae) (sq (am (aj az (aa 1) (cs Cz)) (sq (dF (aa 2) (cs L9) (ci (300))) ae) ae) (sq (al (aa 2)) ae))))) ae) (sq (set 2 (mH [(cs r7),(ci (0))])) (sq (am (aj cJ (aa 0) (ah [(cs s0),(cs s1),(cs s2)])) (sq (dF (aa 2) (cs PF) (un ey (ci (300)))) (sq (dF (aa 2) (cs Pb) (un ey (ci (150)))) (sq (dF (aa 2) (cs Qq) (ci (50))) (sq (am (aj cJ (aa 1) (ah [(cs s6),(cs s9)])) (sq (dF (aa 2) (cs LY) (un ey (ci (100)))) ae) ae) (sq (am (aj cJ (aa 1) (ah [(cs Cz),(cs s7)])) (sq (dF (aa 2) (cs L9) (ci (100))) ae) ae) ae))))) ae) (sq (al (aa 2)) ae))))
def lf:Fn:=fn [none,none] Jb
def Hu:Sx:=
 (sq (am (aj gn (aa 1) (aa 0)) (sq (aV d7) ae) ae) (sq (al (af ag (aa 0) (aa 1))) ae))
def nR:Fn:=fn [none,none] Hu
def KZ:Sx:=
 (sq (al (gE (aj cJ (af ag (aa 0) (ci (0))) (ah [(cs Qt),(cs s54),(cs s55),(cs YX),(cs Vy)])))) ae)
def mN:Fn:=fn [none] KZ
def Hw:Tx:=(a7 (call mN [(aa 1)]))
def Hg:Sx:=
 (sq (set 1 (af ag (aa 1) (ci (1)))) ae)
def HD:Sx:=
 (sq (wh Hw Hg) (sq (am (aj az (af ag (aa 1) (ci (0))) (cs s58)) (sq (al (aN .none)) ae) ae) (sq (am (aj cM (af ag (aa 1) (ci (0))) (cs D8)) (sq (aV d7) ae) ae) (sq (al (call nR [(aa 0),(af ag (aa 1) (ci (1)))])) ae))))
def jN:Fn:=fn [none,none,none] HD
def Lm:Tx:=(aj cJ (af ag (aa 1) (ci (0))) (ah [(cs Qt),(cs Vy)]))
def LB:Sx:=
 (sq (set 1 (af ag (aa 1) (ci (1)))) ae)
def Lr:Sx:=
 (sq (wh Lm LB) (sq (am (a7 (call mN [(aa 1)])) (sq (al (af jx (ci (8)) d7)) ae) ae) (sq (set 2 (call jN [(aa 0),(aa 1),(cs s59)])) (sq (al (dj (isNone (aa 2)) (ci (32)) (af ag (aa 2) (ci (2))))) ae))))
def tR:Fn:=fn [none,none] Lr
def P4:Sx:=
 (sq (set 2 (call jN [(aa 0),(aa 1),(cs lW)])) (sq (al (dj (isNone (aa 2)) (cs s61) (af ag (aa 2) (ci (1))))) ae))
def yX:Fn:=fn [none,none] P4
def NF:Sx:=
 (sq (am (aj az (af ag (aa 0) (ci (0))) (cs s62)) (sq (al (af ag (aa 0) (ci (1)))) ae) ae) (sq (al (ah [(aa 0)])) ae))
def v8:Fn:=fn [none] NF
def Ng:Sx:=
 (sq (aE (bm a6 aO (aa 2) (ah [(call yX [(aa 0),(aa 3)]),(call tR [(aa 0),(aa 3)])]))) ae)
def NI:Sx:=
 (sq (set 2 (aZ [])) (sq (cI (di (call v8 [(aa 1)])) [3] Ng) (sq (al (un eN (aa 2))) ae)))
def pg:Fn:=fn [none,none] NI
def Ag:Sx:=
 (sq (aE (bm a6 aO (aa 1) (ah [(af ag (af ag (aa 0) (aa 2)) (ci (0))),(aa 2)]))) ae)
def zc:Sx:=
 (sq (am (f5 [(bP (a7 (aa 3))),(aj cM (af ag (af ag (aa 3) (un ey (ci (1)))) (ci (0))) (aa 4))]) (sq (aE (bm a6 aO (aa 3) (af ag (aa 0) (aa 2)))) ae) (sq (am (aj cM (af ag (af ag (aa 3) (un ey (ci (1)))) (ci (1))) (af ag (af ag (aa 0) (aa 2)) (ci (1)))) (sq (aV d7) ae) ae) ae)) ae)
def Aw:Sx:=
 (sq (set 1 (aZ [])) (sq (cI (gO (ci (0)) (un bC (aa 0))) [2] Ag) (sq (set 3 (aZ [])) (sq (cI (di (un EO (aa 1))) [4,2] zc) (sq (al (aa 3)) ae)))))
def jw:Fn:=fn [none] Aw
def Bf:Sx:=
 (sq (am (f5 [(aj cM (un bC (af ag (aa 2) (ci (0)))) (ci (1))),(bP (isNone (af ag (aa 2) (ci (1)))))]) (sq (al (aN (.bool false))) ae) ae) (sq (am (aj cM (af ag (af ag (af ag (aa 2) (ci (0))) (ci (0))) (ci (0))) (af ag (af ag (af ag (aa 2) (ci (0))) (ci (0))) (ci (1)))) (sq (set 1 (aN (.bool true))) ae) ae) ae))
def AU:Sx:=
 (sq (set 1 (aN (.bool false))) (sq (cI (di (aa 0)) [2] Bf) (sq (al (aa 1)) ae)))
def j7:Fn:=fn [none] AU
def Hj:Tx:=(bv [(aj fz (aa 3) (un bC (aa 0))),(aj MC (af ag (af ag (af ag (af ag (aa 0) (aa 3)) (ci (0))) (ci (0))) (ci (0))) (af ag (af ag (aa 2) (ci (0))) (ci (1))))])
def Ht:Sx:=
 (sq (am (a7 d7) (sq (aV d7) ae) ae) (sq (nE 3 jl (ci (1))) ae))
def FG:Sx:=
 (sq (set 2 (af ag (af ag (aa 0) (aa 1)) (ci (0)))) (sq (set 3 (af au (aa 1) (ci (1)))) (sq (wh Hj Ht) ae)))
def Hz:Sx:=
 (sq (cI (gO (ci (0)) (un bC (aa 0))) [1] FG) ae)
def n6:Fn:=fn [none] Hz
def Na:Sx:=
 (sq (set 1 (call jw [(aa 0)])) (sq (am (a7 (call j7 [(aa 1)])) (sq (al d7) ae) ae) (sq (aE (call n6 [(aa 1)])) (sq (al (un eN (aa 1))) ae))))
def vU:Fn:=fn [none] Na
def Jw:Sx:=
 (sq (am (bP (RZ MC MC (cs Vj) (aa 3) (cs s64))) (sq (al (aN .none)) ae) ae) (sq (set 2 (af dQ (af au (af jx (aa 2) (ci (10))) (un Nn (aa 3))) (un Nn (cs Vj)))) ae))
def Kg:Sx:=
 (sq (am (f5 [(aj az (aa 0) (cs aQ)),(aj gA (un bC (aa 0)) (ci (3))),(bv [(aj az (af ag (aa 0) (ci (0))) (cs Vj)),(aj cM (aa 0) (cs Vj))])]) (sq (al (aN .none)) ae) ae) (sq (set 2 (ci (0))) (sq (cI (di (aa 0)) [3] Jw) (sq (al (dj (aj MC (aa 2) (aa 1)) (aa 2) (aN .none))) ae))))
def lJ:Fn:=fn [none,none] Kg
def T2:Sx:=
 (sq (set 4 (call lJ [(aa 3),(ci (255))])) (sq (am (isNone (aa 4)) (sq (al (aN .none)) ae) ae) (sq (set 2 (af au (af jx (aa 2) (ci (256))) (aa 4))) ae)))
def RB:Sx:=
 (sq (set 1 (bm dK Ez (aa 0) (cs uK))) (sq (am (aj cM (un bC (aa 1)) (ci (4))) (sq (al (aN .none)) ae) ae) (sq (set 2 (ci (0))) (sq (cI (di (aa 1)) [3] T2) (sq (al (aa 2)) ae)))))
def vC:Fn:=fn [none] RB
def QM:Sx:=
 (sq (al (af dQ (af Jl (ci (1)) (aa 1)) (af Jl (ci (1)) (af dQ (aa 1) (aa 0))))) ae)
def sL:Fn:=fn [none,none] QM
def Hc:Sx:=
 (sq (set 3 (af OK (aa 0) (call sL [(aa 1),(aa 2)]))) (sq (al (ah [(aa 3),(af dQ (af au (aa 3) (af Jl (ci (1)) (af dQ (aa 2) (aa 1)))) (ci (1)))])) ae))
def n8:Fn:=fn [none,none,none] Hc
def KY:Sx:=
 (sq (set 1 (bm dK Ez (aa 0) (cs Vi))) (sq (am (aj gA (un bC (aa 1)) (ci (2))) (sq (al (aN .none)) ae) ae) (sq (fu [2,3] (ah [(ci (2)),(ci (32))])) (sq (set 4 (call vC [(af ag (aa 1) (ci (0)))])) (sq (am (isNone (aa 4)) (sq (fu [2,3] (ah [(ci (10)),(ci (128))])) (sq (set 4 d7) ae)) ae) (sq (am (isNone (aa 4)) (sq (al (aN .none)) ae) ae) (sq (set 5 (dj (aj az (un bC (aa 1)) (ci (1))) (aa 3) (call lJ [(af ag (aa 1) (ci (1))),(aa 3)]))) (sq (am (isNone (aa 5)) (sq (al (aN .none)) ae) ae) (sq (al (ah [(aa 2),(af OK (aa 4) (call sL [(aa 5),(aa 3)])),(aa 5)])) ae)))))))))
def tK:Fn:=fn [none] KY
def F0:Sx:=
 (sq (set 4 (bm dK HK (cs s67) (un Ir (aa 3)))) (sq (am (f5 [(aj fz (aa 4) (ci (0))),(aj MQ (aa 4) (aa 1))]) (sq (al (aN .none)) ae) ae) (sq (set 2 (af au (af jx (aa 2) (aa 1)) (aa 4))) ae)))
def Gb:Sx:=
 (sq (am (aj az (aa 0) (cs aQ)) (sq (al (aN .none)) ae) ae) (sq (set 2 (ci (0))) (sq (cI (di (aa 0)) [3] F0) (sq (al (aa 2)) ae))))
def ft:Fn:=fn [none,none] Gb
def G4:Sx:=
 (sq (am (aj az (bF (aa 0) (aN .none) (ci (2))) (cs s68)) (sq (al (call ft [(bF (aa 0) (ci (2)) (aN .none)),(ci (16))])) ae) ae) (sq (al (call ft [(aa 0),(ci (10))])) ae))
def d6:Fn:=fn [none] G4
def IS:Sx:=
 (sq (al (ah [(ah [(cs s69),(ci (86400000))]),(ah [(cs s70),(ci (3600000))]),(ah [(cs s71),(ci (60000))]),(ah [(cs s72),(ci (1000))]),(ah [(cs s73),(ci (1))])])) ae)
def rV:Fn:=fn [] IS
def Nk:Tx:=(bv [(aj fz (aa 1) (un bC (aa 0))),(aj az (gE (aj cJ (af ag (aa 0) (aa 1)) (cs s74))) (aa 2))])
def NY:Sx:=
 (sq (nE 1 jl (ci (1))) ae)
def OU:Sx:=
 (sq (wh Nk NY) (sq (al (aa 1)) ae))
def pd:Fn:=fn [none,none,none] OU
def Lb:Sx:=
 (sq (am (aj az (af ag (af ag (aa 2) (aa 10)) (ci (0))) (bF (aa 0) (aa 6) (aa 7))) (sq (set 9 (aa 10)) ae) ae) ae)
def IG:Tx:=(aj fz (aa 5) (un bC (aa 0)))
def J7:Sx:=
 (sq (set 6 (call pd [(aa 0),(aa 5),(aN (.bool true))])) (sq (set 7 (call pd [(aa 0),(aa 6),(aN (.bool false))])) (sq (set 8 (call ft [(bF (aa 0) (aa 5) (aa 6)),(ci (10))])) (sq (set 9 (un ey (ci (1)))) (sq (cI (gO (aa 4) (un bC (aa 2))) [10] Lb) (sq (am (f5 [(isNone (aa 8)),(aj fz (aa 9) (ci (0)))]) (sq (al (aN .none)) ae) ae) (sq (nE 3 jl (af jx (aa 8) (af ag (af ag (aa 2) (aa 9)) (ci (1))))) (sq (set 4 (af au (aa 9) (ci (1)))) (sq (set 5 (aa 7)) ae)))))))))
def KD:Sx:=
 (sq (set 1 (call ft [(aa 0),(ci (10))])) (sq (am (bP (isNone (aa 1))) (sq (al (af jx (aa 1) (ci (1000)))) ae) ae) (sq (am (aj az (aa 0) (cs aQ)) (sq (al (aN .none)) ae) ae) (sq (set 2 (call rV [])) (sq (set 3 (ci (0))) (sq (set 4 (ci (0))) (sq (set 5 (ci (0))) (sq (wh IG J7) (sq (al (aa 3)) ae)))))))))
def m3:Fn:=fn [none] KD
def De:Sx:=
 (sq (set 3 (af ag (aa 0) (ci (2)))) (sq (am (aj cJ (aa 2) (af ag (aa 0) (ci (3)))) (sq (set 4 (af ag (af ag (aa 0) (ci (3))) (aa 2))) ae) (sq (am (aj az (aa 3) (cs Zz)) (sq (set 4 (call vC [(aa 2)])) ae) (sq (am (aj az (aa 3) (cs s1)) (sq (set 4 d7) ae) (sq (am (aj az (aa 3) (cs s76)) (sq (set 4 d7) ae) (sq (am (aj az (aa 3) (cs s77)) (sq (set 4 d7) ae) (sq (am (aj az (aa 3) (cs s78)) (sq (set 4 (call m3 [(aa 2)])) ae) (sq (am (aj az (aa 3) (cs Qt)) (sq (set 4 d7) ae) (sq (set 4 (call d6 [(aa 2)])) ae)) ae)) ae)) ae)) ae)) ae)) ae)) (sq (am (bv [(bP (isNone (aa 4))),(aj cM (af TG (aa 4) (aa 1)) (ci (0)))]) (sq (al (un ey (ci (1)))) ae) ae) (sq (al (aa 4)) ae))))
def eU:Fn:=fn [none,none,none] De
def Gg:Sx:=
 (sq (set 3 (call tK [(aa 2)])) (sq (am (f5 [(isNone (aa 3)),(aj cM (gE (aj az (af ag (aa 3) (ci (0))) (ci (2)))) (gE (aj az (aa 0) (cs Zz))))]) (sq (al (aN .none)) ae) ae) (sq (al (call n8 [(af ag (aa 3) (ci (1))),(af ag (aa 3) (ci (2))),(aa 1)])) ae)))
def mC:Fn:=fn [none,none,none] Gg
def KW:Sx:=
 (sq (am (aj az (af ag (aa 2) (aa 3)) (cs GZ)) (sq (set 4 (call eU [(aa 0),(aa 1),(bF (aa 2) (aN .none) (aa 3))])) (sq (set 5 (call eU [(aa 0),(aa 1),(bF (aa 2) (af au (aa 3) (ci (1))) (aN .none))])) (sq (am (bv [(bP (isNone (aa 4))),(bP (isNone (aa 5)))]) (sq (am (f5 [(aj fz (aa 4) (ci (0))),(aj fz (aa 5) (ci (0)))]) (sq (al (un ey (ci (1)))) ae) ae) (sq (am (aj gA (aa 4) (aa 5)) (sq (al (aN .none)) ae) ae) (sq (al (ah [(aa 4),(aa 5)])) ae))) ae) ae))) ae) ae)
def K2:Sx:=
 (sq (cI (gO (ci (0)) (un bC (aa 2))) [3] KW) (sq (al (aN .none)) ae))
def tV:Fn:=fn [none,none,none] K2
def Gp:Sx:=
 (sq (set 3 (af ag (aa 0) (ci (2)))) (sq (set 4 (aN .none)) (sq (am (aj az (aa 3) (cs s77)) (sq (set 4 d7) ae) (sq (am (bv [(aj cJ (cs Vi) (aa 2)),(f5 [(aj az (aa 3) (cs Zz)),(aj az (aa 3) (cs s1))])]) (sq (set 4 (call mC [(aa 3),(aa 1),(aa 2)])) ae) ae) ae)) (sq (am (bP (isNone (aa 4))) (sq (al (aa 4)) ae) ae) (sq (set 5 (call eU [(aa 0),(aa 1),(aa 2)])) (sq (am (isNone (aa 5)) (sq (al (call tV [(aa 0),(aa 1),(aa 2)])) ae) ae) (sq (am (aj fz (aa 5) (ci (0))) (sq (al (un ey (ci (1)))) ae) ae) (sq (al (ah [(aa 5),(aa 5)])) ae))))))))
def mF:Fn:=fn [none,none,none] Gp
def Gv:Sx:=
 (sq (al (gE (aj cJ (aa 0) (cs VT)))) ae)
def ev:Fn:=fn [none] Gv
def si:Tx:=(bv [(aj fz (aa 1) (un bC (aa 0))),(a7 (call ev [(af ag (aa 0) (aa 1))]))])
def xU:Sx:=
 (sq (nE 1 jl (ci (1))) ae)
def QF:Sx:=
 (sq (wh si xU) (sq (al (aa 1)) ae))
def sD:Fn:=fn [none,none] QF
def lg:Tx:=(bv [(aj fz (aa 4) (un bC (aa 0))),(aj cM (af ag (aa 0) (aa 4)) (cs bX))])
def lq:Sx:=
 (sq (am (aj az (af ag (aa 0) (aa 4)) (cs s82)) (sq (al (af au (aa 4) (ci (1)))) ae) ae) (sq (nE 4 jl (ci (1))) ae))
def Kf:Sx:=
 (sq (set 4 (af au (aa 1) (ci (1)))) (sq (wh lg lq) (sq (aV (Ca [(cs s83),(aa 2),(aa 3)])) ae)))
def kR:Fn:=fn [none,none,none,none] Kf
def PZ:Sx:=
 (sq (am (bv [(aj az (af ag (aa 1) (ci (0))) (cs jE)),(aj cM (bF (aa 1) (aN .none) (ci (2))) (cs s85))]) (sq (aE (bm a6 aO (aa 0) (ah [(cs fY),(cs jE),(aa 2),(aa 3)]))) (sq (set 1 (bF (aa 1) (ci (1)) (aN .none))) (sq (nE 3 jl (ci (1))) ae))) ae) (sq (set 4 (gE (bv [(aj az (bF (aa 1) (un ey (ci (1))) (aN .none)) (cs jE)),(aj cM (bF (aa 1) (un ey (ci (2))) (aN .none)) (cs s85))]))) (sq (am (a7 (aa 4)) (sq (set 1 (bF (aa 1) (aN .none) (un ey (ci (1))))) ae) ae) (sq (am (f5 [(aj az (aa 1) (cs uK)),(aj az (aa 1) (cs Vi))]) (sq (aE (bm a6 aO (aa 0) (ah [(cs fY),(aa 1),(aa 2),(aa 3)]))) ae) (sq (am (aj cM (aa 1) (cs aQ)) (sq (aE (bm a6 aO (aa 0) (ah [(cs iR),(aa 1),(aa 2),(aa 3)]))) ae) ae) ae)) (sq (am (a7 (aa 4)) (sq (aE (bm a6 aO (aa 0) (ah [(cs fY),(cs jE),(aa 2),(af au (aa 3) (un bC (aa 1)))]))) ae) ae) ae)))))
def nu:Fn:=fn [none,none,none,none] PZ
def HA:Tx:=(bv [(aj fz (aa 7) (un bC (aa 0))),(aj cM (af ag (aa 0) (aa 7)) (cs bX))])
def G6:Sx:=
 (sq (nE 7 jl (ci (1))) ae)
def gy:Tx:=(aj fz (aa 2) (un bC (aa 0)))
def AG:List (Tx×Sx):=[
 ((aj az (aa 5) (cs bX)),(sq (aE (bm a6 aO (aa 1) (ah [(cs fE),(aa 5),(aa 3),(aa 6)]))) (sq (nE 3 jl (ci (1))) (sq (set 4 (aa 7)) ae)))),
 ((aj az (aa 5) (cs iT)),(sq (aE (bm a6 aO (aa 1) (ah [(cs fE),(aa 5),(aa 3),(aa 6)]))) ae)),
 ((aj az (aa 5) (cs s90)),(sq (wh HA G6) ae)),
 ((bv [(aj az (aa 5) (cs s91)),(aj az (bF (aa 0) (aa 7) (af au (aa 7) (ci (1)))) (cs bX))]),(sq (nE 7 jl (ci (1))) (sq (nE 3 jl (ci (1))) (sq (set 4 (aa 7)) ae)))),
 ((aj az (aa 5) (cs s82)),(sq (set 7 (call kR [(aa 0),(aa 2),(aa 3),(aa 6)])) (sq (aE (bm a6 aO (aa 1) (ah [(cs jL),(bF (aa 0) (af au (aa 2) (ci (1))) (af dQ (aa 7) (ci (1)))),(aa 3),(aa 6)]))) ae))),
 ((a7 (call ev [(aa 5)])),(sq (set 7 (call sD [(aa 0),(aa 2)])) (sq (aE (call nu [(aa 1),(bF (aa 0) (aa 2) (aa 7)),(aa 3),(aa 6)])) ae))),
 ((aj cJ (bF (aa 0) (aa 2) (af au (aa 2) (ci (2)))) (ah [(cs Ik),(cs CA),(cs V5),(cs Vp),(cs Vm),(cs VG)])),(sq (set 7 (af au (aa 2) (ci (2)))) (sq (aE (bm a6 aO (aa 1) (ah [(cs fY),(bF (aa 0) (aa 2) (aa 7)),(aa 3),(aa 6)]))) ae))),
 ((aj cJ (aa 5) (cs VC)),(sq (aE (bm a6 aO (aa 1) (ah [(cs fY),(aa 5),(aa 3),(aa 6)]))) ae)),
 ((aj gn (aa 5) (cs s98)),(sq (aV (Ca [(af au (af au (cs s99) (aa 5)) (cs Cl)),(aa 3),(aa 6)])) ae))]
def i7:Sx:=
 (sq (set 5 (af ag (aa 0) (aa 2))) (sq (set 6 (af au (af dQ (aa 2) (aa 4)) (ci (1)))) (sq (set 7 (af au (aa 2) (ci (1)))) (sq (kS AG) (sq (set 2 (aa 7)) ae)))))
def wH:Sx:=
 (sq (set 1 (aZ [])) (sq (set 2 (ci (0))) (sq (set 3 (ci (1))) (sq (set 4 (ci (0))) (sq (wh gy i7) (sq (aE (bm a6 aO (aa 1) (ah [(cs vJ),(cs aQ),(aa 3),(af au (af dQ (aa 2) (aa 4)) (ci (1)))]))) (sq (al (aa 1)) ae)))))))
def b8:Fn:=fn [none] wH
def G9:Sx:=
 (sq (am (aj az (af ag (aa 0) (ci (0))) (cs vJ)) (sq (al (cs s102)) ae) ae) (sq (am (aj az (af ag (aa 0) (ci (0))) (cs fE)) (sq (am (aj az (af ag (aa 0) (ci (1))) (cs bX)) (sq (al (cs s103)) ae) ae) (sq (al (cs iT)) ae)) ae) (sq (al (af au (af au (cs Cl) (af ag (aa 0) (ci (1)))) (cs Cl))) ae)))
def nV:Fn:=fn [none] G9
def IH:Sx:=
 (sq (set 2 (af au (af au (af au (cs s104) (call nV [(aa 0)])) (cs s105)) (aa 1))) (sq (al (Ca [(aa 2),(af ag (aa 0) (ci (2))),(af ag (aa 0) (ci (3)))])) ae))
def qh:Fn:=fn [none,none] IH
def JN:Sx:=
 (sq (set 2 (af au (un (bp 1) (aa 0)) (aa 1))) (sq (am (aj MQ (aa 2) (un bC (un (bp 0) (aa 0)))) (sq (set 2 (af dQ (un bC (un (bp 0) (aa 0))) (ci (1)))) ae) ae) (sq (al (af ag (un (bp 0) (aa 0)) (aa 2))) ae)))
def pK:Fn:=fn [none,(some (.int (.ofNat (0))))] JN
def bo:Fn:=Ia
def OM:Sx:=
 (sq (al (call qh [(aw bo (aa 0) []),(aa 1)])) ae)
def a8:Fn:=fn [none,none] OM
def Zc:Sx:=
 (sq (set 1 (aw bo (aa 0) [])) (sq (Pp (aa 0)) (sq (al (aa 1)) ae)))
def bb:Fn:=fn [none] Zc
def QJ:Sx:=
 (sq (set 2 (aw bo (aa 0) [])) (sq (al (gE (bv [(aj az (af ag (aa 2) (ci (0))) (cs fY)),(aj az (af ag (aa 2) (ci (1))) (aa 1))]))) ae))
def bR:Fn:=fn [none,none] QJ
def PJ:Sx:=
 (sq (set 2 (aw bo (aa 0) [])) (sq (al (gE (bv [(aj az (af ag (aa 2) (ci (0))) (cs iR)),(aj az (af ag (aa 2) (ci (1))) (aa 1))]))) ae))
def bq:Fn:=fn [none,none] PJ
def KR:Sx:=
 (sq (am (bP (a7 (aw bR (aa 0) [(aa 1)]))) (sq (al (aN (.bool false))) ae) ae) (sq (Pp (aa 0)) (sq (al (aN (.bool true))) ae)))
def bB:Fn:=fn [none,none] KR
def KV:Sx:=
 (sq (am (bP (a7 (aw bB (aa 0) [(aa 1)]))) (sq (aV (call a8 [(aa 0),(af au (af au (cs Cl) (aa 1)) (cs Cl))])) ae) ae) ae)
def bY:Fn:=fn [none,none] KV
def Lo:Sx:=
 (sq (am (aj cM (af ag (aw bo (aa 0) []) (ci (0))) (cs iR)) (sq (aV (call a8 [(aa 0),(cs jL)])) ae) ae) (sq (al (af ag (aw bb (aa 0) []) (ci (1)))) ae))
def jG:Fn:=fn [none] Lo
def K1:Tx:=(bv [(aj az (af ag (aw bo (aa 0) []) (ci (0))) (cs fE)),(aj az (af ag (aw bo (aa 0) []) (ci (1))) (cs bX))])
def KS:Sx:=
 (sq (Pp (aa 0)) ae)
def Ls:Sx:=
 (sq (wh K1 KS) ae)
def fh:Fn:=fn [none] Ls
def YF:Sx:=
 (sq (set 2 (aw bo (aa 0) [])) (sq (al (Ca [(aa 1),(af ag (aa 2) (ci (2))),(af ag (aa 2) (ci (3)))])) ae))
def de:Fn:=fn [none,none] YF
def HB:Sx:=
 (sq (set 1 (aw bo (aa 0) [])) (sq (set 2 (aN .none)) (sq (am (aj az (af ag (aa 1) (ci (0))) (cs iR)) (sq (set 2 (call d6 [(af ag (aa 1) (ci (1)))])) ae) ae) (sq (am (isNone (aa 2)) (sq (aV (call a8 [(aa 0),(cs ZS)])) ae) ae) (sq (aE (aw bb (aa 0) [])) (sq (al (aa 2)) ae))))))
def dp:Fn:=fn [none] HB
def QZ:Sx:=
 (sq (am (bP (a7 (aw bq (aa 0) [(aa 1)]))) (sq (aV (call a8 [(aa 0),(aa 1)])) ae) ae) (sq (aE (aw bb (aa 0) [])) ae))
def c7:Fn:=fn [none,none] QZ
def Lf:Sx:=
 (sq (set 2 (aw bo (aa 0) [])) (sq (am (aj az (af ag (aa 2) (ci (0))) (cs iR)) (sq (set 3 (call d6 [(af ag (aa 2) (ci (1)))])) (sq (am (bv [(bP (isNone (aa 3))),(aj gA (aa 3) (aa 1))]) (sq (aV d7) ae) ae) ae)) ae) (sq (al (call dp [(aa 0)])) ae)))
def fg:Fn:=fn [none,none] Lf
def K6:Sx:=
 (sq (am (aj gn (af ag (aw bo (aa 0) []) (ci (0))) (ah [(cs jL),(cs iR)])) (sq (aV (call a8 [(aa 0),(cs jL)])) ae) ae) (sq (al (af ag (aw bb (aa 0) []) (ci (1)))) ae))
def hY:Fn:=fn [none] K6
def E0:Sx:=
 (sq (aE (aw bb (aa 0) [])) (sq (am (aj gA (un bC (af ag (aw bo (aa 0) []) (ci (1)))) (ci (128))) (sq (aV (aw de (aa 0) [(cs s107)])) ae) ae) (sq (al (call hY [(aa 0)])) ae)))
def i1:Fn:=fn [none] E0
def KH:Sx:=
 (sq (set 1 (aw bo (aa 0) [])) (sq (set 2 (dj (aj az (af ag (aa 1) (ci (0))) (cs iR)) (call m3 [(af ag (aa 1) (ci (1)))]) (aN .none))) (sq (am (isNone (aa 2)) (sq (aV (call a8 [(aa 0),(cs s78)])) ae) ae) (sq (aE (aw bb (aa 0) [])) (sq (al (aa 2)) ae)))))
def jC:Fn:=fn [none] KH
def K0:Sx:=
 (sq (am (aj gn (aa 1) (un (bp 7) (un (bp 2) (aa 0)))) (sq (aV d7) ae) ae) (sq (al (af ag (un (bp 7) (un (bp 2) (aa 0))) (aa 1))) ae))
def hK:Fn:=fn [none,none] K0
def Gi:Sx:=
 (sq (al (gE (aj az (af ag (call hK [(aa 0),(af ag (aa 1) (ci (0)))]) (ci (2))) (cs Qt)))) ae)
def i8:Fn:=fn [none,none] Gi
def OQ:Sx:=
 (sq (am (isNone (aa 3)) (sq (aV (aw de (aa 0) [d7])) ae) ae) (sq (am (aj az (aa 3) (un ey (ci (1)))) (sq (aV d7) ae) ae) (sq (al (aa 3)) ae)))
def pi:Fn:=fn [none,none,none,none] OQ
def Fi:Sx:=
 (sq (al (call pi [(aa 0),(aa 1),(aa 2),(call mF [(call hK [(aa 0),(af ag (aa 1) (ci (0)))]),(af ag (aa 1) (ci (1))),(aa 2)])])) ae)
def mx:Fn:=fn [none,none,none] Fi
def EH:Sx:=
 (sq (al (call pi [(aa 0),(aa 1),(aa 2),(call eU [(call hK [(aa 0),(af ag (aa 1) (ci (0)))]),(af ag (aa 1) (ci (1))),(aa 2)])])) ae)
def iz:Fn:=fn [none,none,none] EH
def KF:Sx:=
 (sq (set 3 (aw bo (aa 0) [])) (sq (am (aj gn (af ag (aa 3) (ci (0))) (ah [(cs iR),(cs jL)])) (sq (aV (call a8 [(aa 0),(cs Y8)])) ae) ae) (sq (set 4 (call iz [(aa 0),(aa 1),(af ag (aa 3) (ci (1)))])) (sq (am (aj fz (aa 4) (aa 2)) (sq (aV (aw de (aa 0) [(cs s109)])) ae) ae) (sq (aE (aw bb (aa 0) [])) (sq (al (aa 4)) ae))))))
def m8:Fn:=fn [none,none,none] KF
def Iu:Sx:=
 (sq (al (call m8 [(aa 0),(aa 1),(ci (0))])) ae)
def gq:Fn:=fn [none,none] Iu
def KT:Sx:=
 (sq (set 2 (aw bo (aa 0) [])) (sq (am (aj gn (af ag (aa 2) (ci (0))) (ah [(cs iR),(cs jL)])) (sq (aV (call a8 [(aa 0),(cs Y8)])) ae) ae) (sq (set 3 (gE (bv [(aj az (af ag (call hK [(aa 0),(af ag (aa 1) (ci (0)))]) (ci (2))) (cs s77)),(aj az (bF (af ag (aa 2) (ci (1))) (un ey (ci (1))) (aN .none)) (cs s110))]))) (sq (am (f5 [(aj az (af ag (aa 2) (ci (0))) (cs iR)),(a7 (aa 3))]) (sq (set 4 (call mx [(aa 0),(aa 1),(af ag (aa 2) (ci (1)))])) ae) (sq (set 5 (call iz [(aa 0),(aa 1),(af ag (aa 2) (ci (1)))])) (sq (set 4 (ah [(aa 5),(aa 5)])) ae))) (sq (aE (aw bb (aa 0) [])) (sq (am (bv [(aj az (af ag (aa 2) (ci (0))) (cs jL)),(bP (a7 (aa 3))),(a7 (aw bq (aa 0) [(cs GZ)])),(aj az (af ag (aw bo (aa 0) [(ci (1))]) (ci (0))) (cs jL))]) (sq (aE (aw bb (aa 0) [])) (sq (set 4 (ah [(af ag (aa 4) (ci (0))),(call m8 [(aa 0),(aa 1),(af ag (aa 4) (ci (0)))])])) ae)) ae) (sq (al (aa 4)) ae)))))))
def mZ:Fn:=fn [none,none] KT
def R9:Tx:=(a7 (aw bB (aa 0) [(cs RD)]))
def Ud:Sx:=
 (sq (set 2 d7) ae)
def Sz:Sx:=
 (sq (am (a7 (call i8 [(aa 0),(aa 1)])) (sq (wh R9 Ud) ae) ae) (sq (al (aa 2)) ae))
def vn:Fn:=fn [none,none,none] Sz
def KA:Tx:=(bv [(aj fz (un bC (aa 1)) (ci (4))),(aj az (af ag (aw bo (aa 0) [(un bC (aa 1))]) (ci (0))) (cs iR))])
def JK:Sx:=
 (sq (aE (bm a6 aO (aa 1) (af ag (aw bo (aa 0) [(un bC (aa 1))]) (ci (1))))) ae)
def HC:Tx:=(aj gA (aa 3) (ci (0)))
def Ha:Sx:=
 (sq (set 4 (bm dK eV (cs eI) (bF (aa 1) (aN .none) (aa 3)))) (sq (am (aj cJ (aa 4) (aa 2)) (sq (al (ah [(aa 4),(aa 3)])) ae) ae) (sq (nE 3 dQ (ci (1))) ae)))
def J1:Sx:=
 (sq (set 1 (aZ [])) (sq (wh KA JK) (sq (set 2 (un (bp 6) (un (bp 2) (aa 0)))) (sq (set 3 (un bC (aa 1))) (sq (wh HC Ha) (sq (am (bv [(aj gA (un bC (aa 1)) (ci (0))),(aj cJ (af ag (aa 1) (ci (0))) (ah [(cs s113),(cs s114),(cs s115),(cs s116),(cs s61)]))]) (sq (set 4 (af au (cs s117) (af ag (aa 1) (ci (0))))) (sq (am (aj cJ (aa 4) (aa 2)) (sq (al (ah [(aa 4),(ci (1))])) ae) ae) ae)) ae) (sq (al (aN .none)) ae)))))))
def lO:Fn:=fn [none] J1
def IB:Sx:=
 (sq (aE (aw bb (aa 0) [])) ae)
def Jd:Sx:=
 (sq (set 1 (call lO [(aa 0)])) (sq (am (isNone (aa 1)) (sq (al (aN .none)) ae) ae) (sq (cI (gO (ci (0)) (af ag (aa 1) (ci (1)))) [2] IB) (sq (al (ah [(cs D8),(af ag (aa 1) (ci (0)))])) ae))))
def qn:Fn:=fn [none] Jd
def Hp:Sx:=
 (sq (al (gE (f5 [(EY (aw bq (aa 0) [(cs Y4)])),(bP (isNone (call lO [(aa 0)])))]))) ae)
def nQ:Fn:=fn [none] Hp
def RV:Tx:=(bv [(aj az (af ag (aw bo (aa 0) []) (ci (0))) (cs fY)),(aj cJ (af ag (aw bo (aa 0) []) (ci (1))) (aa 2))])
def S9:Sx:=
 (sq (nE 3 jl (ci (1))) (sq (am (aj gA (aa 3) (ci (32))) (sq (aV (aw de (aa 0) [(cs s121)])) ae) ae) (sq (set 4 (af ag (aa 2) (af ag (aw bb (aa 0) []) (ci (1))))) (sq (set 5 (af ag (call pg [(un (bp 6) (un (bp 2) (aa 0))),(aa 1)]) (ci (0)))) (sq (am (aj cJ (aa 4) (ah [(cs YX),(cs Vy)])) (sq (set 6 (call fg [(aa 0),(ci (127))])) ae) (sq (am (a7 (aw bR (aa 0) [(cs s122)])) (sq (set 6 d7) ae) (sq (set 6 (call gq [(aa 0),(aa 5)])) ae)) ae)) (sq (set 1 (ah [(aa 4),(aa 1),(aa 6)])) ae))))))
def Uc:Sx:=
 (sq (set 2 (mH [(cs s119),(cs Qt),(cs RD),(cs s54),(cs s120),(cs s55),(cs Vm),(cs YX),(cs VG),(cs Vy)])) (sq (set 3 (ci (0))) (sq (wh RV S9) (sq (al (aa 1)) ae))))
def vj:Fn:=fn [none,none] Uc
def JV:Sx:=
 (sq (am (a7 (aw bq (aa 0) [(cs Y4)])) (sq (al (call vj [(aa 0),d7])) ae) ae) (sq (set 1 (call qn [(aa 0)])) (sq (am (isNone (aa 1)) (sq (aV (call a8 [(aa 0),(cs s123)])) ae) ae) (sq (al (call vj [(aa 0),(aa 1)])) ae))))
def kK:Fn:=fn [none] JV
def KJ:Tx:=(a7 (aw bB (aa 0) [(cs uK)]))
def Lj:Sx:=
 (sq (aE (bm a6 aO (aa 1) (call kK [(aa 0)]))) ae)
def KU:Sx:=
 (sq (set 1 (aZ [(call kK [(aa 0)])])) (sq (wh KJ Lj) (sq (am (aj az (un bC (aa 1)) (ci (1))) (sq (al (af ag (aa 1) (ci (0)))) ae) ae) (sq (al (ah [(cs s62),(un eN (aa 1))])) ae))))
def uc:Fn:=fn [none] KU
def Fd:Sx:=
 (sq (set 1 (aw bo (aa 0) [])) (sq (am (aj cM (af ag (aa 1) (ci (0))) (cs iR)) (sq (al (aN .none)) ae) ae) (sq (am (aj cJ (af ag (aa 1) (ci (1))) (ah [(cs qd),(cs nH),(cs TN),(cs ME)])) (sq (aE (aw bb (aa 0) [])) (sq (al (ah [(af ag (aa 1) (ci (1))),(cs aQ)])) ae)) ae) (sq (am (aj cJ (af ag (aa 1) (ci (1))) (ah [(cs Kq),(cs BX)])) (sq (aE (aw bb (aa 0) [])) (sq (al (ah [(af ag (aa 1) (ci (1))),(aw jG (aa 0) [])])) ae)) ae) (sq (al (aN .none)) ae)))))
def iW:Fn:=fn [none] Fd
def Nf:Sx:=
 (sq (am (aj gA (un bC (aa 2)) (ci (0))) (sq (aE (aw bY (aa 0) [(cs uK)])) ae) ae) (sq (fu [4,5] (call mZ [(aa 0),(aa 3)])) (sq (am (aj az (aa 4) (aa 5)) (sq (set 4 (call vn [(aa 0),(aa 3),(aa 4)])) (sq (set 5 (aa 4)) ae)) ae) (sq (aE (bm a6 aO (aa 2) (ah [(aa 4),(aa 5)]))) ae))))
def Op:Sx:=
 (sq (set 2 (aZ [])) (sq (cI (di (aa 1)) [3] Nf) (sq (al (un eN (aa 2))) ae)))
def kM:Fn:=fn [none,none] Op
def Ku:Sx:=
 (sq (am (bv [(aj gA (un bC (aa 4)) (ci (0))),(bP (a7 (aa 2))),(bP (a7 (aw bR (aa 0) [(cs uK)])))]) (sq brk ae) ae) (sq (am (aj gA (un bC (aa 4)) (ci (0))) (sq (aE (aw bY (aa 0) [(cs uK)])) ae) ae) (sq (aE (bm a6 aO (aa 4) (call vn [(aa 0),(aa 5),(call gq [(aa 0),(aa 5)])]))) ae)))
def Ko:Sx:=
 (sq (am (aj az (aa 1) (cs iV)) (sq (set 3 (call iW [(aa 0)])) (sq (am (isNone (aa 3)) (sq (aV (call a8 [(aa 0),(cs iV)])) ae) ae) (sq (al (aa 3)) ae))) ae) (sq (set 4 (aZ [])) (sq (cI (di (aa 1)) [5] Ku) (sq (al (un eN (aa 4))) ae))))
def qs:Fn:=fn [none,none,none] Ko
def BW:Sx:=(set 4 (call kM [(aa 0),(aa 1)]))
def qE:Sx:=(set 5 (ci (0)))
def pX:Sx:=(set 6 (cs aQ))
def zf:Sx:=(aE (aw bb (aa 0) []))
def xY:Sx:=(set 5 (call jC [(aa 0)]))
def qr:Sx:=(am (a7 (aw bq (aa 0) [(cs eu)])) (sq zf (sq xY ae)) ae)
def yR:Sx:=(set 6 (call i1 [(aa 0)]))
def rC:Sx:=(am (a7 (aw bq (aa 0) [(cs Nb)])) (sq yR ae) ae)
def xR:Sx:=(al (ah [(aa 4),(aN .none),(aa 5),(aa 6)]))
def rS:Sx:=(am (isNone (aa 2)) (sq xR ae) ae)
def qj:Sx:=(aE (aw bY (aa 0) [(cs jE)]))
def pT:Sx:=(al (ah [(aa 4),(call qs [(aa 0),(aa 2),(aa 3)]),(aa 5),(aa 6)]))
def F1:Sx:=
 (sq BW (sq qE (sq pX (sq qr (sq rC (sq rS (sq qj (sq pT ae))))))))
def gw:Fn:=fn [none,none,none,none] F1
def sC:Sx:=(aE (aw bY (aa 0) [(cs cH)]))
def sA:Sx:=(aE (aw fh (aa 0) []))
def sR:Sx:=(set 4 (aZ []))
def wY:Sx:=(aE (bm a6 fm (aa 4) d7))
def w3:Sx:=(aE (bm a6 aO (aa 4) (call gw [(aa 0),(aa 1),(aa 2),(aa 3)])))
def AA:Sx:=(am (a7 (aw bR (aa 0) [(cs cH)])) (sq wY ae) (sq w3 ae))
def d0:Sx:=(aE (aw fh (aa 0) []))
def xf:Sx:=brk
def d5:Sx:=(am (bP (a7 (aw bB (aa 0) [(cs gb)]))) (sq xf ae) ae)
def dY:Sx:=(aE (aw fh (aa 0) []))
def jQ:Tx:=(bP (a7 (aw bR (aa 0) [(cs cV)])))
def hJ:Sx:=
 (sq AA (sq d0 (sq d5 (sq dY ae))))
def kW:Sx:=(wh jQ hJ)
def sv:Sx:=(aE (aw bY (aa 0) [(cs cV)]))
def sB:Sx:=(al (un eN (aa 4)))
def He:Sx:=
 (sq sC (sq sA (sq sR (sq kW (sq sv (sq sB ae))))))
def gY:Fn:=fn [none,none,none,none] He
def Cx:Sx:=
 (sq (al (call gY [(aa 0),(aa 1),(aa 2),(aN (.bool true))])) ae)
def c9:Fn:=fn [none,none,none] Cx
def Dm:Sx:=
 (sq (al (call vU [(call gY [(aa 0),(aa 1),(aa 2),(aN (.bool false))])])) ae)
def ir:Fn:=fn [none,none,none] Dm
def Lu:Sx:=
 (sq (aE (aw bY (aa 0) [(cs NH)])) (sq (al (aw jG (aa 0) [])) ae))
def mU:Fn:=fn [none] Lu
def I0:Tx:=(f5 [(a7 (aw bB (aa 0) [(cs gb)])),(a7 (aw bB (aa 0) [(cs RD)]))])
def Ix:Sx:=
 (sq (set 4 d7) ae)
def Iw:Sx:=
 (sq (am (a7 (aw bR (aa 0) [(cs NH)])) (sq (al (ah [(cs VV),(call mU [(aa 0)])])) ae) ae) (sq (am (a7 (aw bR (aa 0) [(cs cH)])) (sq (al (ah [(cs dO),(call ir [(aa 0),(aa 1),(aN .none)])])) ae) ae) (sq (am (aj gA (un bC (aa 1)) (ci (1))) (sq (aV (call a8 [(aa 0),(cs dO)])) ae) ae) (sq (set 3 (af ag (aa 1) (ci (0)))) (sq (am (bv [(a7 (aa 2)),(a7 (aw bR (aa 0) [(cs s122)]))]) (sq (al (ah [(cs QC),d7])) ae) ae) (sq (fu [4,5] (call mZ [(aa 0),(aa 3)])) (sq (am (aj fz (aa 4) (aa 5)) (sq (al (ah [(cs s133),(aa 4),(aa 5)])) ae) ae) (sq (am (a7 (aa 2)) (sq (wh I0 Ix) ae) ae) (sq (al (ah [(cs QC),(aa 4)])) ae)))))))))
def rT:Fn:=fn [none,none,none] Iw
def Kb:Sx:=
 (sq (am (a7 (aw bR (aa 0) [(cs NH)])) (sq (al (ah [(cs VV),(call mU [(aa 0)])])) ae) ae) (sq (al (ah [(cs fS),(call ir [(aa 0),(aa 1),(aa 2)])])) ae))
def rx:Fn:=fn [none,none,none] Kb
def Qy:Sx:=
 (sq (am (a7 (aw bB (aa 0) [(aa 1)])) (sq (al (aa 1)) ae) ae) ae)
def Qx:Sx:=
 (sq (cI (di (ah [(cs Ik),(cs CA),(cs V5),(cs Vp),(cs s134),(cs s135)])) [1] Qy) (sq (am (a7 (aw bB (aa 0) [(cs s136)])) (sq (al (cs s137)) ae) ae) (sq (al (cs aQ)) ae)))
def yT:Fn:=fn [none] Qx
def CO:Sx:=
 (sq (al (gE (bv [(EY (aw bq (aa 0) [(cs N0)])),(aj az (af ag (aw bo (aa 0) [(ci (1))]) (ci (0))) (cs iR)),(aj az (af ag (aw bo (aa 0) [(ci (1))]) (ci (1))) (cs il))]))) ae)
def iA:Fn:=fn [none] CO
def IW:Sx:=
 (sq (am (a7 (call iA [(aa 0)])) (sq (aE (aw bb (aa 0) [])) (sq (aE (aw bb (aa 0) [])) (sq (aE (call c7 [(aa 0),(cs dO)])) (sq (al (ah [(cs s140),(call hY [(aa 0)])])) ae)))) ae) (sq (set 1 (call uc [(aa 0)])) (sq (set 2 (call pg [(un (bp 6) (un (bp 2) (aa 0))),(aa 1)])) (sq (am (a7 (aw bq (aa 0) [(cs PI)])) (sq (aE (aw bb (aa 0) [])) (sq (al (ah [(cs PI),(aa 1),(call rx [(aa 0),(aa 2),(cs iV)])])) ae)) ae) (sq (am (bv [(aj az (af ag (aa 1) (ci (0))) (cs D8)),(a7 (aw bq (aa 0) [(cs dO)]))]) (sq (aE (aw bb (aa 0) [])) (sq (al (ah [(cs dO),(af ag (aa 1) (ci (1))),d7])) ae)) ae) (sq (set 3 (gE (bv [(aj az (un bC (aa 2)) (ci (1))),(EY (call i8 [(aa 0),(af ag (aa 2) (ci (0)))]))]))) (sq (set 4 (call yT [(aa 0)])) (sq (set 5 (call rT [(aa 0),(aa 2),(aa 3)])) (sq (am (aj az (aa 4) (cs aQ)) (sq (set 4 (dj (bv [(a7 (aa 3)),(aj az (af ag (aa 5) (ci (0))) (cs QC))]) (cs s141) (cs Ik))) ae) ae) (sq (al (ah [(cs QV),(aa 1),(aa 4),(aa 5)])) ae))))))))))
def qN:Fn:=fn [none] IW
def Bc:Sx:=
 (sq (al (ah [(cs iV),(call iW [(aa 0)])])) ae)
def j2:Fn:=fn [none] Bc
def Dc:Sx:=
 (sq (dF (aa 0) (aa 1) (aN .fn)) ae)
def Dp:Sx:=
 (sq (set 0 (mH [])) (sq (cI (di (ah [(cs qd),(cs nH),(cs TN),(cs ME),(cs Kq),(cs BX)])) [1] Dc) (sq (al (aa 0)) ae)))
def lK:Fn:=fn [] Dp
def Lc:Sx:=
 (sq (set 2 (bF (aZ [(cs ER),(cs s143),(cs s144),(cs s145)]) (aN .none) (aa 1))) (sq (al (dj (aj cJ (aa 0) (aa 2)) (af ig (ci (1024)) (bm a6 JL (aa 2) (aa 0))) (ci (0)))) ae))
def mO:Fn:=fn [none,none] Lc
def XN:Sx:=
 (sq (am (aj MQ (af jx (aa 1) (aa 2)) (af ig (ci (2)) (ci (64)))) (sq (aV d7) ae) ae) (sq (al (af jx (aa 1) (aa 2))) ae))
def zH:Fn:=fn [none,none,none] XN
def K5:Sx:=
 (sq (set 2 (call fg [(aa 0),(af dQ (af ig (ci (2)) (ci (64))) (ci (1)))])) (sq (set 3 (aw bo (aa 0) [])) (sq (set 4 (dj (aj az (af ag (aa 3) (ci (0))) (cs iR)) (call mO [(af ag (aa 3) (ci (1))),(aa 1)]) (ci (0)))) (sq (am (aj az (aa 4) (ci (0))) (sq (aV (call a8 [(aa 0),(dj (aj az (aa 1) (ci (3))) (cs s146) (cs s147))])) ae) ae) (sq (set 5 (call zH [(aa 0),(aa 2),(aa 4)])) (sq (aE (aw bb (aa 0) [])) (sq (al (aa 5)) ae)))))))
def hM:Fn:=fn [none,(some (.int (.ofNat (4))))] K5
def Ly:Sx:=
 (sq (set 1 (aw bq (aa 0) [(cs s148)])) (sq (am (f5 [(a7 (aa 1)),(a7 (aw bq (aa 0) [(cs s149)]))]) (sq (aE (aw bb (aa 0) [])) ae) ae) (sq (al (aa 1)) ae)))
def mV:Fn:=fn [none] Ly
def xt:Sx:=
 (sq (am (bP (a7 (aw bq (aa 0) [(cs TC)]))) (sq (al (ah [(ci (0)),(ci (0))])) ae) ae) (sq (aE (aw bb (aa 0) [])) (sq (set 1 (call fg [(aa 0),(af dQ (af ig (ci (2)) (ci (64))) (ci (1)))])) (sq (aE (call c7 [(aa 0),(cs ER)])) (sq (al (ah [(aa 1),(call fg [(aa 0),(af dQ (af ig (ci (2)) (ci (64))) (ci (1)))])])) ae)))))
def ik:Fn:=fn [none] xt
def Aq:Sx:=
 (sq (set 1 (call mV [(aa 0)])) (sq (set 2 (call hM [(aa 0)])) (sq (am (bP (a7 (aw bq (aa 0) [(cs aaF)]))) (sq (al (ah [(aa 1),(aa 2),(ci (0))])) ae) ae) (sq (aE (aw bb (aa 0) [])) (sq (al (ah [(aa 1),(aa 2),(call hM [(aa 0)])])) ae)))))
def ji:Fn:=fn [none] Aq
def N7:Sx:=
 (sq (set 1 (aw bo (aa 0) [])) (sq (am (aj cM (af ag (aa 1) (ci (0))) (cs iR)) (sq (al (ah [(cs aQ),(aN .none)])) ae) ae) (sq (set 2 (bm dK HK (af ag (aa 1) (ci (1))) (cs Vi))) (sq (am (aj fz (aa 2) (ci (0))) (sq (al (ah [(af ag (aa 1) (ci (1))),(aN .none)])) ae) ae) (sq (al (ah [(bF (af ag (aa 1) (ci (1))) (aN .none) (aa 2)),(bF (af ag (aa 1) (ci (1))) (af au (aa 2) (ci (1))) (aN .none))])) ae)))))
def pt:Fn:=fn [none] N7
def KI:Sx:=
 (sq (fu [1,2] (call pt [(aa 0)])) (sq (set 3 (call d6 [(aa 1)])) (sq (am (isNone (aa 3)) (sq (aV (call a8 [(aa 0),(cs ZS)])) ae) ae) (sq (am (aj MQ (aa 3) (af ig (ci (2)) (ci (64)))) (sq (aV d7) ae) ae) (sq (set 4 (ci (0))) (sq (am (isNone (aa 2)) (sq (aE (aw bb (aa 0) [])) (sq (fu [1,2] (call pt [(aa 0)])) (sq (set 4 (call mO [(aa 1),(ci (3))])) (sq (am (aj az (aa 4) (ci (0))) (sq (aV (call a8 [(aa 0),(cs s152)])) ae) ae) (sq (set 3 (call zH [(aa 0),(aa 3),(aa 4)])) ae))))) ae) (sq (am (aj gn (aa 2) (ah [(cs s153),(cs s154),(cs aa1),(cs s156),(cs Zp)])) (sq (aV (call a8 [(aa 0),(cs s158)])) ae) ae) (sq (aE (aw bb (aa 0) [])) (sq (al (ah [(aa 3),(aa 2),(gE (aj gA (aa 4) (ci (0))))])) ae)))))))))
def ug:Fn:=fn [none] KI
def Ay:Sx:=
 (sq (aE (call c7 [(aa 0),(cs TT)])) (sq (set 1 (call mV [(aa 0)])) (sq (fu [2,3,4] (call ug [(aa 0)])) (sq (am (bP (a7 (aw bq (aa 0) [(cs ZF)]))) (sq (al (ah [(aa 1),(aa 2),(aa 3),(dj (a7 (aa 4)) (ci (0)) (ci (5))),(aa 4)])) ae) ae) (sq (aE (aw bb (aa 0) [])) (sq (am (a7 (aa 4)) (sq (al (ah [(aa 1),(aa 2),(aa 3),(call hM [(aa 0),(ci (3))]),(aa 4)])) ae) ae) (sq (set 5 (call fg [(aa 0),(af dQ (af ig (ci (2)) (ci (32))) (ci (1)))])) (sq (aE (call c7 [(aa 0),(cs TC)])) (sq (al (ah [(aa 1),(aa 2),(aa 3),(aa 5),(aa 4)])) ae)))))))))
def jk:Fn:=fn [none] Ay
def Bi:Sx:=
 (sq (set 2 (aw bo (aa 0) [])) (sq (am (bv [(aj az (af ag (aa 2) (ci (0))) (cs iR)),(aj cJ (af ag (aa 2) (ci (1))) (aa 1))]) (sq (al (Cw j2 (af ag (aa 1) (af ag (aa 2) (ci (1)))) [(aa 0)])) ae) ae) (sq (am (f5 [(a7 (call iA [(aa 0)])),(a7 (call nQ [(aa 0)]))]) (sq (al (call qN [(aa 0)])) ae) ae) (sq (aV (call a8 [(aa 0),(cs s161)])) ae))))
def ke:Fn:=fn [none,none] Bi
def Lk:Sx:=
 (sq (al (gE (f5 [(aj cJ (af ag (aw bo (aa 0) []) (ci (0))) (ah [(cs fE),(cs vJ)])),(EY (aw bR (aa 0) [(cs cV)]))]))) ae)
def mR:Fn:=fn [none] Lk
def KG:Tx:=(bP (a7 (call mR [(aa 0)])))
def KM:Sx:=
 (sq (am (bv [(aj gA (un bC (aa 2)) (ci (0))),(a7 (aw bq (aa 0) [(cs Nb)]))]) (sq (set 3 (call i1 [(aa 0)])) (sq brk ae)) ae) (sq (aE (bm a6 aO (aa 2) (call ke [(aa 0),(aa 1)]))) ae))
def Lw:Sx:=
 (sq (set 2 (aZ [])) (sq (set 3 (cs aQ)) (sq (wh KG KM) (sq (am (aj az (un bC (aa 2)) (ci (0))) (sq (aV (call a8 [(aa 0),(cs s161)])) ae) ae) (sq (am (bP (a7 (call mR [(aa 0)]))) (sq (aV (call a8 [(aa 0),(cs s103)])) ae) ae) (sq (al (ah [(un eN (aa 2)),(aa 3)])) ae))))))
def mS:Fn:=fn [none,none] Lw
def K9:Tx:=(aj az (af ag (aw bo (aa 0) []) (ci (0))) (cs fE))
def Li:Sx:=
 (sq (aE (aw bb (aa 0) [])) ae)
def Ln:Sx:=
 (sq (wh K9 Li) ae)
def fe:Fn:=fn [none] Ln
def NQ:Sx:=
 (sq (am (bv [(aj gn (af ag (aw bo (aa 0) []) (ci (0))) (ah [(cs fE),(cs vJ)])),(bP (a7 (aw bR (aa 0) [(cs cV)])))]) (sq (aV (call a8 [(aa 0),(cs s162)])) ae) ae) (sq (aE (call fe [(aa 0)])) ae))
def dn:Fn:=fn [none] NQ
def Kw:Sx:=
 (sq (aE (aw bY (aa 0) [(cs cH)])) (sq (aE (call fe [(aa 0)])) ae))
def cC:Fn:=fn [none] Kw
def Qd:Sx:=
 (sq (set 2 (aw bo (aa 0) [])) (sq (am (bv [(aj az (af ag (aa 2) (ci (0))) (cs iR)),(aj cJ (af ag (aa 2) (ci (1))) (aa 1))]) (sq (al (af ag (aa 2) (ci (1)))) ae) ae) (sq (al (cs aQ)) ae)))
def fW:Fn:=fn [none,none] Qd
def Su:Sx:=
 (sq (set 3 (call fW [(aa 0),(aa 1)])) (sq (am (aj az (aa 3) (cs aQ)) (sq (aV (aw de (aa 0) [(aa 2)])) ae) ae) (sq (aE (aw bb (aa 0) [])) (sq (al (aa 3)) ae))))
def gN:Fn:=fn [none,none,none] Su
def IU:Sx:=
 (sq (am (f5 [(isNone (aa 1)),(aj az (aa 1) (cs iV))]) (sq (al (aa 1)) ae) ae) (sq (al (un eN (eG (di (aa 1)) [2] lL (ah [(aa 2),(af ag (af ag (un (bp 7) (aa 0)) (aa 2)) (ci (0)))])))) ae))
def fF:Fn:=fn [none,none] IU
def Lx:Sx:=
 (sq (set 1 (aw bo (aa 0) [])) (sq (am (aj cM (af ag (aa 1) (ci (0))) (cs iR)) (sq (aV (call a8 [(aa 0),(cs jL)])) ae) ae) (sq (am (aj gn (af ag (aa 1) (ci (1))) (un (bp 7) (un (bp 2) (aa 0)))) (sq (aV (aw de (aa 0) [(af au (af au (cs s163) (af ag (aa 1) (ci (1)))) (cs Cl))])) ae) ae) (sq (am (aj az (af ag (af ag (un (bp 7) (un (bp 2) (aa 0))) (af ag (aa 1) (ci (1)))) (ci (0))) (ci (0))) (sq (aV (aw de (aa 0) [(af au (af au (cs s164) (af ag (aa 1) (ci (1)))) (cs s165))])) ae) ae) (sq (aE (aw bb (aa 0) [])) (sq (al (af ag (aa 1) (ci (1)))) ae))))))
def mM:Fn:=fn [none] Lx
def JH:Tx:=(a7 (aw bB (aa 0) [(cs uK)]))
def JQ:Sx:=
 (sq (aE (bm a6 aO (aa 1) (call mM [(aa 0)]))) ae)
def ID:Sx:=
 (sq (set 1 (aZ [(call mM [(aa 0)])])) (sq (wh JH JQ) (sq (al (un eN (aa 1))) ae)))
def lN:Fn:=fn [none] ID
def Bz:Tx:=(a7 (aa 3))
def Bm:Sx:=
 (sq (dF (aa 2) (call gN [(aa 0),(aa 1),(cs s169)]) (aN (.bool true))) (sq (set 3 (aw bB (aa 0) [(cs gb)])) ae))
def Be:Sx:=
 (sq (set 1 (ah [(cs R7),(cs Rn),(cs Sv),(cs eu)])) (sq (set 2 (mH [])) (sq (set 3 (aN (.bool true))) (sq (wh Bz Bm) (sq (al (un eN (eG (di (aa 1)) [4] (aj cJ (aa 4) (aa 2)) (aa 4)))) ae)))))
def jT:Fn:=fn [none] Be
def qH:Sx:=(set 3 (ah [(cs lW),(cs jg),(cs eu),(cs jp),(cs qV),(cs eH)]))
def rG:Sx:=(set 4 (call fW [(aa 0),(aa 3)]))
def xC:Sx:=(aV (call a8 [(aa 0),(bm dK eV (cs Zs) (aa 3))]))
def rq:Sx:=(am (aj az (aa 4) (cs aQ)) (sq xC ae) ae)
def zq:Sx:=(aV (aw de (aa 0) [(cs s175)]))
def qx:Sx:=(am (aj cJ (aa 4) (aa 2)) (sq zq ae) ae)
def yN:Sx:=(aV (aw de (aa 0) [(af au (aa 1) (cs s176))]))
def pW:Sx:=(am (bv [(aj az (aa 4) (cs eH)),(aj gn (cs lW) (aa 2))]) (sq yN ae) ae)
def rF:Sx:=(aE (aw bb (aa 0) []))
def yU:Sx:=(dF (aa 2) (aa 4) (call lN [(aa 0)]))
def vY:Sx:=(aE (aw bY (aa 0) [(cs jE)]))
def tC:Sx:=(dF (aa 2) (cs wl) (af ag (aw bb (aa 0) []) (ci (1))))
def ud:Sx:=(dF (aa 2) (cs wl) (call lN [(aa 0)]))
def wn:Sx:=(am (a7 (aw bq (aa 0) [(cs iV)])) (sq tC ae) (sq ud ae))
def xO:Sx:=(am (aj az (aa 1) (cs fS)) (sq vY (sq wn ae)) ae)
def vO:Sx:=(dF (aa 2) (aa 4) (call jT [(aa 0)]))
def tQ:Sx:=(dF (aa 2) (aa 4) (call jC [(aa 0)]))
def qM:Sx:=(dF (aa 2) (aa 4) (call fg [(aa 0),(af dQ (af ig (ci (2)) (ci (32))) (ci (1)))]))
def nY:Sx:=(dF (aa 2) (aa 4) (aN (.bool true)))
def gX:Sx:=(aE (aw bY (aa 0) [(cs jr)]))
def gV:Sx:=(set 5 (call fF [(un (bp 2) (aa 0)),(af ag (aa 2) (cs lW))]))
def gU:Sx:=(dF (aa 2) (aa 4) (call c9 [(aa 0),(aa 5),(call fF [(un (bp 2) (aa 0)),(jm (aa 2) (cs wl) (aN .none))])]))
def rX:Sx:=(am (aj az (aa 4) (cs qV)) (sq nY ae) (sq gX (sq gV (sq gU ae))))
def te:Sx:=(am (aj az (aa 4) (cs jp)) (sq qM ae) (sq rX ae))
def wb:Sx:=(am (aj az (aa 4) (cs eu)) (sq tQ ae) (sq te ae))
def yS:Sx:=(am (aj az (aa 4) (cs jg)) (sq vO ae) (sq wb ae))
def B0:Sx:=(am (aj az (aa 4) (cs lW)) (sq yU (sq xO ae)) (sq yS ae))
def EU:Sx:=
 (sq qH (sq rG (sq rq (sq qx (sq pW (sq rF (sq B0 ae)))))))
def iX:Fn:=fn [none,none,none] EU
def Ar:Sx:=(set 2 (mH []))
def Ah:Sx:=(aE (call cC [(aa 0)]))
def ee:Sx:=(aE (call iX [(aa 0),(aa 1),(aa 2)]))
def wU:Sx:=(aE (call dn [(aa 0)]))
def Df:Tx:=(bP (a7 (aw bB (aa 0) [(cs cV)])))
def sI:Sx:=
 (sq ee (sq wU ae))
def Al:Sx:=(wh Df sI)
def xe:Sx:=(aV (aw de (aa 0) [(af au (aa 1) (cs s176))]))
def jz:Sx:=(am (aj gn (cs lW) (aa 2)) (sq xe ae) ae)
def jf:Sx:=(set 3 (jm (aa 2) (cs jg) (ah [])))
def xa:Sx:=(set 3 (af au (aa 3) (ah [(cs eu)])))
def jj:Sx:=(am (bv [(aj cM (jm (aa 2) (cs eu) (ci (0))) (ci (0))),(aj gn (cs eu) (aa 3))]) (sq xa ae) ae)
def jy:Sx:=(set 4 (ah [(af ag (aa 2) (cs lW)),(jm (aa 2) (cs wl) (aN .none)),(aa 3),(jm (aa 2) (cs eu) (ci (0))),(jm (aa 2) (cs jp) (ci (0))),(gE (aj cJ (cs qV) (aa 2)))]))
def js:Sx:=(al (ah [(aa 4),(jm (aa 2) (cs eH) (ah []))]))
def Ew:Sx:=
 (sq Ar (sq Ah (sq Al (sq jz (sq jf (sq jj (sq jy (sq js ae))))))))
def iw:Fn:=fn [none,none] Ew
def Nh:Tx:=(bv [(aj cM (af ag (aw bo (aa 0) [(aa 1)]) (ci (0))) (cs vJ)),(aj cM (bF (aw bo (aa 0) [(aa 1)]) (aN .none) (ci (2))) (ah [(cs fY),(cs cV)]))])
def NR:Sx:=
 (sq (am (aj az (bF (aw bo (aa 0) [(aa 1)]) (aN .none) (ci (2))) (ah [(cs fY),(cs jE)])) (sq (al (aN (.bool true))) ae) ae) (sq (nE 1 jl (ci (1))) ae))
def OF:Sx:=
 (sq (set 1 (ci (0))) (sq (wh Nh NR) (sq (al (aN (.bool false))) ae)))
def vR:Fn:=fn [none] OF
def E5:Sx:=(set 2 (aw bR (aa 0) [(cs cH)]))
def Ce:Sx:=(aE (call cC [(aa 0)]))
def Gh:Sx:=(am (a7 (aa 2)) (sq Ce ae) ae)
def AY:Sx:=(set 3 (call ik [(aa 0)]))
def yf:Sx:=(set 3 (call ji [(aa 0)]))
def yo:Sx:=(set 3 (call jk [(aa 0)]))
def B6:Sx:=(am (aj az (aa 1) (cs mu)) (sq yf ae) (sq yo ae))
def EP:Sx:=(am (aj az (aa 1) (cs nZ)) (sq AY ae) (sq B6 ae))
def Ci:Sx:=(aE (call fe [(aa 0)]))
def Cj:Sx:=(aE (aw bY (aa 0) [(cs cV)]))
def EQ:Sx:=(am (a7 (aa 2)) (sq Ci (sq Cj ae)) ae)
def Gd:Sx:=(al (aa 3))
def KB:Sx:=
 (sq E5 (sq Gh (sq EP (sq EQ (sq Gd ae)))))
def rh:Fn:=fn [none,none] KB
def lu:Sx:=(set 1 (mH [(cs s0),(ci (2)),(cs s1),(ci (10))]))
def lG:Sx:=(set 2 (ah [(cs JP),(cs IO),(cs eu),(cs jp),(cs AV)]))
def lh:Sx:=(set 3 (mH [(cs AV),(jm (aa 1) (un (bp 4) (aa 0)) (ci (0)))]))
def vt:Sx:=(aE (call cC [(aa 0)]))
def jK:Sx:=(set 4 (call gN [(aa 0),(aa 2),(af au (cs s184) (bm dK eV (cs A7) (aa 2)))]))
def rQ:Sx:=(dF (aa 3) (aa 4) (call gq [(aa 0),(ah [(cs s186),(ci (8))])]))
def nW:Sx:=(dF (aa 3) (aa 4) (call gq [(aa 0),(ah [(cs EW),(ci (16))])]))
def lY:Sx:=(dF (aa 3) (aa 4) (call jC [(aa 0)]))
def kD:Sx:=(dF (aa 3) (aa 4) (call dp [(aa 0)]))
def kX:Sx:=(dF (aa 3) (aa 4) (af ag (aa 1) (call gN [(aa 0),(ah [(cs s0),(cs s1)]),(cs s188)])))
def mh:Sx:=(am (aj az (aa 4) (cs jp)) (sq kD ae) (sq kX ae))
def oi:Sx:=(am (aj az (aa 4) (cs eu)) (sq lY ae) (sq mh ae))
def qF:Sx:=(am (aj az (aa 4) (cs IO)) (sq nW ae) (sq oi ae))
def jH:Sx:=(am (aj az (aa 4) (cs JP)) (sq rQ ae) (sq qF ae))
def tY:Sx:=(aE (call dn [(aa 0)]))
def x8:Tx:=(bP (a7 (aw bB (aa 0) [(cs cV)])))
def ni:Sx:=
 (sq jK (sq jH (sq tY ae)))
def wg:Sx:=(wh x8 ni)
def qe:Sx:=(aV (aw de (aa 0) [(af au (cs s189) (aa 4))]))
def tN:Sx:=(am (aj gn (aa 4) (aa 3)) (sq qe ae) ae)
def xp:Sx:=
 (sq tN ae)
def kG:Sx:=(cI (di (aa 2)) [4] xp)
def kE:Sx:=(al (un eN (eG (di (aa 2)) [4] lL (af ag (aa 3) (aa 4)))))
def xN:Sx:=
 (sq lu (sq lG (sq lh (sq vt (sq wg (sq kG (sq kE ae)))))))
def eK:Fn:=fn [none] xN
def Fj:Tx:=(bP (a7 (aw bR (aa 0) [(cs cV)])))
def F2:Sx:=
 (sq (aE (bm a6 aO (aa 1) (call hY [(aa 0)]))) (sq (aE (aw fh (aa 0) [])) (sq (am (bP (a7 (aw bB (aa 0) [(cs gb)]))) (sq brk ae) ae) (sq (aE (aw fh (aa 0) [])) ae))))
def E9:Sx:=
 (sq (aE (aw bY (aa 0) [(cs cH)])) (sq (aE (aw fh (aa 0) [])) (sq (set 1 (aZ [])) (sq (wh Fj F2) (sq (aE (aw bY (aa 0) [(cs cV)])) (sq (al (un eN (aa 1))) ae))))))
def md:Fn:=fn [none] E9
def LA:Sx:=
 (sq (am (aj cJ (aa 2) (cs s191)) (sq (aV (call a8 [(aa 0),(cs jL)])) ae) ae) ae)
def KN:Sx:=
 (sq (set 1 (aw bo (aa 0) [])) (sq (am (f5 [(aj cM (af ag (aa 1) (ci (0))) (cs iR)),(aj cJ (af ag (af ag (aa 1) (ci (1))) (ci (0))) (cs s190))]) (sq (aV (call a8 [(aa 0),(cs jL)])) ae) ae) (sq (cI (di (af ag (aa 1) (ci (1)))) [2] LA) (sq (aE (aw bb (aa 0) [])) (sq (al (af ag (aa 1) (ci (1)))) ae)))))
def f9:Fn:=fn [none] KN
def G5:Sx:=
 (sq (set 1 (call fW [(aa 0),(ah [(cs s0),(cs s1),(cs s2),(cs s3),(cs s4),(cs s5)])])) (sq (am (aj az (aa 1) (cs aQ)) (sq (al (cs s0)) ae) ae) (sq (aE (aw bb (aa 0) [])) (sq (al (aa 1)) ae))))
def oa:Fn:=fn [none] G5
def KC:Sx:=
 (sq (set 1 (ah [(cs er),(cs dO),(cs fS),(cs nZ),(cs mu),(cs sZ),(cs aav),(cs iG)])) (sq (set 2 (mH [(cs s196),(aa 1),(cs mE),(ah [(cs fH)]),(cs kH),(ah [(cs fH)]),(cs EX),(ah [(cs RA),(cs fL),(cs er),(cs dO),(cs fS)]),(cs Kl),(ah [(cs er)]),(cs ON),(ah [(cs nZ),(cs mu)])])) (sq (al (jm (aa 2) (aa 0) (af au (ah [(cs fL),(cs fH),(cs ly)]) (aa 1)))) ae)))
def tU:Fn:=fn [none] KC
def K7:Sx:=
 (sq (set 2 (call tU [(aa 1)])) (sq (am (bv [(aj cJ (cs aav) (aa 2)),(a7 (aw bq (aa 0) [(cs N0)]))]) (sq (aE (aw bb (aa 0) [])) (sq (aE (call c7 [(aa 0),(cs il)])) (sq (al (cs il)) ae))) ae) (sq (set 3 (call fW [(aa 0),(aa 2)])) (sq (am (aj az (aa 3) (cs aQ)) (sq (aV (call a8 [(aa 0),(bm dK eV (cs Zs) (aa 2))])) ae) ae) (sq (aE (aw bb (aa 0) [])) (sq (am (bv [(aj az (aa 3) (cs fS)),(aj az (aa 1) (cs EX))]) (sq (al (cs dO)) ae) ae) (sq (al (aa 3)) ae)))))))
def mW:Fn:=fn [none,none] K7
def Iq:Sx:=
 (sq (al (ah [(aa 1),(aa 2),(un (bp 4) (aa 0)),(un (bp 5) (aa 0)),(aa 3),(aa 4)])) ae)
def cO:Fn:=fn [none,none,none,none,none] Iq
def Es:Sx:=(set 2 (ci (0)))
def Ak:Sx:=(nE 2 jl (ci (1)))
def Hn:Tx:=(bv [(aj fz (aa 2) (un bC (aa 1))),(aj gn (af ag (aa 1) (aa 2)) (cs Rs))])
def Hf:Sx:=
 (sq Ak ae)
def Eh:Sx:=(wh Hn Hf)
def DM:Sx:=(set 3 (bF (aa 1) (aN .none) (aa 2)))
def C3:Sx:=(set 4 (bF (aa 1) (aa 2) (aN .none)))
def Aj:Sx:=(al (call d6 [(aa 3)]))
def DA:Sx:=(am (bv [(aj az (aa 4) (cs aQ)),(aj gn (aa 3) (aa 0))]) (sq Aj ae) ae)
def Ax:Sx:=(al (aN .none))
def Ej:Sx:=(am (bv [(aj cM (aa 3) (cs aQ)),(aj gn (aa 3) (aa 0))]) (sq Ax ae) ae)
def Ap:Sx:=(al (aN .none))
def EB:Sx:=(am (bv [(aj az (aa 3) (cs aQ)),(aj az (af ag (aa 4) (ci (0))) (cs NG))]) (sq Ap ae) ae)
def Eu:Sx:=(set 5 (jm (aa 0) (aa 3) (ci (0))))
def Av:Sx:=(al (aa 5))
def DQ:Sx:=(am (aj az (aa 4) (cs aQ)) (sq Av ae) ae)
def Dz:Sx:=(set 6 (call d6 [(bF (aa 4) (ci (1)) (aN .none))]))
def xD:Sx:=(al (aN .none))
def A6:Sx:=(am (isNone (aa 6)) (sq xD ae) ae)
def xT:Sx:=(al (af au (aa 5) (aa 6)))
def AT:Sx:=(am (aj az (af ag (aa 4) (ci (0))) (cs NG)) (sq xT ae) ae)
def BP:Sx:=(al (af dQ (aa 5) (aa 6)))
def Hi:Sx:=
 (sq Es (sq Eh (sq DM (sq C3 (sq DA (sq Ej (sq EB (sq Eu (sq DQ (sq Dz (sq A6 (sq AT (sq BP ae)))))))))))))
def jM:Fn:=fn [none,none] Hi
def oU:Sx:=(set 3 (un (bp 1) (aa 0)))
def oW:Sx:=(set 4 (aw jG (aa 0) []))
def xv:Sx:=(nE 4 jl (af ag (aw bb (aa 0) []) (ci (1))))
def Ec:Tx:=(bv [(aj az (af ag (aw bo (aa 0) []) (ci (0))) (cs iR)),(f5 [(aj cJ (af ag (aa 4) (un ey (ci (1)))) (cs Rs)),(aj cJ (af ag (af ag (aw bo (aa 0) []) (ci (1))) (ci (0))) (cs Rs))])])
def Cq:Sx:=
 (sq xv ae)
def oz:Sx:=(wh Ec Cq)
def ou:Sx:=(set 5 (call jM [(call lf [(aa 1),(aa 2)]),(aa 4)]))
def xb:Sx:=(Fe NO (aa 0) (aa 3))
def xq:Sx:=(aV (aw de (aa 0) [(af au (af au (cs Cl) (aa 4)) (cs s208))]))
def oY:Sx:=(am (isNone (aa 5)) (sq xb (sq xq ae)) ae)
def oQ:Sx:=(al (aa 5))
def DY:Sx:=
 (sq oU (sq oW (sq oz (sq ou (sq oY (sq oQ ae))))))
def cn:Fn:=fn [none,none,none] DY
def Hy:Sx:=(aE (call c7 [(aa 0),(cs lW)]))
def Hh:Sx:=(set 1 (call gN [(aa 0),(ah [(cs r7),(cs OG),(cs Oy)]),(cs s211)]))
def G7:Sx:=(aE (call c7 [(aa 0),(cs nU)]))
def Hk:Sx:=(set 2 (ah [(cs s6),(cs s7),(cs s8),(cs s9),(cs Cz),(cs kr)]))
def Ho:Sx:=(set 3 (call gN [(aa 0),(aa 2),(cs s213)]))
def Hr:Sx:=(set 4 (cs aQ))
def D1:Sx:=(aE (aw bb (aa 0) []))
def C8:Sx:=(set 4 (call hY [(aa 0)]))
def Hm:Sx:=(am (a7 (aw bq (aa 0) [(cs aap)])) (sq D1 (sq C8 ae)) ae)
def Hs:Sx:=(aE (call c7 [(aa 0),(cs nX)]))
def wE:Sx:=(al (ah [(aa 1),(aa 3),(call cn [(aa 0),(un (bp 4) (aa 0)),(aa 3)]),(aa 4)]))
def AF:Sx:=
 (sq Hy (sq Hh (sq G7 (sq Hk (sq Ho (sq Hr (sq Hm (sq Hs (sq wE ae)))))))))
def mP:Fn:=fn [none] AF
def FI:Sx:=(set 4 (aN .none))
def Go:Sx:=(set 5 (cs aQ))
def Gl:Sx:=(set 6 (aZ []))
def Cn:Sx:=(aE (call cC [(aa 0)]))
def tx:Sx:=(aV (aw de (aa 0) [(cs s216)]))
def vS:Sx:=(am (bP (isNone (aa 4))) (sq tx ae) ae)
def v0:Sx:=(set 4 (af au (call mP [(aa 0)]) (ah [(cs aQ)])))
def qp:Sx:=(aV (aw de (aa 0) [(cs s218)]))
def sU:Sx:=(am (aj cM (aa 5) (cs aQ)) (sq qp ae) ae)
def tW:Sx:=(aE (aw bb (aa 0) []))
def ua:Sx:=(set 5 (call gN [(aa 0),(ah [(cs qd),(cs nH)]),(cs s219)]))
def tu:Sx:=(set 4 (af au (bF (aa 4) (aN .none) (ci (4))) (ah [(aa 5)])))
def uh:Sx:=(fu [7,8] (call mS [(aa 0),(aa 3)]))
def tO:Sx:=(aE (bm a6 aO (aa 6) (call cO [(aa 0),(cs aU),(cs fH),(aa 2),(ah [(aa 7),(aa 8),(ah [(cs aQ),(ci (0))])])])))
def vg:Sx:=(am (bv [(a7 (aw bq (aa 0) [(cs BI)])),(bP (isNone (aa 4)))]) (sq sU (sq tW (sq ua (sq tu ae)))) (sq uh (sq tO ae)))
def iK:Sx:=(am (a7 (aw bq (aa 0) [(cs lW)])) (sq vS (sq v0 ae)) (sq vg ae))
def ym:Sx:=(aE (call dn [(aa 0)]))
def JD:Tx:=(bP (a7 (aw bB (aa 0) [(cs cV)])))
def fP:Sx:=
 (sq iK (sq ym ae))
def BO:Sx:=(wh JD fP)
def E6:Sx:=(am (a7 (aw bR (aa 0) [(cs cH)])) (sq Cn (sq BO ae)) ae)
def uM:Sx:=(al (af au (aZ [(call cO [(aa 0),(aa 1),(cs er),(aa 2),(aa 4)])]) (aa 6)))
def Jp:Sx:=
 (sq FI (sq Go (sq Gl (sq E6 (sq uM ae)))))
def lP:Fn:=fn [none,none,none,none] Jp
def ip:Sx:=(set 3 (ah [(cs aQ),(ci (0))]))
def kA:Sx:=(aE (call c7 [(aa 0),(cs e9)]))
def uI:Sx:=(set 3 (ah [(cs e9),(call dp [(aa 0)])]))
def jb:Sx:=(set 4 (af ag (aw bb (aa 0) []) (ci (1))))
def pq:Sx:=(set 4 (cs e9))
def ja:Sx:=(am (aj az (aa 4) (cs Bh)) (sq pq ae) ae)
def sd:Sx:=(set 3 (ah [(aa 4),(call dp [(aa 0)])]))
def uT:Sx:=(am (aj cM (call fW [(aa 0),(ah [(cs e9),(cs Bh),(cs rY)])]) (cs aQ)) (sq jb (sq ja (sq sd ae))) ae)
def ij:Sx:=(am (aj cJ (aa 1) (ah [(cs kH),(cs ze),(cs jS)])) (sq kA (sq uI ae)) (sq uT ae))
def uG:Sx:=(al (ah [(ah []),(cs aQ),(aa 3)]))
def lX:Sx:=(am (aj cJ (aa 1) (ah [(cs ze),(cs jS)])) (sq uG ae) ae)
def lT:Sx:=(fu [5,6] (call mS [(aa 0),(aa 2)]))
def lR:Sx:=(al (ah [(aa 5),(aa 6),(aa 3)]))
def AB:Sx:=
 (sq ip (sq ij (sq lX (sq lT (sq lR ae)))))
def eY:Fn:=fn [none,none,none] AB
def JX:Sx:=(fu [4,5] (call iw [(aa 0),(aa 2)]))
def y4:Sx:=(dF (un (bp 3) (aa 0)) (ah [(un (bp 4) (aa 0)),(un (bp 5) (aa 0)),(aa 3)]) (aa 4))
def yO:Sx:=(set 6 (aZ [(call cO [(aa 0),(aa 1),(aa 2),(aa 3),(aa 4)])]))
def FO:Sx:=(aE (bm a6 aO (aa 6) (call cO [(aa 0),(cs aU),(cs ly),(aa 3),(aa 5)])))
def yY:Sx:=(am (aj gA (un bC (aa 5)) (ci (0))) (sq FO ae) ae)
def xS:Sx:=(al (aa 6))
def Os:Sx:=
 (sq JX (sq y4 (sq yO (sq yY (sq xS ae)))))
def kP:Fn:=fn [none,none,none,none] Os
def tj:Sx:=(set 3 (ah [(un (bp 4) (aa 0)),(un (bp 5) (aa 0)),(aa 2)]))
def pU:Sx:=(R0 (aa 0))
def qg:Sx:=(aV (aw de (aa 0) [(cs ZU)]))
def tI:Sx:=(am (aj gn (aa 3) (un (bp 3) (aa 0))) (sq pU (sq qg ae)) ae)
def tX:Sx:=(set 4 (af ag (un (bp 3) (aa 0)) (aa 3)))
def t7:Sx:=(set 5 (call fF [(un (bp 2) (aa 0)),(af ag (aa 4) (ci (1)))]))
def qq:Sx:=(set 5 (aN .none))
def tD:Sx:=(am (bv [(aj cJ (aa 1) (ah [(cs ze),(cs jS)])),(bP (a7 (call vR [(aa 0)])))]) (sq qq ae) ae)
def tJ:Sx:=(al (call c9 [(aa 0),(call fF [(un (bp 2) (aa 0)),(af ag (aa 4) (ci (0)))]),(aa 5)]))
def vP:Sx:=
 (sq tj (sq tI (sq tX (sq t7 (sq tD (sq tJ ae))))))
def gM:Fn:=fn [none,none,none] vP
def xP:Sx:=(set 1 (aN .none))
def xW:Sx:=(set 2 (ah []))
def xw:Sx:=(aE (call cC [(aa 0)]))
def tS:Sx:=(aE (call c7 [(aa 0),(cs kr)]))
def tf:Sx:=(aE (call c7 [(aa 0),(cs nX)]))
def jF:Sx:=(set 1 (call cn [(aa 0),(un (bp 4) (aa 0)),(cs kr)]))
def tZ:Sx:=(aE (aw bY (aa 0) [(cs jr)]))
def sX:Sx:=(set 2 (call md [(aa 0)]))
def kT:Sx:=(am (aj az (call gN [(aa 0),(ah [(cs nU),(cs s226)]),(cs s227)]) (cs nU)) (sq tS (sq tf (sq jF ae))) (sq tZ (sq sX ae)))
def vI:Sx:=(aE (call dn [(aa 0)]))
def AZ:Tx:=(bP (a7 (aw bB (aa 0) [(cs cV)])))
def fG:Sx:=
 (sq kT (sq vI ae))
def xA:Sx:=(wh AZ fG)
def wf:Sx:=(aV (aw de (aa 0) [(cs s228)]))
def nM:Sx:=(am (isNone (aa 1)) (sq wf ae) ae)
def ny:Sx:=(al (ah [(aa 1),(aa 2)]))
def A0:Sx:=
 (sq xP (sq xW (sq xw (sq xA (sq nM (sq ny ae))))))
def fM:Fn:=fn [none] A0
def Dv:Sx:=(al (call lP [(aa 0),(aa 1),(aa 3),(aa 4)]))
def G8:Sx:=(am (aj az (aa 2) (cs er)) (sq Dv ae) ae)
def Dg:Sx:=(al (call kP [(aa 0),(aa 1),(aa 2),(aa 3)]))
def Hb:Sx:=(am (f5 [(aj az (aa 2) (cs dO)),(aj az (aa 2) (cs fS))]) (sq Dg ae) ae)
def Da:Sx:=(set 5 (call eK [(aa 0)]))
def Au:Sx:=(set 5 (call fM [(aa 0)]))
def Ao:Sx:=(set 5 (call rh [(aa 0),(aa 2)]))
def D7:Sx:=(am (aj az (aa 2) (cs iG)) (sq Au ae) (sq Ao ae))
def wL:Sx:=(am (aj az (aa 2) (cs il)) (sq Da ae) (sq D7 ae))
def Hl:Sx:=(al (aZ [(call cO [(aa 0),(aa 1),(aa 2),(aa 3),(aa 5)])]))
def mQ:Sx:=
 (sq G8 (sq Hb (sq wL (sq Hl ae))))
def hO:Fn:=fn [none,none,none,none,none] mQ
def I3:Sx:=(set 1 (mH [(cs er),(ci (1)),(cs dO),(ci (2)),(cs fS),(ci (2)),(cs ly),(ci (3)),(cs fH),(ci (4))]))
def Kr:Sx:=(set 2 (aZ []))
def xM:Sx:=(aE (bm a6 aO (aa 2) (aa 4)))
def BH:Sx:=(am (aj az (jm (aa 1) (af ag (aa 4) (ci (1))) (ci (0))) (aa 3)) (sq xM ae) ae)
def pe:Sx:=
 (sq BH ae)
def uW:Sx:=(cI (di (aa 0)) [4] pe)
def jJ:Sx:=
 (sq uW ae)
def x6:Sx:=(cI (di (ah [(ci (0)),(ci (1)),(ci (2)),(ci (3)),(ci (4))])) [3] jJ)
def Km:Sx:=(al (aa 2))
def Oc:Sx:=
 (sq I3 (sq Kr (sq x6 (sq Km ae))))
def kF:Fn:=fn [none] Oc
def Gk:Sx:=(set 3 (ah []))
def F8:Sx:=(set 4 (aZ []))
def Ch:Sx:=(aE (call cC [(aa 0)]))
def vX:Sx:=(aE (aw bb (aa 0) []))
def vm:Sx:=(aE (call c7 [(aa 0),(cs mD)]))
def wc:Sx:=(set 3 (ah [(cs mD)]))
def lC:Sx:=(set 5 (call mW [(aa 0),(cs s196)]))
def ve:Sx:=(aE (bm a6 fm (aa 4) (call hO [(aa 0),(cs aU),(aa 5),(call f9 [(aa 0)]),(aa 2)])))
def nc:Sx:=(am (a7 (aw bq (aa 0) [(cs jg)])) (sq vX (sq vm (sq wc ae))) (sq lC (sq ve ae)))
def x5:Sx:=(aE (call dn [(aa 0)]))
def Kc:Tx:=(bP (a7 (aw bB (aa 0) [(cs cV)])))
def eL:Sx:=
 (sq nc (sq x5 ae))
def BJ:Sx:=(wh Kc eL)
def Fz:Sx:=(am (a7 (aw bR (aa 0) [(cs cH)])) (sq Ch (sq BJ ae)) ae)
def uy:Sx:=(al (af au (aZ [(call cO [(aa 0),(aa 1),(cs fL),(cs aQ),(aa 3)])]) (call kF [(aa 4)])))
def Js:Sx:=
 (sq Gk (sq F8 (sq Fz (sq uy ae))))
def kO:Fn:=fn [none,none,none] Js
def ki:Sx:=(set 2 (ah [(cs aU),(cs Io),(cs mE),(cs kH),(cs ze),(cs jS),(cs EX),(cs Kl),(cs ON)]))
def j9:Sx:=(set 3 (call fW [(aa 0),(aa 2)]))
def yr:Sx:=(set 3 (cs aU))
def y7:Sx:=(aE (aw bb (aa 0) []))
def jZ:Sx:=(am (aj az (aa 3) (cs aQ)) (sq yr ae) (sq y7 ae))
def jV:Sx:=(set 4 (call mW [(aa 0),(aa 3)]))
def xK:Sx:=(al (aZ [(ah [(aa 3),(aa 4),(cs aQ),(cs aQ),(cs aQ),(ah [])])]))
def jR:Sx:=(am (aj az (aa 4) (cs RA)) (sq xK ae) ae)
def jU:Sx:=(Fe M8 (aa 0) (call oa [(aa 0)]))
def jY:Sx:=(Fe OT (aa 0) (call f9 [(aa 0)]))
def jW:Sx:=(set 5 (gE (f5 [(aj az (aa 3) (cs aU)),(aj az (aa 3) (cs Io))])))
def ye:Sx:=(al (call kO [(aa 0),(aa 3),(aa 1)]))
def qY:Sx:=(am (bv [(aj az (aa 4) (cs fL)),(a7 (aa 5))]) (sq ye ae) ae)
def zb:Sx:=(al (aZ [(call cO [(aa 0),(aa 3),(aa 4),(cs aQ),(ah [])])]))
def rO:Sx:=(am (aj az (aa 4) (cs fL)) (sq zb ae) ae)
def oE:Sx:=(set 6 (call f9 [(aa 0)]))
def pa:Sx:=(set 7 (ah []))
def wT:Sx:=(set 7 (call eY [(aa 0),(aa 3),(aa 1)]))
def uX:Sx:=(set 7 (call gM [(aa 0),(aa 3),(aa 6)]))
def r9:Sx:=(set 7 (call f9 [(aa 0)]))
def px:Sx:=(al (call hO [(aa 0),(aa 3),(aa 4),(aa 6),(aa 1)]))
def sf:Sx:=(am (a7 (aa 5)) (sq px ae) ae)
def uP:Sx:=(am (aj az (aa 3) (cs Kl)) (sq r9 ae) (sq sf ae))
def xm:Sx:=(am (aj az (aa 4) (cs ly)) (sq uX ae) (sq uP ae))
def oO:Sx:=(am (aj az (aa 4) (cs fH)) (sq wT ae) (sq xm ae))
def Az:Sx:=(al (aZ [(call cO [(aa 0),(aa 3),(aa 4),(aa 6),(aa 7)])]))
def ur:Sx:=
 (sq ki (sq j9 (sq jZ (sq jV (sq jR (sq jU (sq jY (sq jW (sq qY (sq rO (sq oE (sq pa (sq oO (sq Az ae))))))))))))))
def ew:Fn:=fn [none,none] ur
def OS:Sx:=
 (sq (al (ah [(af au (af jx (ci (7)) (ci (5340981274431))) (ci (6))),(af au (af jx (ci (7)) (ci (918273645546))) (ci (5))),(af au (af jx (ci (7)) (ci (32165498732))) (ci (3))),(af au (af jx (ci (7)) (ci (6))) (ci (4))),(ci (9)),(ci (1)),(ci (13))])) ae)
def pB:Fn:=fn [] OS
def KK:Sx:=
 (sq (set 2 (af ck (af ag (aa 0) (ci (0))) (aa 1))) (sq (dF (aa 0) (ci (0)) (af f6 (af ag (aa 0) (ci (0))) (aa 1))) (sq (al (aa 2)) ae)))
def qB:Fn:=fn [none,none] KK
def aH:Fn:=takeX qB
def mG:Sx:=(set 3 (call aH [(aa 2),(ci (3))]))
def BQ:Sx:=(al (af au (af au (af au (aa 0) (cs SI)) (bm dK eV (cs aQ) (eG (di (aa 1)) [4] lL (af au (aa 4) (cs bX))))) (cs cV)))
def ux:Sx:=(am (aj az (aa 3) (ci (0))) (sq BQ ae) ae)
def uv:Sx:=(al (af au (af au (af au (aa 0) (cs Oi)) (bm dK eV (cs lI) (aa 1))) (dj (f5 [(aj az (aa 3) (ci (1))),(aj az (aa 1) (aZ []))]) (cs nP) (cs F5))))
def J5:Sx:=
 (sq mG (sq ux (sq uv ae)))
def cB:Fn:=fn [none,none,none] J5
def Fv:Sx:=(set 3 (gE (aj az (call aH [(aa 0),(ci (2))]) (ci (1)))))
def Ff:Sx:=(set 4 (af ag (ah [(ci (0)),(ci (3)),(af dQ (af ig (ci (2)) (ci (64))) (ci (1)))]) (call aH [(aa 0),(ci (3))])))
def Fg:Sx:=(set 5 (dj (a7 (aa 3)) (cs Zi) (af ag (ah [(cs aQ),(cs s237)]) (call aH [(aa 0),(ci (2))]))))
def BY:Sx:=(fu [6,7] (ah [(af au (af au (cs aaC) (un jt (aa 4))) (cs s239)),(ah [(aa 4),(ci (70))])]))
def xE:Sx:=(fu [6,7] (ah [(cs aQ),(ah [(ci (0)),(ci (0))])]))
def BD:Sx:=(am (a7 (aa 3)) (sq xE ae) ae)
def yl:Sx:=(fu [6,7] (ah [(af au (af au (aa 5) (un jt (aa 4))) (cs IT)),(ah [(aa 3),(aa 4),(ci (0))])]))
def vi:Sx:=(fu [6,7] (ah [(af au (aa 6) (cs s241)),(ah [(aa 3),(aa 4),(ci (2048))])]))
def yb:Sx:=(am (aj az (call aH [(aa 0),(ci (2))]) (ci (1))) (sq vi ae) ae)
def vo:Sx:=(fu [6,7] (ah [(af au (af au (af au (cs Oe) (aa 5)) (un jt (aa 4))) (cs Si)),(ah [(aa 3),(aa 4),(cs aa1),(ci (5)),(aN (.bool false))])]))
def vh:Sx:=(fu [6,7] (ah [(af au (af au (af au (af au (cs Oe) (aa 5)) (cs s244)) (un jt (aa 4))) (cs IT)),(ah [(aa 3),(af jx (ci (3)) (af ig (ci (2)) (ci (20)))),(cs Zp),(aa 4),(aN (.bool true))])]))
def xV:Sx:=(am (aj az (call aH [(aa 0),(ci (2))]) (ci (1))) (sq vo ae) (sq vh ae))
def Bs:Sx:=(am (aj az (aa 1) (cs mu)) (sq yl (sq yb ae)) (sq xV ae))
def ET:Sx:=(am (aj az (aa 1) (cs nZ)) (sq BY (sq BD ae)) (sq Bs ae))
def EZ:Sx:=(set 8 (af au (af au (aa 1) (cs eI)) (aa 2)))
def Bb:Sx:=(al (ah [(af au (af au (aa 8) (cs eI)) (aa 6)),(aa 7)]))
def F6:Sx:=(am (aj az (call aH [(aa 0),(ci (2))]) (ci (1))) (sq Bb ae) ae)
def Fb:Sx:=(al (ah [(call cB [(aa 8),(dj (aj cM (aa 6) (cs aQ)) (aZ [(aa 6)]) (aZ [])),(aa 0)]),(aa 7)]))
def Ja:Sx:=
 (sq Fv (sq Ff (sq Fg (sq ET (sq EZ (sq F6 (sq Fb ae)))))))
def rP:Fn:=fn [none,none,none] Ja
def wm:Sx:=(set 3 (aZ [(af au (cs TL) (af ag (ah [(cs Oz),(cs Tp)]) (call aH [(aa 0),(ci (2))]))),(cs s248),(cs YY),(cs s250)]))
def vK:Sx:=(set 4 (dj (aj az (af ag (aa 3) (ci (0))) (cs s251)) (ci (6)) (ci (17))))
def vy:Sx:=(set 5 (dj (aj az (aa 1) (cs s0)) (ci (2)) (dj (aj az (aa 1) (cs s1)) (ci (10)) (ci (0)))))
def vT:Sx:=(set 6 (call aH [(aa 0),(ci (3))]))
def tH:Sx:=(aE (bm a6 aO (aa 3) (af ag (ah [(cs s252),(cs s253)]) (af dQ (aa 6) (ci (1))))))
def tA:Sx:=(set 5 (af ag (ah [(ci (2)),(ci (10))]) (af dQ (aa 6) (ci (1)))))
def wx:Sx:=(am (aj gA (aa 6) (ci (0))) (sq tH (sq tA ae)) ae)
def we:Sx:=(set 7 (call aH [(aa 0),(ci (4))]))
def vd:Sx:=(al (ah [(call cB [(af au (cs s254) (aa 2)),(af au (bF (aa 3) (aa 7) (aN .none)) (bF (aa 3) (aN .none) (aa 7))),(aa 0)]),(ah [(aa 4),(ci (22)),(ci (3600000)),(ci (8)),(aa 5)])]))
def yi:Sx:=
 (sq wm (sq vK (sq vy (sq vT (sq wx (sq we (sq vd ae)))))))
def iJ:Fn:=fn [none,none,none] yi
def Jc:Sx:=
 (sq (set 2 (aZ [(ah [(cs r7),(dj (aj az (aa 0) (cs s4)) (un ey (ci (200))) (ci (0)))])])) (sq (am (aj cJ (aa 0) (ah [(cs s0),(cs s1),(cs s2)])) (sq (aE (bm a6 fm (aa 2) (aZ [(ah [(cs PF),(un ey (ci (300)))]),(ah [(cs Pb),(un ey (ci (150)))]),(ah [(cs Qq),(ci (50))])]))) (sq (am (aj cJ (aa 1) (ah [(cs s6),(cs s9)])) (sq (aE (bm a6 aO (aa 2) (ah [(cs LY),(un ey (ci (100)))]))) ae) ae) (sq (am (aj cJ (aa 1) (ah [(cs s7),(cs Cz)])) (sq (aE (bm a6 aO (aa 2) (ah [(cs L9),(ci (100))]))) ae) ae) ae))) ae) (sq (set 3 (mH [(cs s6),(ah [(cs LY),(un ey (ci (300)))]),(cs s9),(ah [(cs s48),(ci (100))]),(cs Cz),(ah [(cs L9),(ci (300))])])) (sq (am (bv [(aj az (aa 0) (cs s4)),(aj cJ (aa 1) (aa 3))]) (sq (aE (bm a6 aO (aa 2) (af ag (aa 3) (aa 1)))) ae) ae) (sq (al (aa 2)) ae)))))
def pV:Fn:=fn [none,none] Jc
def oX:Sx:=(set 3 (call pV [(aa 1),(aa 2)]))
def oM:Sx:=(fu [4,5] (af ag (aa 3) (call aH [(aa 0),(un bC (aa 3))])))
def oV:Sx:=(set 6 (call aH [(aa 0),(ci (12))]))
def oN:Sx:=(set 7 (call aH [(aa 0),(ci (4))]))
def wX:Sx:=(al (ah [(aa 4),(aa 5)]))
def oB:Sx:=(am (aj az (aa 7) (ci (0))) (sq wX ae) ae)
def xj:Sx:=(al (ah [(af au (af au (aa 4) (cs aa2)) (un jt (aa 6))),(af au (aa 5) (aa 6))]))
def oR:Sx:=(am (aj az (aa 7) (ci (1))) (sq xj ae) ae)
def xu:Sx:=(al (ah [(af au (af au (aa 4) (cs GZ)) (un jt (aa 6))),(af dQ (aa 5) (aa 6))]))
def oJ:Sx:=(am (aj az (aa 7) (ci (2))) (sq xu ae) ae)
def oI:Sx:=(al (dj (aj az (af ck (aa 6) (ci (2))) (ci (0))) (ah [(af au (cs Zy) (un jt (aa 6))),(un ey (aa 6))]) (ah [(un jt (af dQ (aa 5) (aa 6))),(af dQ (aa 5) (aa 6))])))
def Eo:Sx:=
 (sq oX (sq oM (sq oV (sq oN (sq oB (sq oR (sq oJ (sq oI ae))))))))
def dG:Fn:=fn [none,none,none] Eo
def m9:Sx:=(fu [3,4] (call dG [(aa 0),(aa 1),(cs kr)]))
def nN:Sx:=(set 5 (aZ [(af au (cs vB) (aa 3)),(cs yQ)]))
def yk:Sx:=(al (ah [(call cB [(af au (cs E8) (aa 2)),(dj (aj az (call aH [(aa 0),(ci (2))]) (ci (1))) (un OY (aa 5)) (aa 5)),(aa 0)]),(ah [(aa 4),(ah [(cs Fp),(cs RR)])])]))
def Bo:Sx:=
 (sq m9 (sq nN (sq yk ae)))
def fD:Fn:=fn [none,none,none] Bo
def uw:Sx:=(set 4 (aN .none))
def uF:Sx:=(set 5 (aZ []))
def uu:Sx:=(set 6 (eG (gO (ci (0)) (call aH [(aa 0),(ci (3))])) [7] lL (af ag (aN sY) (call aH [(aa 0),(ci (4))]))))
def rZ:Sx:=(set 8 (af ag (ah [(cs r7),(cs OG),(cs Oy)]) (call aH [(aa 0),(ci (3))])))
def rM:Sx:=(set 9 (af ag (aN AC) (call aH [(aa 0),(ci (6))])))
def rR:Sx:=(set 10 (af ag (ah [(cs aQ),(cs Fp)]) (call aH [(aa 0),(ci (2))])))
def A1:Sx:=(fu [11,12] (call dG [(aa 0),(aa 1),(aa 9)]))
def By:Sx:=(aE (bm a6 aO (aa 5) (af au (af au (af au (af au (af au (af au (cs FA) (aa 8)) (cs SL)) (aa 9)) (dj (aj cM (aa 10) (cs aQ)) (cs TP) (cs aQ))) (cs SH)) (aa 11))))
def rm:Sx:=(set 13 (af ag (ah [(cs aQ),(cs qd),(cs nH)]) (call aH [(aa 0),(ci (3))])))
def yG:Sx:=(aE (bm a6 aO (aa 5) (af au (cs JZ) (aa 13))))
def pS:Sx:=(am (aj cM (aa 13) (cs aQ)) (sq yG ae) ae)
def pR:Sx:=(set 4 (ah [(aa 8),(aa 9),(aa 12),(aa 10),(aa 13)]))
def i9:Sx:=(am (aj gA (call aH [(aa 0),(ci (3))]) (ci (0))) (sq rZ (sq rM (sq rR (sq A1 (sq By (sq rm (sq pS (sq pR ae)))))))) ae)
def uJ:Sx:=(set 5 (af au (af au (eG (di (bF (aa 6) (aN .none) (ci (1)))) [14] lL (af ag (aa 14) (ci (0)))) (aa 5)) (eG (di (bF (aa 6) (ci (1)) (aN .none))) [14] lL (af ag (aa 14) (ci (0))))))
def uU:Sx:=(set 15 (aZ [(ah [(cs aU),(cs er),(aa 1),(aa 2),(aa 3),(aa 4)])]))
def uO:Sx:=(aE (bm a6 fm (aa 15) (eG (di (aa 6)) [14] lL (ah [(cs aU),(cs fH),(aa 1),(aa 2),(aa 3),(ah [(af ag (aa 14) (ci (1))),(af ag (aa 14) (ci (2))),(ah [(cs aQ),(ci (0))])])]))))
def uj:Sx:=(al (ah [(call cB [(af au (cs FZ) (aa 3)),(aa 5),(aa 0)]),(aa 15)]))
def IV:Sx:=
 (sq uw (sq uF (sq uu (sq i9 (sq uJ (sq uU (sq uO (sq uj ae))))))))
def lD:Fn:=fn [none,none,none,none] IV
def An:Sx:=(set 3 (aZ []))
def Ai:Sx:=(set 4 (aZ []))
def xc:Sx:=(set 6 (eG (di (aa 1)) [7] lL (af ag (af ag (aN (.fd 2)) (aa 7)) (call aH [(aa 0),(ci (3))]))))
def xn:Sx:=(set 8 (bm dK eV (cs Bp) (eG (di (aa 6)) [9] lL (af ag (aa 9) (ci (0))))))
def xl:Sx:=(set 10 (af jx (call aH [(aa 0),(ci (2))]) (ci (61000))))
def uV:Sx:=(set 8 (af au (aa 8) (cs s269)))
def xd:Sx:=(am (aj gA (aa 10) (ci (0))) (sq uV ae) ae)
def xh:Sx:=(set 11 (aN .none))
def uC:Sx:=(set 11 (af ag (ah [(ah [(cs nH),(cs aQ)]),(ah [(cs BX),(cs G0)])]) (call aH [(aa 0),(ci (2))])))
def uH:Sx:=(set 8 (af au (af au (aa 8) (cs t9)) (un IK (bm dK eV (cs eI) (aa 11)))))
def sh:Sx:=(set 11 (bF (ah [(ci (167772161)),(ci (22))]) (aN .none) (un bC (aa 2))))
def r8:Sx:=(set 8 (af au (af au (aa 8) (cs t9)) (dj (aj az (un bC (aa 2)) (ci (1))) (cs Fm) (cs ZK))))
def uo:Sx:=(am (bP (isNone (aa 2))) (sq sh (sq r8 ae)) ae)
def xg:Sx:=(am (aj az (aa 2) (cs iV)) (sq uC (sq uH ae)) (sq uo ae))
def wZ:Sx:=(aE (bm a6 aO (aa 3) (aa 8)))
def wW:Sx:=(aE (bm a6 aO (aa 4) (ah [(un eN (eG (di (aa 6)) [9] lL (ah [(af ag (aa 9) (ci (1))),(af ag (aa 9) (ci (2)))]))),(aa 11),(aa 10),(dj (aj gA (aa 10) (ci (0))) (cs Ug) (cs aQ))])))
def li:Sx:=
 (sq xc (sq xn (sq xl (sq xd (sq xh (sq xg (sq wZ (sq wW ae))))))))
def jB:Sx:=(cI (gO (ci (0)) (call aH [(aa 0),(ci (3))])) [5] li)
def Am:Sx:=(al (ah [(af au (af au (cs J4) (bm dK eV (cs A7) (aa 3))) (cs nP)),(un eN (aa 4))]))
def CE:Sx:=
 (sq An (sq Ai (sq jB (sq Am ae))))
def iB:Fn:=fn [none,none,none] CE
def zy:Sx:=(set 4 (af ag (ah [(cs dO),(cs fS)]) (call aH [(aa 0),(ci (2))])))
def yz:Sx:=(set 5 (af ag (ah [(ah [(cs ma)]),(ah [(cs ma),(cs EW)]),(ah [(cs EW)])]) (call aH [(aa 0),(ci (3))])))
def zl:Sx:=(set 6 (aN .none))
def yZ:Sx:=(set 7 (af au (cs FA) (bm dK eV (cs Bp) (aa 5))))
def E1:Sx:=(set 6 (af ag (ah [(cs iV),(ah [(cs ma)]),(ah [(cs ma),(cs EW)])]) (call aH [(aa 0),(ci (3))])))
def Gf:Sx:=(set 7 (af au (af au (aa 7) (cs t9)) (dj (aj az (aa 6) (cs iV)) (aa 6) (bm dK eV (cs Bp) (aa 6)))))
def y0:Sx:=(am (aj az (aa 4) (cs fS)) (sq E1 (sq Gf ae)) ae)
def zr:Sx:=(set 8 (call aH [(aa 0),(ci (16))]))
def yd:Sx:=(set 9 (eG (HW (ah [(cs R7),(cs Rn),(cs Sv),(cs eu)])) [10,11] (aj az (af ck (af f6 (aa 8) (af ig (ci (2)) (aa 10))) (ci (2))) (ci (1))) (aa 11)))
def zB:Sx:=(set 12 (af ag (ah [(ci (0)),(ci (3600000)),(ci (5500))]) (call aH [(aa 0),(ci (3))])))
def zm:Sx:=(set 13 (af ag (ah [(ci (0)),(ci (5)),(ci (65535))]) (call aH [(aa 0),(ci (3))])))
def yH:Sx:=(set 14 (gE (aj az (call aH [(aa 0),(ci (2))]) (ci (1)))))
def wM:Sx:=(set 15 (dj (aj cM (aa 9) (aZ [])) (aZ [(af au (cs s276) (bm dK eV (cs A7) (un OY (aa 9))))]) (aZ [])))
def Cu:Sx:=(aE (bm a6 aO (aa 15) (af au (cs T9) (dj (aj gA (aa 12) (ci (5500))) (cs Ry) (cs Um)))))
def wO:Sx:=(am (aj gA (aa 12) (ci (0))) (sq Cu ae) ae)
def C2:Sx:=(aE (bm a6 aO (aa 15) (af au (cs Ti) (un jt (aa 13)))))
def wF:Sx:=(am (aj gA (aa 13) (ci (0))) (sq C2 ae) ae)
def DX:Sx:=(aE (bm a6 aO (aa 15) (cs qV)))
def wG:Sx:=(am (a7 (aa 14)) (sq DX ae) ae)
def Hq:Sx:=(fu [16,17] (call iB [(aa 0),(aa 5),(aa 6)]))
def wD:Sx:=(set 18 (af au (aZ [(aa 7)]) (dj (aj cM (aa 17) (ah [])) (aZ [(aa 16)]) (aZ []))))
def wP:Sx:=(set 15 (dj (aj az (call aH [(aa 0),(ci (2))]) (ci (0))) (af au (aa 18) (aa 15)) (af au (aa 15) (aa 18))))
def DC:Sx:=(aE (bm a6 aO (aa 9) (cs eu)))
def wB:Sx:=(am (bv [(aj gA (aa 12) (ci (0))),(aj gn (cs eu) (aa 9))]) (sq DC ae) ae)
def wJ:Sx:=(set 19 (aZ [(ah [(cs aU),(aa 4),(aa 1),(aa 2),(aa 3),(ah [(aa 5),(aa 6),(un eN (aa 9)),(aa 12),(aa 13),(aa 14)])])]))
def sP:Sx:=(aE (bm a6 aO (aa 19) (ah [(cs aU),(cs ly),(aa 1),(aa 2),(aa 3),(aa 17)])))
def wC:Sx:=(am (aj cM (aa 17) (ah [])) (sq sP ae) ae)
def wR:Sx:=(al (ah [(call cB [(af au (af au (aa 4) (cs eI)) (aa 3)),(aa 15),(aa 0)]),(aa 19)]))
def Ny:Sx:=
 (sq zy (sq yz (sq zl (sq yZ (sq y0 (sq zr (sq yd (sq zB (sq zm (sq yH (sq wM (sq wO (sq wF (sq wG (sq Hq (sq wD (sq wP (sq wB (sq wJ (sq wC (sq wR ae)))))))))))))))))))))
def pC:Fn:=fn [none,none,none,none] Ny
def mq:Sx:=(set 4 (aZ [(af ck (aa 0) (af ig (ci (2)) (ci (120))))]))
def mz:Sx:=(set 5 (call aH [(aa 4),(ci (7))]))
def Br:Sx:=(al (call lD [(aa 4),(aa 1),(aa 2),(aa 3)]))
def F7:Sx:=(am (aj az (aa 5) (ci (5))) (sq Br ae) ae)
def Cf:Sx:=(al (call pC [(aa 4),(aa 1),(aa 2),(aa 3)]))
def EV:Sx:=(am (aj az (aa 5) (ci (6))) (sq Cf ae) ae)
def Fq:Sx:=(set 6 (af ag (ah [(cs nZ),(cs mu),(cs sZ),(cs il),(cs iG)]) (aa 5)))
def Bu:Sx:=(fu [7,8] (call iJ [(aa 4),(aa 1),(aa 3)]))
def yc:Sx:=(fu [7,8] (call fD [(aa 4),(aa 1),(aa 3)]))
def yA:Sx:=(fu [7,8] (call rP [(aa 4),(aa 6),(aa 3)]))
def Cg:Sx:=(am (aj az (aa 5) (ci (4))) (sq yc ae) (sq yA ae))
def uN:Sx:=(am (aj az (aa 5) (ci (3))) (sq Bu ae) (sq Cg ae))
def um:Sx:=(al (ah [(aa 7),(aZ [(ah [(cs aU),(aa 6),(aa 1),(aa 2),(aa 3),(aa 8)])])]))
def lH:Sx:=
 (sq mq (sq mz (sq F7 (sq EV (sq Fq (sq uN (sq um ae)))))))
def df:Fn:=fn [none,none,none,none] lH
def qO:Sx:=(set 3 (aZ [(af ck (aa 0) (af ig (ci (2)) (ci (120))))]))
def rU:Sx:=(set 4 (call aH [(aa 3),(ci (14))]))
def pY:Sx:=(set 5 (af ag (aN sY) (call aH [(aa 3),(ci (4))])))
def rN:Sx:=(set 6 (call aH [(aa 3),(ci (1000))]))
def qX:Sx:=(set 7 (af au (af au (af au (aa 1) (cs eI)) (aa 2)) (cs eI)))
def nB:Sx:=(fu [8,9,10] (af ag (ah [(ah [(cs aU),(cs aQ),(cs aQ)]),(ah [(cs mE),(cs Ub),(cs rY)]),(ah [(cs aU),(cs SO),(cs e9)]),(ah [(cs kH),(cs TZ),(cs e9)])]) (aa 4)))
def ya:Sx:=(set 11 (af au (af au (af au (af au (af au (aa 8) (cs Sq)) (aa 7)) (cs Tz)) (dj (aj cM (aa 9) (cs aQ)) (af au (af au (aa 9) (un jt (aa 6))) (cs eI)) (cs aQ))) (af ag (aa 5) (ci (0)))))
def nj:Sx:=(al (ah [(aa 11),(ah [(aa 8),(cs fH),(aa 1),(aa 2),(cs mn),(ah [(af ag (aa 5) (ci (1))),(af ag (aa 5) (ci (2))),(ah [(aa 10),(dj (aj cM (aa 10) (cs aQ)) (aa 6) (ci (0)))])])])]))
def km:Sx:=(am (aj fz (aa 4) (ci (4))) (sq nB (sq ya (sq nj ae))) ae)
def zv:Sx:=(al (ah [(af au (af au (af au (cs TV) (aa 7)) (cs Sw)) (un jt (aa 6))),(ah [(cs jS),(cs fH),(aa 1),(aa 2),(cs mn),(ah [(ah []),(cs aQ),(ah [(cs e9),(aa 6)])])])]))
def qG:Sx:=(am (aj az (aa 4) (ci (4))) (sq zv ae) ae)
def yW:Sx:=(al (ah [(cs s289),(ah [(cs EX),(cs RA),(cs aQ),(cs aQ),(cs aQ),(ah [])])]))
def qT:Sx:=(am (aj az (aa 4) (ci (5))) (sq yW ae) ae)
def zu:Sx:=(al (ah [(af au (af au (cs s290) (aa 7)) (cs tG)),(ah [(cs EX),(cs dO),(aa 1),(aa 2),(cs tG),(ah [])])]))
def qy:Sx:=(am (aj az (aa 4) (ci (6))) (sq zu ae) ae)
def yE:Sx:=(al (ah [(af au (af au (cs s292) (aa 7)) (cs s293)),(ah [(cs Kl),(cs er),(aa 1),(aa 2),(cs mn),(cs Bg)])]))
def rD:Sx:=(am (aj az (aa 4) (ci (7))) (sq yE ae) ae)
def w8:Sx:=(al (ah [(af au (af au (cs s295) (aa 7)) (cs s296)),(ah [(cs ON),(cs mu),(aa 1),(aa 2),(cs s296),(ah [])])]))
def oZ:Sx:=(am (aj az (aa 4) (ci (8))) (sq w8 ae) ae)
def oq:Sx:=(set 12 (ah [(ah [(ci (167772161)),(ci (167772161))])]))
def wS:Sx:=(set 11 (af au (af au (cs s297) (aa 7)) (cs s298)))
def w7:Sx:=(al (ah [(aa 11),(ah [(cs Io),(cs ly),(aa 1),(aa 2),(cs tG),(ah [(ah [(aa 12),(ah [(cs Kq),(cs G0)]),(ci (0)),(cs aQ)])])])]))
def oG:Sx:=(am (aj az (aa 4) (ci (9))) (sq wS (sq w7 ae)) ae)
def xr:Sx:=(al (ah [(af au (af au (cs s299) (aa 7)) (cs s300)),(ah [(cs ze),(cs ly),(aa 1),(aa 2),(cs tG),(ah [(ah [(aa 12),(aN .none),(ci (0)),(cs aQ)])])])]))
def oK:Sx:=(am (aj az (aa 4) (ci (10))) (sq xr ae) ae)
def w9:Sx:=(al (ah [(af au (af au (cs s301) (aa 7)) (cs s302)),(ah [(cs ze),(cs il),(aa 1),(aa 2),(cs s302),(ah [])])]))
def oF:Sx:=(am (aj az (aa 4) (ci (11))) (sq w9 ae) ae)
def wV:Sx:=(al (ah [(af au (af au (cs s303) (aa 7)) (cs s304)),(ah [(cs Io),(cs fL),(aa 1),(aa 2),(cs aQ),(ah [(cs mD)])])]))
def oP:Sx:=(am (aj az (aa 4) (ci (12))) (sq wV ae) ae)
def oH:Sx:=(al (ah [(af au (af au (cs s305) (aa 2)) (cs s306)),(ah [(cs aU),(cs sZ),(cs s0),(aa 2),(cs s307),(ah [(aN (.bool false)),(ci (5)),(cs s156),(ci (5)),(aN (.bool false))])])]))
def Gw:Sx:=
 (sq qO (sq rU (sq pY (sq rN (sq qX (sq km (sq qG (sq qT (sq qy (sq rD (sq oZ (sq oq (sq oG (sq oK (sq oF (sq oP (sq oH ae)))))))))))))))))
def eC:Fn:=fn [none,none,none] Gw
def fi:Tx:=(aj cM (af ag (aw bo (aa 1) []) (ci (0))) (cs vJ))
def hV:Sx:=
 (sq (aE (bm a6 fm (aa 3) (call ew [(aa 1),(aa 2)]))) (sq (aE (call dn [(aa 1)])) ae))
def KP (R:Fn):Sx:=
 (sq (HV R 1 (aa 0)) (sq (set 2 (call lK [])) (sq (set 3 (aZ [])) (sq (Kp (sq (aE (call fe [(aa 1)])) (sq (wh fi hV) ae))) (sq (al (aa 3)) ae)))))
def eF (R:Fn):Fn:=fn [none] (KP R)
def DW (P C R:Fn):Sx:=
 (sq (set 1 (af au (bF (aa 0) (aN .none) (ci (7))) (bF (un HT (call pB [])) (un bC (bF (aa 0) (aN .none) (ci (7)))) (aN .none)))) (sq (cI (di (af pc (aN eJ) (af ck (af f6 (af ag (aa 1) (ci (3))) (ci (7))) (ci (2))))) [2,3,4] (sq (am (aj cM (call R [(aa 2)]) (ah [(aa 3),(ci (1)),(aa 4)])) (sq (al (aN (.bool false))) ae) ae) ae)) (sq (set 5 (af ag (aN fk) (af ck (af au (af f6 (af ag (aa 1) (ci (0))) (ci (7))) (un bC (aa 0))) (ci (6))))) (sq (set 6 (af ag (ah [(cs Fu),(cs FV),(cs Bg)]) (af ck (af ag (aa 1) (ci (1))) (ci (3))))) (sq (set 7 (aZ [(ah [(cs aU),(cs fS),(aa 5),(aa 6),(cs tG),(ah [(ah [(cs ma)]),(cs iV),(ah []),(ci (0)),(ci (0)),(aN (.bool false))])])])) (sq (aE (bm a6 aO (aa 7) (ah [(cs aU),(cs fL),(aa 5),(aa 6),(cs aQ),(dj (aj az (af ck (af f6 (af ag (aa 1) (ci (2))) (ci (8))) (ci (2))) (ci (1))) (ah [(cs mD)]) (ah []))]))) (sq (set 8 (dj (aj az (af ck (af f6 (af ag (aa 1) (ci (2))) (ci (8))) (ci (2))) (ci (1))) (aZ [(cs OX)]) (aZ []))) (sq (set 9 (aZ [])) (sq (cI (gO (ci (0)) (ci (3))) [10] (sq (fu [2,11] (call P [(af ag (aa 1) (aa 10)),(aa 5),(aa 6),(af au (cs s311) (un jt (aa 10)))])) (sq (aE (bm a6 aO (aa 8) (aa 2))) (sq (aE (bm a6 fm (aa 9) (aa 11))) ae)))) (sq (cI (di (ah [(ah [(cs nZ),(cs mu),(cs sZ),(cs il),(cs iG)]),(ah [(cs er)]),(ah [(cs dO),(cs fS)]),(ah [(cs ly)]),(ah [(cs fH)])])) [12] (sq (aE (bm a6 fm (aa 7) (eG (di (aa 9)) [13] (aj cJ (af ag (aa 13) (ci (1))) (aa 12)) (aa 13)))) ae)) (sq (set 14 (aZ [(af au (af au (af au (af au (cs SV) (aa 5)) (cs eI)) (aa 6)) (cs RW))])) (sq (set 15 (af au (af au (dj (aj az (af ck (af ag (aa 1) (ci (3))) (ci (2))) (ci (0))) (cs Jx) (cs Jt)) (dj (aj az (aa 5) (cs s0)) (cs aQ) (af au (aa 5) (cs eI)))) (aa 6))) (sq (aE (bm a6 aO (aa 14) (call cB [(aa 15),(aa 8),(aZ [(af ck (af ag (aa 1) (ci (4))) (af ig (ci (2)) (ci (120))))])]))) (sq (cI (di (bF (aa 1) (ci (4)) (aN .none))) [16] (sq (fu [2,17] (call C [(aa 16),(aa 5),(aa 6)])) (sq (aE (bm a6 aO (aa 14) (aa 2))) (sq (aE (bm a6 aO (aa 7) (aa 17))) ae)))) (sq (al (gE (aj az (call R [(af au (af au (bm dK eV (cs bX) (bF (aa 14) (aN .none) (ci (3)))) (cs Ox)) (bm dK eV (cs FU) (bF (aa 14) (ci (3)) (aN .none))))]) (aa 7)))) ae)))))))))))))))
def f_law (P C R:Fn):Fn:=fn [none] (DW P C R)
end
end Mine
end
noncomputable section
open PySem PySem.W PyProof.Rows
namespace Mine
section
open PySem PySem.W PyProof.Rows
noncomputable def S (s:String):Str:=Str.ofString s
noncomputable def st (i:Nat):Stmt:=PySem.Challenge.pw_pq1059_01.main.body.getD i default
def mt (i j:Nat):Stmt:=match st i with
 | .ClassDef _ _ _ body .. =>body.getD j default
 |_=>default
noncomputable def aaX:Stmt->Str
 | .FunctionDef name .. =>name
 |_=>default
noncomputable def S1:Stmt->Arguments
 | .FunctionDef _ args .. =>args
 |_=>default
noncomputable def hA:Stmt->List Stmt
 | .FunctionDef _ _ body .. =>body
 |_=>[]
noncomputable def dZ:Stmt->Scope
 | .FunctionDef _ _ _ _ _ _ scope .. =>scope
 |_=>default
def tF (st:Stmt) (qual:Str) (dfl pm:Value) (cd:Addr):FuncData:={name:=aaX st,qualname:=qual,params:=S1 st,body:= .stmts (hA st),scope:=dZ st,globals:=3,closure:=[],defaults:=dfl,kwdefaults:= .none,pyModule:=pm,code:= .ref cd,builtins:=0}
def fO (st:Stmt) (qual:Str) (dfl pm:Value) (cd:Addr):Obj:={cls:= .type "function",data:= .func (tF st qual dfl pm cd)}
noncomputable def en (P:Params) (k:Str) (t:Tok) (v:Value):DictEntry:=⟨PyData.keyHash P k,.str k t,v⟩
def o0:Value:= .str (S "siftwall.book") 187
def o1:Value:= .str (S "siftwall.faults") 198
def o2:Value:= .str (S "siftwall.fields") 292
def o3:Value:= .str (S "siftwall.stores") 394
def o4:Value:= .str (S "siftwall.addresses") 462
def o5:Value:= .str (S "siftwall.octets") 563
def o6:Value:= .str (S "siftwall.types") 574
def o7:Value:= .str (S "siftwall.tokens") 707
def o8:Value:= .str (S "siftwall.readexpr") 903
def o9:Value:= .str (S "siftwall.readrule") 1228
def qR:Value:= .str (S "siftwall.readmade") 1386
def nI:Value:= .str (S "siftwall.readbook") 1511
def qu:Value:= .str (S "law_pq1059_01") 1707
def cv (c l a i b:Nat) (n q:Str) (r s t u:Value):Obj:=⟨(.type "code"),none,.fields #[.str n i,.str q (i+1),.str (S "/claim/cut.py") (i+2),.int l 0,.int a 0,.int 0 0,.int 0 0,.int 3 0,r,.bool true,.int 181 0,s,.none,t,u,.ref (c-1),.int b 0,.int l 0,.str (S "/claim/cut.py") (b+1)],#[]⟩
def sG (c l a i b:Nat) (x:Stmt) (q:String) (m d:Value) (n:String):Frag:=[(c,cv c l a i b (S n) (S q) (.ref (c-5)) (.ref (c-4)) (.ref (c-3)) (.ref (c-2))),(c+1,fO x (S q) d m c)]
def cf (c l a i b:Nat) (x:Stmt) (q:String) (m d:Value):Frag:=sG c l a i b x q m d q
def cgm (c l a i b:Nat) (x:Stmt) (q:String) (m d:Value) (n:String):Frag:=[(c,cv c l a i b (S n) (S q) (.ref (c-3)) (.ref (c-2)) .none .none),(c+1,fO x (S q) d m c)]
def cg (c l a i b:Nat) (x:Stmt) (q:String) (m d:Value):Frag:=cgm c l a i b x q m d q
def K (P:Params):Frag:=List.flatten [
 [  (1,⟨(.type "dict"),none,.dict #[en P (S "builtins") 162 (.ref 4),en P (S "__main__") 163 (.ref 5)] 2,#[]⟩),
 (2,⟨(.none),none,.dict #[en P (S "type.__subclasses__.Exception.0") 226 (.int 38 0),en P (S "type.__subclasses__.Exception.n") 227 (.int 1 0)] 2,#[]⟩),
 (3,⟨(.type "dict"),none,.dict #[en P (S "__name__") 165 (.str (S "law_pq1059_01") 1707),en P (S "__doc__") 166 (.none),en P (S "__package__") 167 (.none),en P (S "__loader__") 168 (.builtin "__main__.__loader__#opaque"),en P (S "__spec__") 169 (.none),en P (S "__annotations__") 170 (.ref 6),en P (S "__builtins__") 171 (.ref 4),en P (S "__file__") 173 (.str (S "/claim/cut.py") 172),en P (S "__cached__") 174 (.none),en P (S "priorities") 197 (.ref 21),en P (S "WallFault") 229 (.ref 38),en P (S "Misused") 245 (.ref 51),en P (S "BadText") 275 (.ref 71),en P (S "BadRule") 291 (.ref 83),en P (S "Tongue") 324 (.ref 102),en P (S "field_named") 332 (.ref 113),en P (S "is_worked") 339 (.ref 120),en P (S "field_under") 348 (.ref 127),en P (S "size_of") 358 (.ref 134),en P (S "bits_of_e") 367 (.ref 141),en P (S "type_of") 376 (.ref 148),en P (S "parts_of") 383 (.ref 155),en P (S "kinds_of") 393 (.ref 162),en P (S "boxes_meet") 404 (.ref 169),en P (S "conflict") 410 (.ref 176),en P (S "without_repeats") 421 (.ref 183),en P (S "is_for_joining") 430 (.ref 190),en P (S "joined") 443 (.ref 197),en P (S "check_apart") 453 (.ref 204),en P (S "tidy_set") 461 (.ref 211),en P (S "decimal_of") 473 (.ref 218),en P (S "hex_of") 484 (.ref 225),en P (S "ip4_of") 495 (.ref 232),en P (S "groups_of") 509 (.ref 239),en P (S "ip6_of") 521 (.ref 246),en P (S "mac_of") 532 (.ref 253),en P (S "mask_of") 540 (.ref 260),en P (S "prefix_span") 550 (.ref 267),en P (S "prefix_of") 562 (.ref 274),en P (S "name_number") 573 (.ref 281),en P (S "based_number") 586 (.ref 288),en P (S "number_word") 593 (.ref 295),en P (S "time_units") 599 (.ref 302),en P (S "part_end") 608 (.ref 309),en P (S "time_word") 625 (.ref 316),en P (S "unquoted") 632 (.ref 323),en P (S "name_word") 640 (.ref 330),en P (S "name_span") 650 (.ref 337),en P (S "mask_word") 661 (.ref 344),en P (S "value_of_word") 672 (.ref 351),en P (S "address_span") 682 (.ref 358),en P (S "ends_span") 694 (.ref 365),en P (S "span_of_word") 706 (.ref 372),en P (S "is_word_sign") 715 (.ref 379),en P (S "run_end") 723 (.ref 386),en P (S "string_end") 734 (.ref 393),en P (S "put_run") 745 (.ref 400),en P (S "read_tokens") 759 (.ref 407),en P (S "token_words") 766 (.ref 414),en P (S "unexpected") 775 (.ref 421),en P (S "Reader") 885 (.ref 502),en P (S "expected") 893 (.ref 513),en P (S "number_here") 902 (.ref 520),en P (S "keyword") 912 (.ref 527),en P (S "out_of_range") 921 (.ref 534),en P (S "number_to") 931 (.ref 541),en P (S "read_text") 938 (.ref 548),en P (S "read_comment") 945 (.ref 555),en P (S "read_time") 954 (.ref 562),en P (S "type_here") 962 (.ref 569),en P (S "is_mask_kind") 970 (.ref 576),en P (S "resolved") 980 (.ref 583),en P (S "span_of_text") 989 (.ref 590),en P (S "value_of_text") 998 (.ref 597),en P (S "read_from") 1009 (.ref 604),en P (S "read_value") 1017 (.ref 611),en P (S "read_span") 1029 (.ref 618),en P (S "read_mask_value") 1039 (.ref 625),en P (S "barred") 1048 (.ref 632),en P (S "find_field") 1059 (.ref 639),en P (S "read_field") 1068 (.ref 646),en P (S "begins_expr") 1075 (.ref 653),en P (S "read_jhash") 1087 (.ref 660),en P (S "masked") 1100 (.ref 667),en P (S "read_plain") 1108 (.ref 674),en P (S "read_expr") 1116 (.ref 681),en P (S "read_verdict") 1124 (.ref 688),en P (S "read_box") 1136 (.ref 695),en P (S "read_datum") 1148 (.ref 702),en P (S "read_literal") 1161 (.ref 709),en P (S "read_braces") 1172 (.ref 716),en P (S "read_literals") 1181 (.ref 723),en P (S "read_elements") 1190 (.ref 730),en P (S "read_name") 1197 (.ref 737),en P (S "read_right") 1209 (.ref 744),en P (S "read_where") 1218 (.ref 751),en P (S "read_source") 1227 (.ref 758),en P (S "read_op") 1237 (.ref 765),en P (S "begins_expect") 1244 (.ref 772),en P (S "read_match") 1256 (.ref 779),en P (S "read_judgement") 1263 (.ref 786),en P (S "verdict_words") 1271 (.ref 793),en P (S "size_unit") 1280 (.ref 800),en P (S "sized") 1289 (.ref 807),en P (S "read_size") 1302 (.ref 815),en P (S "read_over") 1310 (.ref 822),en P (S "read_counter_body") 1318 (.ref 829),en P (S "read_quota_body") 1327 (.ref 836),en P (S "cut_word") 1336 (.ref 843),en P (S "read_rate") 1347 (.ref 850),en P (S "read_limit_body") 1359 (.ref 857),en P (S "read_statement") 1368 (.ref 864),en P (S "is_at_end") 1375 (.ref 871),en P (S "read_rule") 1385 (.ref 878),en P (S "skip_ends") 1394 (.ref 885),en P (S "want_end") 1401 (.ref 892),en P (S "open_block") 1408 (.ref 899),en P (S "word_in") 1417 (.ref 906),en P (S "one_of") 1427 (.ref 913),en P (S "kinds_told") 1433 (.ref 918),en P (S "read_type") 1441 (.ref 925),en P (S "read_types") 1449 (.ref 932),en P (S "read_set_flags") 1455 (.ref 937),en P (S "read_set_row") 1467 (.ref 944),en P (S "read_set_body") 1478 (.ref 951),en P (S "has_data") 1486 (.ref 958),en P (S "read_meter") 1496 (.ref 965),en P (S "read_expectation") 1502 (.ref 970),en P (S "read_devices") 1510 (.ref 977),en P (S "name_here") 1521 (.ref 984),en P (S "read_family") 1529 (.ref 991),en P (S "kinds_for") 1538 (.ref 998),en P (S "read_kind") 1548 (.ref 1005),en P (S "command_of") 1559 (.ref 1012),en P (S "priority_of") 1572 (.ref 1019),en P (S "read_priority") 1584 (.ref 1026),en P (S "read_base") 1595 (.ref 1033),en P (S "read_chain") 1610 (.ref 1040),en P (S "read_rule_about") 1623 (.ref 1047),en P (S "read_set") 1636 (.ref 1054),en P (S "read_element_about") 1648 (.ref 1061),en P (S "read_flowtable") 1657 (.ref 1068),en P (S "read_made") 1669 (.ref 1075),en P (S "in_ranks") 1680 (.ref 1082),en P (S "read_table") 1692 (.ref 1089),en P (S "read_command") 1706 (.ref 1096),en P (S "_law_types") 1738 (.ref 1097),en P (S "_law_fields") 1757 (.ref 1106),en P (S "_law_families") 1764 (.ref 1111),en P (S "_law_hooks") 1771 (.ref 1112),en P (S "_law_keys") 1794 (.ref 1113),en P (S "_law_rules") 1834 (.ref 1150),en P (S "_law_own") 1840 (.ref 1157),en P (S "_law_faults") 1859 (.ref 1164),en P (S "_law_take") 1868 (.ref 1171),en P (S "_law_block") 1874 (.ref 1176),en P (S "_law_meter") 1889 (.ref 1183),en P (S "_law_expectation") 1903 (.ref 1190),en P (S "_law_names") 1913 (.ref 1197),en P (S "_law_priority") 1927 (.ref 1204),en P (S "_law_flowtable") 1939 (.ref 1211),en P (S "_law_chain") 1945 (.ref 1216),en P (S "_law_elements") 1951 (.ref 1221),en P (S "_law_set") 1957 (.ref 1226),en P (S "_law_piece") 1972 (.ref 1233),en P (S "_law_command") 1991 (.ref 1240),en P (S "_law_read") 2002 (.ref 1247),en P (S "law") 2008 (.ref 1252)] 168,#[]⟩)],
 cf 20 2 2 189 195 (st 1) "priorities" o0 (.none),
 sG 34 25 2 212 217 (mt 3 0) "WallFault.__init__" o1 (.none) "__init__",
 [  (36,⟨(.type "tuple"),none,.seq #[.str (S "at") 220,.str (S "why") 221] 0,#[]⟩),
 (37,⟨(.type "dict"),none,.dict #[en P (S "__module__") 207 (.str (S "siftwall.faults") 198),en P (S "__firstlineno__") 211 (.int 23 210),en P (S "__init__") 219 (.ref 35),en P (S "__static_attributes__") 222 (.ref 36),en P (S "__weakref__") 224 (.ref 39),en P (S "__doc__") 225 (.none)] 3,#[]⟩),
 (38,⟨(.type "type"),none,.cls {name:=(S "WallFault"),bases:=[.type "Exception"],mro:=[.ref 38,.type "Exception",.type "BaseException",.type "object"],ns:=37,qualname:=(S "WallFault"),hasDict:=true,subclasses:=[.ref 51,.ref 71,.ref 83],abstract:=false,hasDel:=false},#[some (.ref 22),none,some (.str (S "WallFault") 200),some (.str (S "WallFault") 208),some (.builtin "Exception.__new__"),some (.bool true)]⟩),
 (39,⟨(.type "getset_descriptor"),none,.fields #[.str (S "__weakref__") 223,.ref 38,.builtin "ExceptionGroup.__weakref__",.none],#[]⟩),
 (49,⟨(.type "tuple"),none,.seq #[] 0,#[]⟩),
 (50,⟨(.type "dict"),none,.dict #[en P (S "__module__") 237 (.str (S "siftwall.faults") 198),en P (S "__firstlineno__") 241 (.int 29 240),en P (S "__static_attributes__") 242 (.ref 49),en P (S "__doc__") 243 (.none)] 2,#[]⟩),
 (51,⟨(.type "type"),none,.cls {name:=(S "Misused"),bases:=[.ref 38],mro:=[.ref 51,.ref 38,.type "Exception",.type "BaseException",.type "object"],ns:=50,qualname:=(S "Misused"),hasDict:=true,subclasses:=[],abstract:=false,hasDel:=false},#[some (.ref 42),none,some (.str (S "Misused") 230),some (.str (S "Misused") 238),some (.builtin "Exception.__new__"),some (.bool true)]⟩),
 (61,⟨(.type "tuple"),none,.seq #[.int 0 258,.int 0 259] 0,#[]⟩)],
 sG 67 33 4 260 267 (mt 5 0) "BadText.__init__" o1 (.ref 61) "__init__",
 [  (69,⟨(.type "tuple"),none,.seq #[.str (S "column") 270,.str (S "row") 271] 0,#[]⟩),
 (70,⟨(.type "dict"),none,.dict #[en P (S "__module__") 253 (.str (S "siftwall.faults") 198),en P (S "__firstlineno__") 257 (.int 31 256),en P (S "__init__") 269 (.ref 68),en P (S "__static_attributes__") 272 (.ref 69),en P (S "__doc__") 273 (.none)] 2,#[]⟩),
 (71,⟨(.type "type"),none,.cls {name:=(S "BadText"),bases:=[.ref 38],mro:=[.ref 71,.ref 38,.type "Exception",.type "BaseException",.type "object"],ns:=70,qualname:=(S "BadText"),hasDict:=true,subclasses:=[],abstract:=false,hasDel:=false},#[some (.ref 54),none,some (.str (S "BadText") 246),some (.str (S "BadText") 254),some (.builtin "Exception.__new__"),some (.bool true)]⟩),
 (81,⟨(.type "tuple"),none,.seq #[] 0,#[]⟩),
 (82,⟨(.type "dict"),none,.dict #[en P (S "__module__") 283 (.str (S "siftwall.faults") 198),en P (S "__firstlineno__") 287 (.int 37 286),en P (S "__static_attributes__") 288 (.ref 81),en P (S "__doc__") 289 (.none)] 2,#[]⟩),
 (83,⟨(.type "type"),none,.cls {name:=(S "BadRule"),bases:=[.ref 38],mro:=[.ref 83,.ref 38,.type "Exception",.type "BaseException",.type "object"],ns:=82,qualname:=(S "BadRule"),hasDict:=true,subclasses:=[],abstract:=false,hasDel:=false},#[some (.ref 74),none,some (.str (S "BadRule") 276),some (.str (S "BadRule") 284),some (.builtin "Exception.__new__"),some (.bool true)]⟩)],
 sG 98 42 3 306 312 (mt 8 0) "Tongue.__init__" o2 (.none) "__init__",
 [  (100,⟨(.type "tuple"),none,.seq #[.str (S "fields") 315,.str (S "types") 316] 0,#[]⟩),
 (101,⟨(.type "dict"),none,.dict #[en P (S "__module__") 301 (.str (S "siftwall.fields") 292),en P (S "__firstlineno__") 305 (.int 40 304),en P (S "__init__") 314 (.ref 99),en P (S "__static_attributes__") 317 (.ref 100),en P (S "__dict__") 319 (.ref 103),en P (S "__weakref__") 321 (.ref 104),en P (S "__doc__") 322 (.none)] 4,#[]⟩),
 (102,⟨(.type "type"),none,.cls {name:=(S "Tongue"),bases:=[.type "object"],mro:=[.ref 102,.type "object"],ns:=101,qualname:=(S "Tongue"),hasDict:=true,subclasses:=[],abstract:=false,hasDel:=false},#[none,none,some (.str (S "Tongue") 294),some (.str (S "Tongue") 302),some (.builtin "object.__new__"),some (.bool true)]⟩),
 (103,⟨(.type "getset_descriptor"),none,.fields #[.str (S "__dict__") 318,.ref 102,.builtin "function.__dict__",.builtin "function.__dict__#set"],#[]⟩),
 (104,⟨(.type "getset_descriptor"),none,.fields #[.str (S "__weakref__") 320,.ref 102,.builtin "ExceptionGroup.__weakref__",.none],#[]⟩)],
 cf 112 45 2 325 330 (st 9) "field_named" o2 (.none),
 cf 119 49 1 333 337 (st 10) "is_worked" o2 (.none),
 cf 126 51 3 340 346 (st 11) "field_under" o2 (.none),
 cf 133 59 2 349 356 (st 12) "size_of" o2 (.none),
 cf 140 65 2 359 365 (st 13) "bits_of_e" o2 (.none),
 cf 147 72 2 368 374 (st 14) "type_of" o2 (.none),
 cf 154 75 1 377 381 (st 15) "parts_of" o2 (.none),
 cf 161 79 2 384 391 (st 16) "kinds_of" o2 (.none),
 cf 168 85 2 396 402 (st 18) "boxes_meet" o3 (.none),
 cf 175 90 0 405 408 (st 19) "conflict" o3 (.none),
 cf 182 92 1 411 419 (st 20) "without_repeats" o3 (.none),
 cf 189 103 1 422 428 (st 21) "is_for_joining" o3 (.none),
 cf 196 111 1 431 441 (st 22) "joined" o3 (.none),
 cf 203 121 1 444 451 (st 23) "check_apart" o3 (.none),
 cf 210 129 1 454 459 (st 24) "tidy_set" o3 (.none),
 cf 217 136 2 464 471 (st 26) "decimal_of" o4 (.none),
 cf 224 145 2 474 482 (st 27) "hex_of" o4 (.none),
 cf 231 155 1 485 493 (st 28) "ip4_of" o4 (.none),
 cf 238 166 2 496 507 (st 29) "groups_of" o4 (.none),
 cf 245 184 1 510 519 (st 30) "ip6_of" o4 (.none),
 cf 252 202 1 522 530 (st 31) "mac_of" o4 (.none),
 cf 259 213 2 533 538 (st 32) "mask_of" o4 (.none),
 cf 266 215 3 541 548 (st 33) "prefix_span" o4 (.none),
 cf 273 218 1 551 560 (st 34) "prefix_of" o4 (.none),
 cf 280 234 1 565 571 (st 36) "name_number" o5 (.none),
 cf 287 244 2 576 584 (st 38) "based_number" o6 (.none),
 cf 294 254 1 587 591 (st 39) "number_word" o6 (.none),
 cf 301 258 0 594 597 (st 40) "time_units" o6 (.none),
 cf 308 260 3 600 606 (st 41) "part_end" o6 (.none),
 cf 315 264 1 609 623 (st 42) "time_word" o6 (.none),
 cf 322 288 1 626 630 (st 43) "unquoted" o6 (.none),
 cf 329 292 1 633 638 (st 44) "name_word" o6 (.none),
 cf 336 299 1 641 648 (st 45) "name_span" o6 (.none),
 cf 343 310 2 651 659 (st 46) "mask_word" o6 (.none),
 cf 350 320 3 662 670 (st 47) "value_of_word" o6 (.none),
 cf 357 341 3 673 680 (st 48) "address_span" o6 (.none),
 cf 364 346 3 683 692 (st 49) "ends_span" o6 (.none),
 cf 371 358 3 695 704 (st 50) "span_of_word" o6 (.none),
 cf 378 374 1 709 713 (st 52) "is_word_sign" o7 (.none),
 cf 385 376 2 716 721 (st 53) "run_end" o7 (.none),
 cf 392 380 4 724 732 (st 54) "string_end" o7 (.none),
 cf 399 387 4 735 743 (st 55) "put_run" o7 (.none),
 cf 406 401 1 746 757 (st 56) "read_tokens" o7 (.none),
 cf 413 439 1 760 764 (st 57) "token_words" o7 (.none),
 cf 420 447 2 767 773 (st 58) "unexpected" o7 (.none),
 sG 434 452 3 788 794 (mt 59 0) "Reader.__init__" o7 (.none) "__init__",
 [  (436,⟨(.type "tuple"),none,.seq #[.int 0 797] 0,#[]⟩)],
 sG 442 460 2 798 804 (mt 59 1) "Reader.look" o7 (.ref 436) "look",
 sG 449 466 1 807 812 (mt 59 2) "Reader.take" o7 (.none) "take",
 sG 456 471 2 815 821 (mt 59 3) "Reader.is_sign" o7 (.none) "is_sign",
 sG 463 475 2 824 830 (mt 59 4) "Reader.is_word" o7 (.none) "is_word",
 sG 470 479 2 833 838 (mt 59 5) "Reader.skip_sign" o7 (.none) "skip_sign",
 sG 477 485 2 841 846 (mt 59 6) "Reader.want_sign" o7 (.none) "want_sign",
 sG 484 489 1 849 853 (mt 59 7) "Reader.want_word" o7 (.none) "want_word",
 sG 491 494 1 856 860 (mt 59 8) "Reader.skip_rows" o7 (.none) "skip_rows",
 sG 498 498 2 863 869 (mt 59 9) "Reader.fault" o7 (.none) "fault",
 [  (500,⟨(.type "tuple"),none,.seq #[.str (S "at") 872,.str (S "family") 873,.str (S "known") 874,.str (S "table") 875,.str (S "tokens") 876,.str (S "tongue") 877] 0,#[]⟩),
 (501,⟨(.type "dict"),none,.dict #[en P (S "__module__") 783 (.str (S "siftwall.tokens") 707),en P (S "__firstlineno__") 787 (.int 450 786),en P (S "__init__") 796 (.ref 435),en P (S "look") 806 (.ref 443),en P (S "take") 814 (.ref 450),en P (S "is_sign") 823 (.ref 457),en P (S "is_word") 832 (.ref 464),en P (S "skip_sign") 840 (.ref 471),en P (S "want_sign") 848 (.ref 478),en P (S "want_word") 855 (.ref 485),en P (S "skip_rows") 862 (.ref 492),en P (S "fault") 871 (.ref 499),en P (S "__static_attributes__") 878 (.ref 500),en P (S "__dict__") 880 (.ref 503),en P (S "__weakref__") 882 (.ref 504),en P (S "__doc__") 883 (.none)] 4,#[]⟩),
 (502,⟨(.type "type"),none,.cls {name:=(S "Reader"),bases:=[.type "object"],mro:=[.ref 502,.type "object"],ns:=501,qualname:=(S "Reader"),hasDict:=true,subclasses:=[],abstract:=false,hasDel:=false},#[none,none,some (.str (S "Reader") 776),some (.str (S "Reader") 784),some (.builtin "object.__new__"),some (.bool true)]⟩),
 (503,⟨(.type "getset_descriptor"),none,.fields #[.str (S "__dict__") 879,.ref 502,.builtin "function.__dict__",.builtin "function.__dict__#set"],#[]⟩),
 (504,⟨(.type "getset_descriptor"),none,.fields #[.str (S "__weakref__") 881,.ref 502,.builtin "ExceptionGroup.__weakref__",.none],#[]⟩)],
 cf 512 501 2 886 891 (st 60) "expected" o7 (.none),
 cf 519 503 1 894 900 (st 61) "number_here" o7 (.none),
 cf 526 513 2 905 910 (st 63) "keyword" o8 (.none),
 cf 533 517 3 913 919 (st 64) "out_of_range" o8 (.none),
 cf 540 519 2 922 929 (st 65) "number_to" o8 (.none),
 cf 547 526 1 932 936 (st 66) "read_text" o8 (.none),
 cf 554 530 1 939 943 (st 67) "read_comment" o8 (.none),
 cf 561 535 1 946 952 (st 68) "read_time" o8 (.none),
 cf 568 542 2 955 960 (st 69) "type_here" o8 (.none),
 cf 575 546 2 963 968 (st 70) "is_mask_kind" o8 (.none),
 cf 582 548 4 971 978 (st 71) "resolved" o8 (.none),
 cf 589 554 3 981 987 (st 72) "span_of_text" o8 (.none),
 cf 596 556 3 990 996 (st 73) "value_of_text" o8 (.none),
 cf 603 558 3 999 1007 (st 74) "read_from" o8 (.none),
 cf 610 567 2 1010 1015 (st 75) "read_value" o8 (.none),
 cf 617 569 2 1018 1027 (st 76) "read_span" o8 (.none),
 cf 624 584 2 1030 1037 (st 77) "read_mask_value" o8 (.none),
 cf 631 592 3 1040 1046 (st 78) "barred" o8 (.none),
 cf 638 597 1 1049 1057 (st 79) "find_field" o8 (.none),
 cf 645 613 1 1060 1066 (st 80) "read_field" o8 (.none),
 cf 652 620 1 1069 1073 (st 81) "begins_expr" o8 (.none),
 cf 659 622 1 1076 1085 (st 82) "read_jhash" o8 (.none),
 cf 666 639 2 1088 1098 (st 83) "masked" o8 (.none),
 cf 673 656 1 1101 1106 (st 84) "read_plain" o8 (.none),
 cf 680 663 1 1109 1114 (st 85) "read_expr" o8 (.none),
 cf 687 670 1 1117 1122 (st 86) "read_verdict" o8 (.none),
 cf 694 681 2 1125 1134 (st 87) "read_box" o8 (.none),
 cf 701 692 3 1137 1146 (st 88) "read_datum" o8 (.none),
 cf 708 706 4 1149 1159 (st 89) "read_literal" o8 (.none),
 cf 715 719 4 1162 1170 (st 90) "read_braces" o8 (.none),
 cf 722 734 3 1173 1179 (st 91) "read_literals" o8 (.none),
 cf 729 736 3 1182 1188 (st 92) "read_elements" o8 (.none),
 cf 736 738 1 1191 1195 (st 93) "read_name" o8 (.none),
 cf 743 741 3 1198 1207 (st 94) "read_right" o8 (.none),
 cf 750 758 3 1210 1216 (st 95) "read_where" o8 (.none),
 cf 757 762 2 1219 1225 (st 96) "read_source" o8 (.none),
 cf 764 775 1 1230 1235 (st 98) "read_op" o9 (.none),
 cf 771 782 1 1238 1242 (st 99) "begins_expect" o9 (.none),
 cf 778 784 1 1245 1254 (st 100) "read_match" o9 (.none),
 cf 785 804 1 1257 1261 (st 101) "read_judgement" o9 (.none),
 cf 792 806 0 1264 1269 (st 102) "verdict_words" o9 (.none),
 cf 799 811 2 1272 1278 (st 103) "size_unit" o9 (.none),
 cf 806 814 3 1281 1287 (st 104) "sized" o9 (.none),
 [  (808,⟨(.type "tuple"),none,.seq #[.int 4 1290] 0,#[]⟩)],
 cf 814 818 2 1291 1300 (st 105) "read_size" o9 (.ref 808),
 cf 821 827 1 1303 1308 (st 106) "read_over" o9 (.none),
 cf 828 832 1 1311 1316 (st 107) "read_counter_body" o9 (.none),
 cf 835 839 1 1319 1325 (st 108) "read_quota_body" o9 (.none),
 cf 842 846 1 1328 1334 (st 109) "cut_word" o9 (.none),
 cf 849 854 1 1337 1345 (st 110) "read_rate" o9 (.none),
 cf 856 873 1 1348 1357 (st 111) "read_limit_body" o9 (.none),
 cf 863 885 2 1360 1366 (st 112) "read_statement" o9 (.none),
 cf 870 892 1 1369 1373 (st 113) "is_at_end" o9 (.none),
 cf 877 894 2 1376 1383 (st 114) "read_rule" o9 (.none),
 cf 884 908 1 1388 1392 (st 116) "skip_ends" qR (.none),
 cf 891 911 1 1395 1399 (st 117) "want_end" qR (.none),
 cf 898 915 1 1402 1406 (st 118) "open_block" qR (.none),
 cf 905 918 2 1409 1415 (st 119) "word_in" qR (.none),
 cf 912 923 3 1418 1425 (st 120) "one_of" qR (.none),
 cg 917 929 2 1428 1431 (st 121) "kinds_told" qR (.none),
 cf 924 933 1 1434 1439 (st 122) "read_type" qR (.none),
 cf 931 943 1 1442 1447 (st 123) "read_types" qR (.none),
 cg 936 948 1 1450 1453 (st 124) "read_set_flags" qR (.none),
 cf 943 956 3 1456 1465 (st 125) "read_set_row" qR (.none),
 cf 950 986 2 1468 1476 (st 126) "read_set_body" qR (.none),
 cf 957 999 1 1479 1484 (st 127) "has_data" qR (.none),
 cf 964 1006 2 1487 1494 (st 128) "read_meter" qR (.none),
 cg 969 1020 1 1497 1500 (st 129) "read_expectation" qR (.none),
 cf 976 1042 1 1503 1508 (st 130) "read_devices" qR (.none),
 cf 983 1055 1 1513 1519 (st 132) "name_here" nI (.none),
 cf 990 1064 1 1522 1527 (st 133) "read_family" nI (.none),
 cf 997 1070 1 1530 1536 (st 134) "kinds_for" nI (.none),
 cf 1004 1074 2 1539 1546 (st 135) "read_kind" nI (.none),
 cf 1011 1087 5 1549 1557 (st 136) "command_of" nI (.none),
 cf 1018 1089 2 1560 1570 (st 137) "priority_of" nI (.none),
 cf 1025 1110 3 1573 1582 (st 138) "read_priority" nI (.none),
 cf 1032 1120 1 1585 1593 (st 139) "read_base" nI (.none),
 cf 1039 1132 4 1596 1608 (st 140) "read_chain" nI (.none),
 cf 1046 1154 3 1611 1621 (st 141) "read_rule_about" nI (.none),
 cf 1053 1168 4 1624 1634 (st 142) "read_set" nI (.none),
 cf 1060 1175 3 1637 1646 (st 143) "read_element_about" nI (.none),
 cf 1067 1185 1 1649 1655 (st 144) "read_flowtable" nI (.none),
 cf 1074 1201 5 1658 1667 (st 145) "read_made" nI (.none),
 cf 1081 1213 1 1670 1678 (st 146) "in_ranks" nI (.none),
 cf 1088 1221 3 1681 1690 (st 147) "read_table" nI (.none),
 cf 1095 1236 2 1693 1704 (st 148) "read_command" nI (.none),
 [  (1097,⟨(.type "dict"),none,.dict #[en P (S "ipv4_addr") 1709 (.ref 1099),en P (S "inet_service") 1713 (.ref 1101),en P (S "inet_proto") 1720 (.ref 1103),en P (S "integer") 1730 (.ref 1105)] 4,#[]⟩),
 (1098,⟨(.type "dict"),none,.dict #[] 0,#[]⟩),
 (1099,⟨(.type "tuple"),none,.seq #[.int 32 1710,.str (S "big") 1711,.str (S "ip4") 1712,.ref 1098] 0,#[]⟩),
 (1100,⟨(.type "dict"),none,.dict #[en P (S "ssh") 1717 (.int 22 1718)] 1,#[]⟩),
 (1101,⟨(.type "tuple"),none,.seq #[.int 16 1714,.str (S "big") 1715,.str (S "number") 1716,.ref 1100] 0,#[]⟩),
 (1102,⟨(.type "dict"),none,.dict #[en P (S "tcp") 1724 (.int 6 1725),en P (S "udp") 1726 (.int 17 1727)] 2,#[]⟩),
 (1103,⟨(.type "tuple"),none,.seq #[.int 8 1721,.str (S "big") 1722,.str (S "number") 1723,.ref 1102] 0,#[]⟩),
 (1104,⟨(.type "dict"),none,.dict #[] 0,#[]⟩),
 (1105,⟨(.type "tuple"),none,.seq #[.int 0 1731,.str (S "big") 1732,.str (S "number") 1733,.ref 1104] 0,#[]⟩),
 (1106,⟨(.type "dict"),none,.dict #[en P (S "ip saddr") 1739 (.ref 1108),en P (S "tcp dport") 1747 (.ref 1110)] 2,#[]⟩),
 (1107,⟨(.type "tuple"),none,.seq #[.str (S "ip") 1744,.str (S "network") 1745,.int 96 1746] 0,#[]⟩),
 (1108,⟨(.type "tuple"),none,.seq #[.str (S "payload") 1740,.str (S "ipv4_addr") 1741,.int 32 1742,.str (S "big") 1743,.ref 1107] 0,#[]⟩),
 (1109,⟨(.type "tuple"),none,.seq #[.str (S "tcp") 1752,.str (S "transport") 1753,.int 16 1754] 0,#[]⟩),
 (1110,⟨(.type "tuple"),none,.seq #[.str (S "payload") 1748,.str (S "inet_service") 1749,.int 16 1750,.str (S "big") 1751,.ref 1109] 0,#[]⟩),
 (1111,⟨(.type "tuple"),none,.seq #[.str (S "ip") 1758,.str (S "ip6") 1759,.str (S "inet") 1760,.str (S "arp") 1761,.str (S "bridge") 1762,.str (S "netdev") 1763] 0,#[]⟩),
 (1112,⟨(.type "tuple"),none,.seq #[.str (S "prerouting") 1765,.str (S "input") 1766,.str (S "forward") 1767,.str (S "output") 1768,.str (S "postrouting") 1769,.str (S "ingress") 1770] 0,#[]⟩),
 (1113,⟨(.type "dict"),none,.dict #[en P (S "ipv4_addr") 1772 (.ref 1117),en P (S "inet_service") 1782 (.ref 1121)] 2,#[]⟩),
 (1114,⟨(.type "tuple"),none,.seq #[.str (S "10.0.0.1") 1773,.int 167772161 1774,.int 167772161 1775] 0,#[]⟩),
 (1115,⟨(.type "tuple"),none,.seq #[.str (S "10.0.0.0/8") 1776,.int 167772160 1777,.int 184549375 1778] 0,#[]⟩),
 (1116,⟨(.type "tuple"),none,.seq #[.str (S "192.168.1.1-192.168.1.5") 1779,.int 3232235777 1780,.int 3232235781 1781] 0,#[]⟩),
 (1117,⟨(.type "tuple"),none,.seq #[.ref 1114,.ref 1115,.ref 1116] 0,#[]⟩),
 (1118,⟨(.type "tuple"),none,.seq #[.str (S "ssh") 1783,.int 22 1784,.int 22 1785] 0,#[]⟩),
 (1119,⟨(.type "tuple"),none,.seq #[.str (S "80-443") 1786,.int 80 1787,.int 443 1788] 0,#[]⟩),
 (1120,⟨(.type "tuple"),none,.seq #[.str (S "0x50") 1789,.int 80 1790,.int 80 1791] 0,#[]⟩),
 (1121,⟨(.type "tuple"),none,.seq #[.ref 1118,.ref 1119,.ref 1120] 0,#[]⟩),
 (1122,⟨(.type "tuple"),none,.seq #[.str (S "accept") 1797,.str (S "") 1798] 0,#[]⟩),
 (1123,⟨(.type "tuple"),none,.seq #[.str (S "verdict") 1796,.ref 1122] 0,#[]⟩),
 (1124,⟨(.type "tuple"),none,.seq #[.ref 1123] 0,#[]⟩),
 (1125,⟨(.type "tuple"),none,.seq #[.str (S "accept") 1795,.ref 1124,.str (S "") 1799] 0,#[]⟩),
 (1126,⟨(.type "tuple"),none,.seq #[.str (S "field") 1802,.str (S "tcp dport") 1803] 0,#[]⟩),
 (1127,⟨(.type "tuple"),none,.seq #[.str (S "num") 1805,.int 22 1806] 0,#[]⟩),
 (1128,⟨(.type "tuple"),none,.seq #[.str (S "match") 1801,.ref 1126,.str (S "==") 1804,.ref 1127] 0,#[]⟩),
 (1129,⟨(.type "tuple"),none,.seq #[.str (S "jump") 1808,.str (S "c2") 1809] 0,#[]⟩),
 (1130,⟨(.type "tuple"),none,.seq #[.str (S "verdict") 1807,.ref 1129] 0,#[]⟩),
 (1131,⟨(.type "tuple"),none,.seq #[.ref 1128,.ref 1130] 0,#[]⟩),
 (1132,⟨(.type "tuple"),none,.seq #[.str (S "tcp dport ssh jump c2") 1800,.ref 1131,.str (S "") 1810] 0,#[]⟩),
 (1133,⟨(.type "tuple"),none,.seq #[.str (S "field") 1813,.str (S "ip saddr") 1814] 0,#[]⟩),
 (1134,⟨(.type "tuple"),none,.seq #[.str (S "ref") 1816,.str (S "s1") 1817] 0,#[]⟩),
 (1135,⟨(.type "tuple"),none,.seq #[.str (S "match") 1812,.ref 1133,.str (S "!=") 1815,.ref 1134] 0,#[]⟩),
 (1136,⟨(.type "tuple"),none,.seq #[.str (S "drop") 1819,.str (S "") 1820] 0,#[]⟩),
 (1137,⟨(.type "tuple"),none,.seq #[.str (S "verdict") 1818,.ref 1136] 0,#[]⟩),
 (1138,⟨(.type "tuple"),none,.seq #[.ref 1135,.ref 1137] 0,#[]⟩),
 (1139,⟨(.type "tuple"),none,.seq #[.str (S "ip saddr != @s1 drop comment \"a; b }\"") 1811,.ref 1138,.str (S "a; b }") 1821] 0,#[]⟩),
 (1140,⟨(.type "tuple"),none,.seq #[.str (S "field") 1824,.str (S "ip saddr") 1825] 0,#[]⟩),
 (1141,⟨(.type "tuple"),none,.seq #[.int 167772161 1827,.int 167772161 1828] 0,#[]⟩),
 (1142,⟨(.type "tuple"),none,.seq #[.ref 1141] 0,#[]⟩),
 (1143,⟨(.type "tuple"),none,.seq #[.str (S "return") 1829,.str (S "") 1830] 0,#[]⟩),
 (1144,⟨(.type "tuple"),none,.seq #[.ref 1142,.ref 1143,.int 0 1831,.str (S "") 1832] 0,#[]⟩),
 (1145,⟨(.type "tuple"),none,.seq #[.ref 1144] 0,#[]⟩),
 (1146,⟨(.type "tuple"),none,.seq #[.str (S "map") 1826,.ref 1145] 0,#[]⟩),
 (1147,⟨(.type "tuple"),none,.seq #[.str (S "vmap") 1823,.ref 1140,.ref 1146] 0,#[]⟩),
 (1148,⟨(.type "tuple"),none,.seq #[.ref 1147] 0,#[]⟩),
 (1149,⟨(.type "tuple"),none,.seq #[.str (S "ip saddr vmap { 10.0.0.1 : return,\n}") 1822,.ref 1148,.str (S "") 1833] 0,#[]⟩),
 (1150,⟨(.type "tuple"),none,.seq #[.ref 1125,.ref 1132,.ref 1139,.ref 1149] 0,#[]⟩)],
 cf 1156 1271 0 1835 1838 (st 156) "_law_own" qu (.none),
 [  (1158,⟨(.type "tuple"),none,.seq #[.str (S "add element ip t1 s9 { 1 }") 1841,.str (S "No such file or directory") 1842,.int 19 1843] 0,#[]⟩),
 (1159,⟨(.type "tuple"),none,.seq #[.str (S "add chain ip t1 2c") 1844,.str (S "syntax error, unexpected '2c', expecting string") 1845,.int 17 1846] 0,#[]⟩),
 (1160,⟨(.type "tuple"),none,.seq #[.str (S "table ip t1 { set s { flags interval } }") 1847,.str (S "set definition does not specify key") 1848,.int 40 1849] 0,#[]⟩),
 (1161,⟨(.type "tuple"),none,.seq #[.str (S "add chain ip t c { type nat hook input priority dstnat; }") 1850,.str (S "'dstnat' is invalid priority in this context.") 1851,.int 49 1852] 0,#[]⟩),
 (1162,⟨(.type "tuple"),none,.seq #[.str (S "delete rule ip t c index 3") 1853,.str (S "syntax error, unexpected 'index', expecting handle") 1854,.int 20 1855] 0,#[]⟩),
 (1163,⟨(.type "tuple"),none,.seq #[.str (S "flush counter t n") 1856,.str (S "syntax error, unexpected 'counter', expecting ruleset or table or chain or set or map") 1857,.int 7 1858] 0,#[]⟩),
 (1164,⟨(.type "tuple"),none,.seq #[.ref 1158,.ref 1159,.ref 1160,.ref 1161,.ref 1162,.ref 1163] 0,#[]⟩)],
 cf 1170 1274 2 1860 1866 (st 158) "_law_take" qu (.none),
 cg 1175 1278 3 1869 1872 (st 159) "_law_block" qu (.none),
 cf 1182 1283 3 1875 1887 (st 160) "_law_meter" qu (.none),
 cf 1189 1303 3 1890 1901 (st 161) "_law_expectation" qu (.none),
 cf 1196 1313 2 1904 1911 (st 162) "_law_names" qu (.none),
 cf 1203 1325 3 1914 1925 (st 163) "_law_priority" qu (.none),
 cf 1210 1337 3 1928 1937 (st 164) "_law_flowtable" qu (.none),
 cg 1215 1341 4 1940 1943 (st 165) "_law_chain" qu (.none),
 cg 1220 1359 3 1946 1949 (st 166) "_law_elements" qu (.none),
 cg 1225 1378 4 1952 1955 (st 167) "_law_set" qu (.none),
 cf 1232 1407 4 1958 1970 (st 168) "_law_piece" qu (.none),
 cf 1239 1422 3 1973 1989 (st 169) "_law_command" qu (.none),
 cf 1246 1453 1 1992 2000 (st 170) "_law_read" qu (.none),
 cg 1251 1465 1 2003 2006 (st 171) "law" qu (.none)]
end
section
noncomputable def qv:Program:={PySem.Challenge.pw_pq1059_01 with main:={PySem.Challenge.pw_pq1059_01.main with body:=PySem.Challenge.pw_pq1059_01.main.body.drop 171}}
noncomputable def lo:List Str:=((PySem.Challenge.pw_pq1059_01.main.scope.names.map (·.1)).tail.eraseIdx 2).dropLast
def dl:DefRec:=match defOf qv (S "law") with
 |some (d,_)=>d
 |none=>⟨S "law",default,[],default,default⟩
abbrev Walk:Prop:=WalkO qv lo (fun j j=>True) (fun w h=>(K w.params).In h) PySem.Challenge.rw_pq1059_01.row.toRowW dl [] fun f vs=>_root_.PySem.call f vs
theorem hdef:defOf qv PySem.Challenge.rw_pq1059_01.row.name=some (dl,[]):=by kernel_rfl
theorem hdp:PySem.Challenge.rw_pq1059_01.row.prog.theDef PySem.Challenge.rw_pq1059_01.row.name=some (dl.params,dl.body,dl.scope):=by kernel_rfl
theorem hdk:kwWritten? dl.params.kwonlyargs dl.params.kw_defaults=some []:=by kernel_rfl
theorem ok1:(chainsOk qv && opensWell PySem.Challenge.rw_pq1059_01.row.prog && (frees PySem.Challenge.rw_pq1059_01.row.toRowW && PySem.Challenge.rw_pq1059_01.row.within.isEmpty))=true:=by decide+kernel
end
end Mine
end
noncomputable section
open PySem PySem.W PySem.Calls PyProof.Rows
namespace Mine
section
noncomputable abbrev pw:Program:=PySem.Challenge.pw_pq1059_01
def Wi {α β:Type} (K:α->Sem β) (H:Value->Sem β) (gd:Bool->Bool) (lv:List Value->List Value) (m:Sem α):Sem β:=
 Sem.rec (motive:=fun j=>Sem β) (fun a=>K a) (fun e=>H e) (fun w=> .unsupported w) (fun e=> .finish e) (fun t j ih=> .rule t ih) (fun p j ih=> .at p ih) (fun a p j ih=> .load a p ih)
  (fun a p g j ih=> .update a p g ih) (fun o j ih=> .alloc o ih) (fun a j ih=> .loadIfAlive a ih) (fun l j ih=> .point (lv l) ih) (fun a j ih=> .register a ih) (fun j ih=> .fresh ih) (fun j ih=> .ask ih)
  (fun s n j ih=> .choose s n ih) (fun q l j ih=> .os q (lv l) ih) (fun c h g l j ih=> .call c h (gd g) (lv l) ih) (fun o j ih=> .handled o ih) (fun c j ih=> .newGen c ih) (fun g j ih=> .genState g ih)
  (fun g r l j ih=> .resume g r (lv l) ih) (fun v g l j ih=> .yield v (gd g) (lv l) ih) (fun j ih=> .stack ih) (fun c j ih=> .fork c ih) (fun j ih=> .thread ih) (fun a t d l j ih=> .await a t d (lv l) ih) m
theorem Ul {α β:Type} (K:α->Sem β) (H:Value->Sem β) (gd:Bool->Bool) (lv:List Value->List Value) (m:Sem α):m.wrap K H gd lv=Wi K H gd lv m:=by
 induction m with
 |pure |raise |unsupported |finish=>rfl
 |rule t k ih |«at» t k ih |load a p k ih |update a p g k ih |alloc o k ih |loadIfAlive a k ih |point l k ih |register l k ih |fresh k ih |ask k ih |choose a b k ih |os a b k ih |call c h g l k ih
 |handled o k ih |newGen o k ih |genState o k ih |resume g r l k ih |yield g r l k ih |stack k ih |fork c k ih |thread k ih |await a t d l k ih=>exact aM _ (funext ih)
def B2:Env:={scope:=pw.main.scope,locals:=mainNs,globals:=mainNs,cells:=[],code:= .ref 13,frame:=some 14}
def EN:List Stmt:=behindTheImports pw
def ia:Code:= .body EN B2
noncomputable def i3:Pos:=⟨0,0,0,0⟩
noncomputable abbrev mY:Option Value:=some (.ref 6)
noncomputable def Qw (l:List Obj):BT:=(l.foldl (fun x o=>(x.1.ins x.2 o,x.2+1)) (BT.nil,0)).1
noncomputable abbrev yq (w:World) (os:OsState):Shared:=⟨boot_heap w.params,Array.mk [],boot_drawn,boot_toks,os⟩
def PE (w:World) (os:OsState):=topGo treeTable pw w 11 mY 12 (yq w os) (topStub pw)
def DU (w:World) (os:OsState):Shared:=(PE w os).elim (yq w os) (·.1)
def DK (w:World) (os:OsState):SharedT:=let s:=DU w os;⟨Qw s.heap.objs.toList,15,s.heap.life,s.gens,s.drawn,s.toks,s.os⟩
theorem Qk (w:World) (os:OsState):PE w os=some (DU w os,⟨denote treeTable ia,ia,i3,[topFrame i3]⟩):=by kernel_rfl
theorem Ro (w:World) (os:OsState):(DK w os).abs=DU w os:=by kernel_rfl
theorem aaT (w:World) (os:OsState):segRun treeTable pw w 11 mY 1 1 (DU w os) (blockOf EN B2 ia i3 [topFrame i3])=some (.next,DU w os,ia,i3):=by kernel_rfl
theorem Rg (w:World) (s:Shared) (q:Pos):topRun treeTable pw w 11 mY 2 s ⟨doneF .next,ia,q,[topFrame i3]⟩=some s:=by kernel_rfl
noncomputable def CB (s:SharedT) (a:Nat):Option Obj:=match s.tree.get a with
 |some o=>match Nat.blt a s.n with
  |true=>alive o
  |false=>none
 |none=>none
theorem Rm {s:SharedT} {a:Nat} {o:Obj} (h:CB s a=some o):s.abs.heap.get? a=some o:=by
 unfold CB at h
 cases g:s.tree.get a with
 |none=>rw [g] at h;cases h
 |some x=>
  rw [g] at h
  cases l:Nat.blt a s.n with
  |false=>rw [l] at h;cases h
  |true=>rw [l] at h;exact (abs_get (aI l) g).trans h
def DI (w:World) (s:SharedT) (l:List Stmt) (q:Pos):Option (PySem.Flow×SharedT×Code×Pos):=
 Fast.tw10110043849684766642 Fast.tw14364793385576792824 pw w 11 mY 1 20000 s ⟨Wi doneF deadEnd id id (Fast.tw12563942051412417395 l B2),ia,q,[topFrame i3]⟩
theorem BM {w:World} {s:SharedT} {l:List Stmt} {q p:Pos} {z:SharedT} (h:DI w s l q=some (.next,z,ia,p)):segRun treeTable pw w 11 mY 1 20000 s.abs (piecesOf l B2 ia q [topFrame i3])=some (.next,z.abs,ia,p):=by
 unfold DI at h
 rw [<-Fast.te10110043849684766642,<-Fast.te14364793385576792824,<-Fast.te12563942051412417395,<-Ul] at h
 exact segRun_of h
noncomputable def NS (x:Option (PySem.Flow×SharedT×Code×Pos)) (s:SharedT):SharedT:=match x with
 |some v=>v.2.1
 |none=>s
def N6 (x:Option (PySem.Flow×SharedT×Code×Pos)):Pos:=match x with
 |some v=>v.2.2.2
 |none=>i3
def NW (w:World) (os:OsState):=DI w (DK w os) (EN.take 150) i3
def UN (w:World) (os:OsState):=NS (NW w os) (DK w os)
def Vv (w:World) (os:OsState):=N6 (NW w os)
def zZ (w:World) (os:OsState) (b:Bool):=DI (w.withFollow "special-get-raises" b) (UN w os) ((EN.drop 150).take 8) (Vv w os)
def Ih (w:World) (os:OsState):=NS (zZ w os false) (DK w os)
def HU (w:World) (os:OsState):=N6 (zZ w os false)
def Ov (w:World) (os:OsState):=DI w (Ih w os) ((EN.drop 150).drop 8) (HU w os)
def wa (w:World) (os:OsState):=NS (Ov w os) (DK w os)
def hd_p3 (w:World) (os:OsState):=N6 (Ov w os)
abbrev Mm:List Str:=importedModules pw.main.body
def ZE (w:World) (s:Shared):Bool:=staticsOk Mm (boot_heap w.params) s.heap && namesBound pw s.heap && gensDone s && laidKept (boot_heap w.params) s.heap
theorem Pj (w:World) (os:OsState):(NW w os,zZ w os true,zZ w os false,Ov w os,(K w.params).map (fun p=>CB (wa w os) p.1))
  =(some (.next,UN w os,ia,Vv w os),some (.next,Ih w os,ia,HU w os),some (.next,Ih w os,ia,HU w os),some (.next,wa w os,ia,hd_p3 w os),(K w.params).map (fun p=>some p.2)):=by kernel_rfl
theorem Mp (w:World) (os:OsState):(ZE w (wa w os).abs,Fast.tw4187177175401517315 qv lo Mm (fun j=>true) true (wa w os).abs)=(true,openGood qv lo):=by kernel_rfl
end
section
theorem hd_w1:PySem.W.namesResolve pw=true:=by
 rw [Fast.te8377067652309620493]
 kernel_rfl
theorem hd_wb:(["vars", "dir", "locals"]:List Str).filter (readsOut pw pw.main.body)=[]:=by
 rw [Fast.te13343964577679436407]
 kernel_rfl
theorem aao {k:Look} {a b:List Stmt} (x:noRoadLSs k a=true) (y:noRoadLSs k b=true):noRoadLSs k (a++b)=true:=by
 induction a with
 |nil=>exact y
 |cons s r ih=>exact look_both (cp.mp x).1 (ih (cp.mp x).2)
def Nv:Look:={strict:=!(importedModules pw.main.body).all cThrough.contains,foot:=none,bare:=[]}
theorem hd_wc:noRoadLSs Nv (pw.main.body.take 110)=true:=by
 rw [Fast.te8326940854005059898]
 kernel_rfl
theorem hd_wd:noRoadLSs Nv (pw.main.body.drop 110)=true:=by
 rw [Fast.te8326940854005059898]
 kernel_rfl
theorem hd_w2:noRoadLSs {strict:=!(importedModules pw.main.body).all cThrough.contains,foot:=none,bare:=(["vars", "dir", "locals"]:List Str).filter (readsOut pw pw.main.body)} pw.main.body=true:=by
 rw [hd_wb]
 exact (aM (noRoadLSs Nv) (List.take_append_drop 110 _)).symm.trans (aao hd_wc hd_wd)
theorem hd_w3:namesMeet pw pw.main.body (fun j n=>attrL n)=true:=by
 rw [Fast.te17119622794617984870,Fast.te17868728402115742887]
 kernel_rfl
theorem hd_w4:(sreFenced pw.main && ((moduleNames pw.main.body).isEmpty || lookedIntoSs (moduleNames pw.main.body) pw.main.body))=true:=by kernel_rfl
theorem hd_w5:(pw.boundNames.all fun n=>!worldNames.contains n)=true:=by kernel_rfl
theorem hd_w:looksOpen pw=true:=look_both (look_both (look_both (look_both hd_w4 hd_w1) hd_w5) hd_w2) hd_w3
theorem ws_t:Fast.tw9446332074065402090 PySem.Challenge.rw_pq1059_01=true:=by
 unfold Fast.tw9446332074065402090 Fast.tw17960256430627541270 Fast.tw2436336058641802641
 repeat' (with_reducible refine look_both ?_ ?_)
 ·exact (congrFun Fast.te12908688711261696721 _).symm.trans hd_w
 all_goals kernel_rfl
theorem ws:PySem.Challenge.rw_pq1059_01.wellSaid=true:=(congrFun Fast.te9446332074065402090 _).trans ws_t
end
end Mine
end
noncomputable section
open PySem PySem.W PyProof.Rows PySem.Calls
namespace Mine
section
noncomputable abbrev a9:=List (List Addr)
noncomputable def j0:Int->List (Nat×Nat)->Prop
 |_,[]=>True
 |N,(d,m)::ds=>0< m/\N.fmod (m:Int)=(d:Int)/\j0 (N.fdiv (m:Int)) ds
noncomputable abbrev aD (s:T):Str:=⟨s.toArray⟩
def dH (s:T):Prop:=s.length<=aJ/\∀ c∈s,c< 128
structure fj where
 rd:Addr
 tg:Addr
 bt:Addr
 jd:Addr
 fd:Nat->Addr
 la:Addr
 lv:List (Int×Tok)
mutual
inductive aX (D:fj) (h:Heap):I->Value->Prop
 |none:aX D h .none .none
 |bool (b:Bool):aX D h (.bool b) (.bool b)
 |int (i:Int) (t:Tok):aX D h (.int i) (.int i t)
 |str (s:T) (t:Tok):dH s->aX D h (.str s) (.str (aD s) t)
 |tup {a:Addr} {vs:List Value} {xs:List I}:IsTup h a vs.toArray->xs.length<=aJ->IReps D h xs vs->aX D h (.tup xs) (.ref a)
 |fn:aX D h .fn (.ref D.jd)
 |fd (n:Nat):aX D h (.fd n) (.ref (D.fd n))
 |tk {a:Addr} {k s:T} {r c:Int} {t1 t2 t3 t4:Tok}:IsTup h a #[.str (aD k) t1,.str (aD s) t2,.int r t3,.int c t4]->dH k->dH s->aX D h (.tk k s) (.ref a)
 |dig {i:Int} {t:Tok} {ds:List (Nat×Nat)}:j0 i ds->0<=i->i< 2 ^ 120->aX D h (.dig ds) (.int i t)
 |num {i:Int} {t:Tok} {ds:List (Nat×Nat)}:j0 (i.fmod (2 ^ 120)) ds->aX D h (.num ds) (.int i t)
 |fl:aX D h (.fl (D.lv.map fun p=>I.int p.1)) (.ref D.la)
inductive IReps (D:fj) (h:Heap):List I->List Value->Prop
 |nil:IReps D h [] []
 |cons {x:I} {v:Value} {xs:List I} {vs:List Value}:aX D h x v->IReps D h xs vs->IReps D h (x::xs) (v::vs)
end
def TK (h h':Heap):Prop:=∀ a items,IsTup h a items->IsTup h' a items
section
variable {D:fj} {h h':Heap} {C:Value->Prop} {y:Value}
theorem TK.refl:TK h h:=fun j j x=>x
theorem aX.keep (k:TK h h') {x:I} {v:Value} (r:aX D h x v):aX D h' x v:=
 r.rec (motive_1:=fun x v j=>aX D h' x v) (motive_2:=fun x v j=>IReps D h' x v) .none .bool .int .str (fun a q j i=> .tup (k _ _ a) q i) .fn .fd (fun a=> .tk (k _ _ a)) .dig .num .fl .nil fun j j=> .cons
theorem IReps.ind {P:List I->List Value->Prop} (n:P [] []) (c:∀ {x v xs vs},aX D h x v->IReps D h xs vs->P xs vs->P (x::xs) (v::vs)) {xs:List I} {vs:List Value} (r:IReps D h xs vs):P xs vs:=
 r.rec (motive_1:=fun j j j=>True) (motive_2:=fun x v j=>P x v) trivial (fun j=>trivial) (fun j j=>trivial) (fun j j j=>trivial) (fun j j j j=>trivial) trivial (fun j=>trivial) (fun j j j=>trivial) (fun j j j=>trivial) (fun j=>trivial) trivial n fun a r j=>c a r
theorem IReps.keep (k:TK h h') {xs:List I} {vs:List Value} (r:IReps D h xs vs):IReps D h' xs vs:=r.ind .nil fun a j=> .cons (a.keep k)
@[elab_as_elim]
theorem aX.intE {i:Int} (r:aX D h (.int i) y) (k:∀ t,C (.int i t)):C y:=by cases r with |int _ t=>exact k t
@[elab_as_elim]
theorem aX.strE {s:T} (r:aX D h (.str s) y) (k:∀ t,dH s->C (.str (aD s) t)):C y:=by cases r with |str _ t q=>exact k t q
@[elab_as_elim]
theorem aX.boolE {b:Bool} (r:aX D h (.bool b) y) (k:C (.bool b)):C y:=by cases r;exact k
@[elab_as_elim]
theorem aX.noneE (r:aX D h .none y) (k:C .none):C y:=by cases r;exact k
@[elab_as_elim]
theorem aX.fnE (r:aX D h .fn y) (k:C (.ref D.jd)):C y:=by cases r;exact k
@[elab_as_elim]
theorem aX.fdE {n:Nat} (r:aX D h (.fd n) y) (k:C (.ref (D.fd n))):C y:=by cases r;exact k
@[elab_as_elim]
theorem aX.tupE {xs:List I} (r:aX D h (.tup xs) y) (k:∀ a vs,IsTup h a vs.toArray->xs.length<=aJ->IReps D h xs vs->C (.ref a)):C y:=by cases r with |tup a b c=>exact k _ _ a b c
@[elab_as_elim]
theorem aX.tkE {k s:T} (r:aX D h (.tk k s) y) (q:∀ a r c t1 t2 t3 t4,IsTup h a #[.str (aD k) t1,.str (aD s) t2,.int r t3,.int c t4]->dH k->dH s->C (.ref a)):C y:=by cases r with |tk a b c=>exact q _ _ _ _ _ _ _ a b c
@[elab_as_elim]
theorem aX.digE {ds:List (Nat×Nat)} (r:aX D h (.dig ds) y) (q:∀ i t,j0 i ds->0<=i->i< 2 ^ 120->C (.int i t)):C y:=by cases r with |dig a b c=>exact q _ _ a b c
@[elab_as_elim]
theorem aX.numE {ds:List (Nat×Nat)} (r:aX D h (.num ds) y) (q:∀ i t,j0 (i.fmod (2 ^ 120)) ds->C (.int i t)):C y:=by cases r with |num a=>exact q _ _ a
@[elab_as_elim]
theorem aX.flE {xs:List I} (r:aX D h (.fl xs) y) (q:xs=D.lv.map (fun p=>I.int p.1)->C (.ref D.la)):C y:=by cases r;exact q rfl
@[elab_as_elim]
theorem IReps.nilE {C:List Value->Prop} {ys:List Value} (r:IReps D h [] ys) (k:C []):C ys:=by cases r;exact k
@[elab_as_elim]
theorem IReps.consE {C:List Value->Prop} {ys:List Value} {x:I} {xs:List I} (r:IReps D h (x::xs) ys) (k:∀ v vs,aX D h x v->IReps D h xs vs->C (v::vs)):C ys:=by cases r with |cons a b=>exact k _ _ a b
theorem IReps.length {xs:List I} {vs:List Value} (r:IReps D h xs vs):xs.length=vs.length:=r.ind (P:=fun xs vs=>xs.length=vs.length) rfl fun j j=>aM Nat.succ
theorem IReps.get {xs:List I} {vs:List Value} (r:IReps D h xs vs):∀ {n:Nat} {x:I},xs[n]?=some x->∃ v,vs[n]?=some v/\aX D h x v:=
 r.ind (P:=fun xs vs=>∀ {n:Nat} {x:I},xs[n]?=some x->∃ v,vs[n]?=some v/\aX D h x v) nofun fun a j ih n j e=>by cases n with
  |zero=>exact ⟨_,rfl,bO e▸a⟩
  |succ n=>exact ih e
theorem IReps.append {xs ys:List I} {vs ws:List Value} (r:IReps D h xs vs) (b:IReps D h ys ws):IReps D h (xs++ys) (vs++ws):=r.ind (P:=fun xs vs=>IReps D h (xs++ys) (vs++ws)) b fun a j=> .cons a
theorem IReps.snoc {xs:List I} {vs:List Value} {x:I} {v:Value} (a:IReps D h xs vs) (b:aX D h x v):IReps D h (xs++[x]) (vs++[v]):=a.append (.cons b .nil)
theorem IReps.drop {xs:List I} {vs:List Value} (n:Nat) (r:IReps D h xs vs):IReps D h (xs.drop n) (vs.drop n):=
 r.ind (P:=fun xs vs=>∀ n,IReps D h (xs.drop n) (vs.drop n)) (fun n=>by rw [List.drop_nil,List.drop_nil];exact .nil) (fun a r ih n=>n.casesOn (.cons a r) ih) n
theorem IReps.take {xs:List I} {vs:List Value} (n:Nat) (r:IReps D h xs vs):IReps D h (xs.take n) (vs.take n):=
 r.ind (P:=fun xs vs=>∀ n,IReps D h (xs.take n) (vs.take n)) (fun n=>by rw [List.take_nil,List.take_nil];exact .nil) (fun a j ih n=>n.casesOn .nil fun n=> .cons a (ih n)) n
theorem IReps.rev {xs:List I} {vs:List Value} (r:IReps D h xs vs):∀ {ys:List I} {ws:List Value},IReps D h ys ws->IReps D h (xs.reverseAux ys) (vs.reverseAux ws):=
 r.ind (P:=fun xs vs=>∀ {ys ws},IReps D h ys ws->IReps D h (xs.reverseAux ys) (vs.reverseAux ws)) id fun a j ih j j b=>ih (.cons a b)
theorem IReps.reverse {xs:List I} {vs:List Value} (r:IReps D h xs vs):IReps D h xs.reverse vs.reverse:=r.rev .nil
end
inductive cW (D:fj) (h:Heap):List (I×I)->List (Str×Value)->Prop
 |nil:cW D h [] []
 |cons {k:T} {v:I} {y:Value} {kvs:List (I×I)} {es:List (Str×Value)}:dH k->aX D h v y->cW D h kvs es->cW D h ((.str k,v)::kvs) ((aD k,y)::es)
theorem cW.keep {D:fj} {h h':Heap} (k:TK h h') {kvs:List (I×I)} {es:List (Str×Value)} (r:cW D h kvs es):cW D h' kvs es:=by
 induction r with
 |nil=>exact .nil
 |cons a c _ ih=>exact .cons a (c.keep k) ih
inductive gk (D:fj) (h:Heap):List (I×I)->List (List Str×Addr×Value)->Prop
 |nil:gk D h [] []
 |cons {k:List T} {v:I} {a:Addr} {y:Value} {kvs:List (I×I)} {es:List (List Str×Addr×Value)}:aX D h v y->gk D h kvs es->gk D h ((.tup (k.map .str),v)::kvs) ((k.map aD,a,y)::es)
theorem gk.keep {D:fj} {h h':Heap} (k:TK h h') {kvs:List (I×I)} {es:List (List Str×Addr×Value)} (r:gk D h kvs es):gk D h' kvs es:=by
 induction r with
 |nil=>exact .nil
 |cons c _ ih=>exact .cons (c.keep k) ih
inductive io (P:Params):List (String×Value)->List DictEntry->Prop
 |nil:io P [] []
 |cons {k:String} {v:Value} {t:Tok} {kvs:List (String×Value)} {es:List DictEntry}:io P kvs es->io P ((k,v)::kvs) (⟨PyData.keyHash P (Str.ofString k),.str (Str.ofString k) t,v⟩::es)
noncomputable def own (φ:a9):List Addr:=φ.flatten
structure G where
 p:Program
 w:World
 D:fj
noncomputable abbrev G.M (g:G):Model:=model g.p g.w
def cX (P:Params) (h:Heap) (d:Addr) (kvs:List (String×Value)):Prop:=∃ (es:List DictEntry) (n:Nat),h.get? d=some ⟨.type "dict",none,.dict es.toArray n,#[]⟩/\io P kvs es
structure td (g:G) (h:Heap) (pre rest:List I) (kn:List (I×I)) (fam tab:I) (a dx tok kno tg tgd:Addr):Prop where
 obj:h.get? a=some (instObj g.D.rd dx)
 attrs:∃ (t:Tok) (fv tv:Value),cX g.w.params h dx [("tokens",.ref tok),("at",.int (pre.length:Int) t),("tongue",.ref tg),("known",.ref kno),("family",fv),("table",tv)]/\aX g.D h fam fv/\aX g.D h tab tv
 toks:∃ (ts:List Value) (n:Nat),h.get? tok=some (listOf ts.toArray n)/\IReps g.D h (pre.reverse++rest) ts/\(pre.reverse++rest).length<=aJ
 known:∃ es,h.DictOfH (tupleKind (strKind g.p g.w)) kno es/\gk g.D h kn es/\kn.length<=aJ
 tong:h.get? tg=some (instObj g.D.tg tgd)
 tongd:cX g.w.params h tgd [("fields",.ref (g.D.fd 1)),("types",.ref (g.D.fd 0))]
structure PV (g:G) (h:Heap) (w:T) (r k:Int) (e dx:Addr) (vs:Array Value):Prop where
 ob:∃ sl,h.get? e=some ⟨.ref g.D.bt,some dx,.fields vs,sl⟩
 sz:1< vs.size
 at_:∃ t0 t1 t2 t3,cX g.w.params h dx [("why",.str (aD w) t0),("at",.int (-1) t1),("row",.int r t2),("column",.int k t3)]
 ok:dH w
inductive CR (g:G) (h:Heap):aF->List Addr->Prop
 |list {xs:List I} {a:Addr} {vs:List Value} {n:Nat}:h.get? a=some (listOf vs.toArray n)->IReps g.D h xs vs->xs.length<=aJ->CR g h (.list xs) [a]
 |dict {kvs:List (I×I)} {a:Addr} {es:List (Str×Value)}:h.DictOf (strKind g.p g.w) a es->cW g.D h kvs es->kvs.length<=aJ->CR g h (.dict kvs) [a]
 |exn {new:Bool} {wh:T} {r k:Int} {e dx:Addr} {vs:Array Value}:PV g h wh r k e dx vs->(new=true->vs[1]?=some .none)->CR g h (.exn new wh r k) [e,dx]
 |rd {pre rest:List I} {kn:List (I×I)} {fam tab:I} {a dx tok kno tg tgd:Addr}:td g h pre rest kn fam tab a dx tok kno tg tgd->CR g h (.rd pre rest kn fam tab) [a,dx,tok,kno,tg,tgd]
inductive SR (g:G) (h:Heap):ai->a9->Prop
 |nil:SR g h [] []
 |cons {c:aF} {as:List Addr} {σ:ai} {φ:a9}:CR g h c as->SR g h σ φ->SR g h (c::σ) (as::φ)
inductive aB (D:fj) (φ:a9) (h:Heap):V->Value->Prop
 |i {x:I} {v:Value}:aX D h x v->aB D φ h (.i x) v
 |ref {n:Nat} {a:Addr} {as:List Addr}:φ[n]?=some (a::as)->aB D φ h (.ref n) (.ref a)
 |tng {n:Nat} {a dx tok kno tg tgd:Addr}:φ[n]?=some [a,dx,tok,kno,tg,tgd]->aB D φ h (.sub 0 n) (.ref tg)
 |tks {n:Nat} {a dx tok kno tg tgd:Addr}:φ[n]?=some [a,dx,tok,kno,tg,tgd]->aB D φ h (.sub 1 n) (.ref tok)
 |kno {n:Nat} {a dx tok kno tg tgd:Addr}:φ[n]?=some [a,dx,tok,kno,tg,tgd]->aB D φ h (.sub 2 n) (.ref kno)
 |pr {x:I} {n:Nat} {v:Value} {t a:Addr} {as:List Addr}:IsTup h t #[v,.ref a]->aX D h x v->φ[n]?=some (a::as)->aB D φ h (.pr x n) (.ref t)
inductive bV (D:fj) (φ:a9) (h:Heap):List V->List Value->Prop
 |nil:bV D φ h [] []
 |cons {v:V} {y:Value} {vs:List V} {ys:List Value}:aB D φ h v y->bV D φ h vs ys->bV D φ h (v::vs) (y::ys)
section
variable {D:fj} {φ φ':a9} {h h':Heap} {C:Value->Prop} {y:Value}
theorem iZ (p:φ<+:φ') {n:Nat} {as:List Addr} (e:φ[n]?=some as):φ'[n]?=some as:=by
 obtain ⟨z,rfl⟩:=p
 exact (List.getElem?_append_left (gL.mp e).1).trans e
theorem aB.step (p:φ<+:φ') (k:TK h h') {v:V} {y:Value} (r:aB D φ h v y):aB D φ' h' v y:=r.rec (motive:=fun v y j=>aB D φ' h' v y) (fun a=> .i (a.keep k)) (fun a=> .ref (iZ p a)) (fun a=> .tng (iZ p a)) (fun a=> .tks (iZ p a)) (fun a=> .kno (iZ p a)) fun a b c=> .pr (k _ _ a) (b.keep k) (iZ p c)
theorem bV.step (p:φ<+:φ') (k:TK h h') {vs:List V} {ys:List Value} (r:bV D φ h vs ys):bV D φ' h' vs ys:=r.rec (motive:=fun v y j=>bV D φ' h' v y) .nil fun a j ih=> .cons (a.step p k) ih
theorem bV.len {vs:List V} {ys:List Value} (r:bV D φ h vs ys):vs.length=ys.length:=r.rec (motive:=fun vs ys j=>vs.length=ys.length) rfl fun j j=>aM Nat.succ
theorem aB.iE {x:I} (r:aB D φ h (.i x) y):aX D h x y:=by cases r with |i a=>exact a
@[elab_as_elim]
theorem aB.refE {n:Nat} (r:aB D φ h (.ref n) y) (k:∀ a as,φ[n]?=some (a::as)->C (.ref a)):C y:=by cases r with |ref e=>exact k _ _ e
@[elab_as_elim]
theorem bV.nilE {C:List Value->Prop} {ys:List Value} (r:bV D φ h [] ys) (k:C []):C ys:=by cases r;exact k
@[elab_as_elim]
theorem bV.consE {C:List Value->Prop} {ys:List Value} {x:V} {xs:List V} (r:bV D φ h (x::xs) ys) (k:∀ v vs,aB D φ h x v->bV D φ h xs vs->C (v::vs)):C ys:=by cases r with |cons a b=>exact k _ _ a b
end
end
section
structure aS where
 g:G
 base:Heap
 frames:List Env
 A:Around
 env:Env
 ρ:List (Str×Nat)
 d:Nat
noncomputable def aS.touch (c:aS):List Addr:=c.env.locals::c.env.cells.map (·.2)
noncomputable def aS.fa (c:aS):List Addr:=c.frames.filterMap (·.frame)
abbrev aS.wp (c:aS) {γ:Type} (t:Sem γ) (Q:γ->Shared->Prop) (E:Value->Shared->Prop) (s:Shared):Prop:=wpAny c.g.M c.A t Q E s
def C9 (env:Env) (h:Heap) (x:Str) (y:Value):Prop:=
 (env.kindOf x=some .local/\∃ m,h.Ns env.locals m/\m x=some y)\/(∃ cl,(env.kindOf x=some .cell\/env.kindOf x=some .free)/\env.cells.lookup x=some cl/\h.IsCell cl (some y))
structure d9 (c:aS) (b:Addr):Prop where
 base:c.base.get? b=none
 touch:b∉c.touch
 fa:b∉c.fa
structure Rq (c:aS):Prop where
 cu:(c.env.cells.map (·.1)).Nodup
 ca:(c.env.cells.map (·.2)).Nodup
 newT:∀ b∈c.touch,c.base.get? b=none
 cL:c.env.locals∉c.env.cells.map (·.2)
 hand:c.A.handled=none
 room:c.A.depth+3*c.d+60< recursionLimit
 units:c.A.units+12*c.d+200< cLine
 stack:c.A.frames=some c.frames
 kind:c.env.scope.kind= .function
 nolim:c.base.NoLimit
structure ay (c:aS) (φ:a9) (l:av) (σ:ai) (h:Heap):Prop where
 st:Rq c
 stay:c.base.StaysIn h
 frm:h.FunFrames c.base c.frames
 sto:SR c.g h σ φ
 nd:(own φ).Nodup
 off:∀ b∈own φ,d9 c b
 vars:∀ x n v,c.ρ.lookup x=some n->bN l n=some v->∃ y,C9 c.env h x y/\aB c.g.D φ h v y
 nsx:∃ m,h.Ns c.env.locals m
 cells:∀ x cl,c.env.cells.lookup x=some cl->∃ v,h.IsCell cl v
def AP (o:Obj):Prop:=∀ vs,o.data≠ .fields vs
def As (c:aS) (h':Heap) (b:Addr) (o:Obj):Prop:=∃ sl,h'.get? b=some {o with slots:=sl}/\(b∉c.fa->sl=o.slots)
structure aL (c:aS) (φ:a9) (s:Shared) (φ':a9) (s':Shared):Prop where
 pre:φ<+:φ'
 new:∀ b∈own φ',b∈own φ\/s.heap.get? b=none
 keep:∀ b o,s.heap.get? b=some o->b∉own φ->b∉c.touch->As c s'.heap b o
 tch:∀ b∈c.touch,∀ o,s.heap.get? b=some o->∃ o',s'.heap.get? b=some o'/\(AP o->AP o')
 same:s'.gens=s.gens/\s'.drawn=s.drawn/\s'.os=s.os
section
variable {c:aS} {φ φ₁ φ':a9} {l:av} {σ σ':ai} {s s₁ s':Shared} {h h':Heap} {b:Addr} {o:Obj} {t:Nat}
theorem l9 (φ ψ:a9):own (φ++ψ)=own φ++own ψ:=List.flatten_append
theorem eA {as:List Addr}:b∈own (φ++[as])↔b∈own φ\/b∈as:=by rw [l9,List.mem_append];unfold own;rw [List.flatten_cons,List.flatten_nil,dT]
theorem uk (p:φ<+:φ') (h:b∈own φ):b∈own φ':=by
 obtain ⟨z,rfl⟩:=p
 rw [l9];exact AS _ h
theorem hZ {n:Nat} {as:List Addr} (e:φ[n]?=some as) (m:b∈as):b∈own φ:=D5.mpr ⟨as,yF e,m⟩
theorem As.refl (e:h.get? b=some o):As c h b o:=⟨o.slots,e,fun j=>rfl⟩
theorem As.ne (a:As c h b o):h.get? b≠none:=fun q=>by obtain ⟨_,e,_⟩:=a;rw [q] at e;cases e
theorem As.eq (a:As c h b o) (n:b∉c.fa):h.get? b=some o:=by obtain ⟨_,e,k⟩:=a;rw [e,k n]
theorem aL.of (p:φ<+:φ') (n:∀ b∈own φ',b∈own φ\/s.heap.get? b=none) (k:∀ b o,s.heap.get? b=some o->b∉own φ->b∉c.touch->h'.get? b=some o)
  (tc:∀ b∈c.touch,∀ o,s.heap.get? b=some o->∃ o',h'.get? b=some o'/\(AP o->AP o')):aL c φ s φ' {s with heap:=h',toks:=t}:=⟨p,n,fun b o e h1 h2=> .refl (k b o e h1 h2),tc,rfl,rfl,rfl⟩
theorem aL.toks:aL c φ s φ {s with toks:=t}:= .of (e8 _) (fun j=> .inl) (fun j j e j j=>e) fun j j o e=>⟨o,e,id⟩
theorem aL.refl:aL c φ s φ s:=aL.toks
theorem aL.trans (x:aL c φ s φ₁ s₁) (y:aL c φ₁ s₁ φ' s'):aL c φ s φ' s' where
 pre:=x.pre.trans y.pre
 new b hb:=(y.new b hb).elim (x.new b) fun q=>OW fun n=>by
  rw [not_or] at n
  cases e:s.heap.get? b with
  |none=>exact n.2 e
  |some o=>
   by_cases h2:b∈c.touch
   ·obtain ⟨_,e',_⟩:=x.tch b h2 o e
    rw [q] at e';cases e'
   ·exact (x.keep b o e n.1 h2).ne q
 keep b o e h1 h2:=by
  obtain ⟨sl,e1,k1⟩:=x.keep b o e h1 h2
  obtain ⟨sl2,e2,k2⟩:=y.keep b _ e1 (fun q=>(x.new b q).elim h1 fun z=>by rw [z] at e;cases e) h2
  exact ⟨sl2,e2,fun q=>(k2 q).trans (k1 q)⟩
 tch b hb o e:=let ⟨_,e1,n1⟩:=x.tch b hb o e;let ⟨o2,e2,n2⟩:=y.tch b hb _ e1;⟨o2,e2,n2 ∘ n1⟩
 same:=⟨y.same.1.trans x.same.1,y.same.2.1.trans x.same.2.1,y.same.2.2.trans x.same.2.2⟩
theorem bQ {α:Type} {x:Str} {v:α} {l:List (Str×α)} (e:l.lookup x=some v):(x,v)∈l:=by
 induction l with
 |nil=>cases e
 |cons p r ih=>
  rw [rg] at e
  cases q:x==p.1 with
  |true=>rw [q] at e;rw [n9 q,<-bO e];exact .head _
  |false=>rw [q] at e;exact .tail _ (ih e)
theorem jO {α:Type} {x:Str} {v:α} {l:List (Str×α)} (n:(l.map (·.1)).Nodup) (m:(x,v)∈l):l.lookup x=some v:=by
 induction l with
 |nil=>cases m
 |cons p r ih=>
  rw [im,List.nodup_cons] at n
  rw [rg]
  cases m with
  |head=>rw [ES]
  |tail _ m=>
   have ne:x≠p.1:=fun q=>n.1 (by rw [<-q];exact gI (f:=(·.1)) m)
   rw [wu.mpr ne];exact ih n.2 m
theorem ue {α:Type} {x:Str} {v:α} {l:List (Str×α)} (e:l.lookup x=some v):v∈l.map (·.2):=gI (f:=(·.2)) (bQ e)
def N8 (o:Obj):Prop:=AP o/\∀ vs n,o.data≠ .seq vs n
theorem nA {a:Addr} {m:Str->Option Value} (n:h.Ns a m):∃ o,h.get? a=some o/\N8 o:=by
 obtain ⟨o,es,ep,ho,hd,_⟩:=n
 exact ⟨o,ho,(fun vs q=>by rw [hd] at q;cases q),fun vs k q=>by rw [hd] at q;cases q⟩
theorem TJ {a:Addr} {u:Option Value} (n:h.IsCell a u):∃ o,h.get? a=some o/\N8 o:=by
 obtain ⟨o,ho,hd⟩:=n
 exact ⟨o,ho,(fun vs q=>by rw [hd] at q;cases q),fun vs k q=>by rw [hd] at q;cases q⟩
theorem GY (S:Rq c) (nsx:∃ m,h.Ns c.env.locals m) (cells:∀ x cl,c.env.cells.lookup x=some cl->∃ v,h.IsCell cl v) (hb:b∈c.touch):∃ o,h.get? b=some o/\N8 o:=by
 rcases List.mem_cons.mp hb with rfl |hb
 ·exact nA nsx.choose_spec
 ·obtain ⟨p,hp,rfl⟩:=cZ.mp hb
  exact TJ (cells p.1 p.2 (jO S.cu hp)).choose_spec
theorem ay.there (I:ay c φ l σ h) (hb:b∈c.touch):∃ o,h.get? b=some o/\N8 o:=GY I.st I.nsx I.cells hb
theorem sQ:Value.type "dict" ≠ .type "tuple" /\Value.type "list" ≠ .type "tuple" :=by decide+kernel
theorem CR.kind {g:G} {x:aF} {as:List Addr} (r:CR g h x as):∀ b∈as,∃ o,h.get? b=some o/\o.cls≠ .type "tuple" :=by
 have no:∀ {b o},h.get? b=some o->o.cls≠ .type "tuple" ->∃ o,h.get? b=some o/\o.cls≠ .type "tuple" :=fun e n=>⟨_,e,n⟩
 have ins:∀ {d kvs},cX g.w.params h d kvs->∃ o,h.get? d=some o/\o.cls≠ .type "tuple" :=fun ⟨_,_,e,_⟩=>no e sQ.1
 cases r with
 |list e=>exact vr.mpr (no e sQ.2)
 |dict e=>obtain ⟨o,_,_,ho,hx,_⟩:=e;exact vr.mpr (no ho (by rw [hx.1];exact sQ.1))
 |exn e=>
  obtain ⟨sl,e1⟩:=e.ob
  obtain ⟨_,_,_,_,e2⟩:=e.at_
  exact b9.mpr ⟨no e1 nofun,vr.mpr (ins e2)⟩
 |rd R=>
  obtain ⟨_,_,_,e2,_⟩:=R.attrs
  obtain ⟨_,_,e3,_⟩:=R.toks
  obtain ⟨_,⟨_,_,_,e4,hx,_⟩,_⟩:=R.known
  exact b9.mpr ⟨no R.obj nofun,b9.mpr ⟨ins e2,b9.mpr ⟨no e3 sQ.2,b9.mpr ⟨no e4 (by rw [hx.1];exact sQ.1),b9.mpr ⟨no R.tong nofun,vr.mpr (ins R.tongd)⟩⟩⟩⟩⟩
theorem SR.kind {g:G} (r:SR g h σ φ):∀ b∈own φ,∃ o,h.get? b=some o/\o.cls≠ .type "tuple" :=by
 induction r with
 |nil=>exact nofun
 |cons a _ ih=>exact fun b m=>(jv.mp m).elim (a.kind b) (ih b)
theorem eT (n:h.get? b=none) {P:Obj->Prop} (x:∃ o,h.get? b=some o/\P o):False:=by obtain ⟨o,e,_⟩:=x;rw [n] at e;cases e
theorem ay.new (I:ay c φ l σ h) (hn:h.get? b=none):d9 c b/\b∉own φ:=
 ⟨⟨kJ.mpr fun o e=>(nomatch hn.symm.trans (I.stay b o e)),fun q=>eT hn (I.there q),fun q=>let ⟨_,o,e,w⟩:=I.frm.mem q;eT (P:=AP) hn ⟨o,e,w⟩⟩,fun q=>eT hn (I.sto.kind b q)⟩
def NT (o:Obj):Prop:=o.cls≠ .type "tuple" \/∀ vs n,o.data≠ .seq vs n
theorem TK.of {S:Addr->Prop} (hS:∀ b o,S b->h.get? b=some o->NT o) (k:∀ b o,h.get? b=some o->¬ S b->∃ sl,h'.get? b=some {o with slots:=sl}):TK h h':=fun a _ ⟨o,ho,hc,q,hd⟩=>by
 obtain ⟨sl,e⟩:=k a o ho fun m=>(hS a o m ho).elim (fun n=>n hc) fun n=>n _ _ hd
 exact ⟨_,e,hc,q,hd⟩
theorem ay.tk (I:ay c φ l σ s.heap) (x:aL c φ s φ' s'):TK s.heap s'.heap:=by
 refine TK.of (S:=fun b=>b∈own φ\/b∈c.touch) (fun b o m e=>m.elim (fun m=>?_) fun m=>?_) fun b o e n=>let ⟨sl,q,_⟩:=x.keep b o e (fun m=>n (.inl m)) fun m=>n (.inr m);⟨sl,q⟩
 ·obtain ⟨o',e',k⟩:=I.sto.kind b m
  rw [e] at e';cases e';exact .inl k
 ·obtain ⟨o',e',k⟩:=I.there m
  rw [e] at e';cases e';exact .inr k.2
end
end
section
structure TI (c:aS) (φ:a9) (h:Heap) (e dx:Addr) (vs:Array Value) (Tb:Addr) (fl:Value):Prop where
 at1:vs[1]?=some (.ref Tb)
 own:Tb∈own φ
 off:d9 c Tb
 ne:Tb≠e
 nd:Tb≠dx
 ob:∃ oT ts,h.get? Tb=some oT/\oT.data= .fields ts/\ts[3]?=some fl
structure nh (c:aS) (φ:a9) (h:Heap) (w:T) (r k:Int) (e:Addr):Prop where
 nsx:∃ m,h.Ns c.env.locals m
 stay:c.base.StaysIn h
 frm:h.FunFrames c.base c.frames
 eo:e∈own φ/\d9 c e
 obj:∃ dx vs,PV c.g h w r k e dx vs/\dx∈own φ/\d9 c dx/\dx≠e/\(vs[1]?=some .none\/∃ Tb fl,TI c φ h e dx vs Tb fl/\(fl= .none\/∃ L,c.env.frame=some L/\fl=rawInt L))
def Fin {α γ:Type} (R:a9->Heap->α->γ->Prop) (c:aS) (φ:a9) (l:av) (s:Shared) (r:RE α) (Q:γ->Shared->Prop) (E:Value->Shared->Prop):Prop:=match r with
 | .bad=>False
 | .ok v σ'=>∀ φ' y s',aL c φ s φ' s'->ay c φ' l σ' s'.heap->R φ' s'.heap v y->Q y s'
 | .exc w r k=>∀ e φ' s',nh c φ' s'.heap w r k e->aL c φ s φ' s'->E (.ref e) s'
def kq (D:fj) (φ:a9) (h:Heap):Flow->PySem.Flow->Prop
 | .nxt,.next=>True
 | .brk,.brk=>True
 | .ret v,.ret y=>aB D φ h v y
 |_,_=>False
def bh (c:aS) (φ:a9) (s:Shared) (r:RS) (Q:PySem.Flow->Shared->Prop) (E:Value->Shared->Prop):Prop:=match r with
 | .bad=>False
 | .ok f l' σ'=>∀ φ' y s',aL c φ s φ' s'->ay c φ' l' σ' s'.heap->kq c.g.D φ' s'.heap f y->Q y s'
 | .exc w r k=>∀ e φ' s',nh c φ' s'.heap w r k e->aL c φ s φ' s'->E (.ref e) s'
abbrev bJ (c:aS) (φ:a9) (l:av) (s:Shared) (r:RE V) (Q E:Value->Shared->Prop):Prop:=Fin (aB c.g.D) c φ l s r Q E
abbrev BR (_:a9) (_:Heap) (a b:Bool):Prop:=a=b
abbrev gz (c:aS) (φ:a9) (l:av) (s:Shared) (r:RE Bool) (Q:Bool->Shared->Prop) (E:Value->Shared->Prop):Prop:=Fin BR c φ l s r Q E
def aK (c:aS) (e:PySem.Expr) (x:Ex):Prop:=∀ φ l σ s Q E,ay c φ l σ s.heap->bJ c φ l s (x l σ) Q E->c.wp (eval e c.env) Q E s
def ju (c:aS) (e:PySem.Expr) (x:Tx):Prop:=∀ φ l σ s Q E,ay c φ l σ s.heap->gz c φ l s (x l σ) Q E->c.wp (isTrue e c.env (eval e c.env)) Q E s
def fJ (c:aS) (e:Stmt) (x:Sx):Prop:=∀ φ l σ s Q E,ay c φ l σ s.heap->bh c φ s (x l σ) Q E->c.wp (exec e c.env) Q E s
def k9 (c:aS) (b:List Stmt) (x:Sx):Prop:=∀ φ l σ s Q E,ay c φ l σ s.heap->bh c φ s (x l σ) Q E->c.wp (execs b c.env) Q E s
section
variable {α β γ δ:Type} {R:a9->Heap->α->γ->Prop} {R':a9->Heap->β->δ->Prop} {c:aS} {φ φ₁ φ':a9} {l l':av} {σ σ':ai} {s s₁ s':Shared} {h h':Heap} {r:RE α} {k:α->ai->RE β} {Q:γ->Shared->Prop} {Q':δ->Shared->Prop} {E:Value->Shared->Prop} {QS:PySem.Flow->Shared->Prop}
theorem Fin.step (x:aL c φ s φ₁ s₁) (f:Fin R c φ l s r Q E):Fin R c φ₁ l s₁ r Q E:=by
 cases r with
 |bad=>exact f
 |ok=>exact fun j j j st=>f _ _ _ (x.trans st)
 |exc=>exact fun j j j X st=>f _ _ _ X (x.trans st)
theorem bh.step {r:RS} (x:aL c φ s φ₁ s₁) (f:bh c φ s r QS E):bh c φ₁ s₁ r QS E:=by
 cases r with
 |bad=>exact f
 |ok=>exact fun j j j st=>f _ _ _ (x.trans st)
 |exc=>exact fun j j j X st=>f _ _ _ X (x.trans st)
theorem Fin.bind (f:Fin R' c φ l s (r.bind k) Q' E) (hk:∀ v σ₁ φ₁ s₁ y,aL c φ s φ₁ s₁->ay c φ₁ l σ₁ s₁.heap->R φ₁ s₁.heap v y->Fin R' c φ₁ l s₁ (k v σ₁) Q' E->Q y s₁):Fin R c φ l s r Q E:=by
 cases r with
 |bad=>exact f
 |ok v σ₁=>exact fun φ₁ y s₁ st I r=>hk v σ₁ φ₁ s₁ y st I r (f.step st)
 |exc=>exact f
theorem bh.bind {k:α->ai->RS} (f:bh c φ s (r.bindS k) QS E) (hk:∀ v σ₁ φ₁ s₁ y,aL c φ s φ₁ s₁->ay c φ₁ l σ₁ s₁.heap->R φ₁ s₁.heap v y->bh c φ₁ s₁ (k v σ₁) QS E->Q y s₁):Fin R c φ l s r Q E:=by
 cases r with
 |bad=>exact f
 |ok v σ₁=>exact fun φ₁ y s₁ st I r=>hk v σ₁ φ₁ s₁ y st I r (bh.step st f)
 |exc=>exact f
theorem Fin.val {v:α} {y:γ} {t:Nat} (f:Fin R c φ l s (.ok v σ) Q E) (I:ay c φ l σ s.heap) (r:R φ s.heap v y):Q y {s with toks:=t}:=f _ _ _ aL.toks I r
theorem Fin.here {v:α} {y:γ} (f:Fin R c φ l s (.ok v σ) Q E) (I:ay c φ l σ s.heap) (r:R φ s.heap v y):Q y s:=f _ _ _ aL.refl I r
theorem bh.here {f:Flow} {y:PySem.Flow} (x:bh c φ s (.ok f l σ) QS E) (I:ay c φ l σ s.heap) (r:kq c.g.D φ s.heap f y):QS y s:=x _ _ _ aL.refl I r
theorem z9 {base:Heap} {m:List Env} (k:∀ b o,b∈m.filterMap (·.frame)->h.get? b=some o->AP o->∃ o',h'.get? b=some o'/\AP o') (f:h.FunFrames base m):h'.FunFrames base m:=by
 induction m with
 |nil=>trivial
 |cons env m ih=>
  obtain ⟨hk,⟨L,o,hf,hn,ho,hd⟩,hr⟩:=f
  obtain ⟨o',e,n⟩:=k L o (by rw [List.filterMap_cons,hf];exact .head _) ho hd
  refine ⟨hk,⟨L,o',hf,hn,e,n⟩,ih (fun b o m=>k b o ?_) hr⟩
  rw [List.filterMap_cons,hf];exact .tail _ m
theorem zX {a:Addr} {m:Str->Option Value} (n:h.Ns a m) (k:∀ o,h.get? a=some o->As c h' a o):h'.Ns a m:=by
 obtain ⟨o,es,ep,ho,r⟩:=n
 obtain ⟨sl,q,_⟩:=k o ho
 exact ⟨_,es,ep,q,r⟩
theorem ui {a:Addr} {v:Option Value} (n:h.IsCell a v) (k:∀ o,h.get? a=some o->As c h' a o):h'.IsCell a v:=by
 obtain ⟨o,ho,r⟩:=n
 obtain ⟨sl,q,_⟩:=k o ho
 exact ⟨_,q,r⟩
structure fR (c:aS) (S:Addr->Prop) (h h':Heap):Prop where
 k:∀ b o,h.get? b=some o->¬ S b->b≠c.env.locals->As c h' b o
 n:∀ m,h.Ns c.env.locals m->h'.Ns c.env.locals m
theorem fR.of {S:Addr->Prop} (nL:¬ S c.env.locals) (k:∀ b o,h.get? b=some o->¬ S b->As c h' b o):fR c S h h':=⟨fun b o e n j=>k b o e n,fun j n=>zX n fun o e=>k _ o e nL⟩
theorem fR.all (k:∀ b o,h.get? b=some o->h'.get? b=some o):fR c (fun j=>False) h h':= .of id fun b o e j=> .refl (k b o e)
def Gm (c:aS) (h:Heap) (b:Addr):Prop:=d9 c b/\∀ o,h.get? b=some o->NT o
theorem ay.free (I:ay c φ l σ h) {b:Addr} (m:b∈own φ):Gm c h b:=⟨I.off b m,fun o e=>by
 obtain ⟨o',e',k⟩:=I.sto.kind b m
 rw [e] at e';cases e';exact .inl k⟩
theorem fR.tk {S:Addr->Prop} (g:fR c S h h') (hS:∀ b,S b->Gm c h b) (nsx:∃ m,h.Ns c.env.locals m):TK h h':=
 TK.of (S:=fun b=>S b\/b=c.env.locals) (fun b o m e=>m.elim (fun m=>(hS b m).2 o e) fun m=>by
  obtain ⟨o',e',n⟩:=nA nsx.choose_spec
  rw [<-m,e] at e';cases e';exact .inr n.2) fun b o e n=>let ⟨sl,q,_⟩:=g.k b o e (fun m=>n (.inl m)) fun m=>n (.inr m);⟨sl,q⟩
theorem ay.to {S:Addr->Prop} (I:ay c φ l σ h) (g:fR c S h h') (hS:∀ b,S b->Gm c h b) (p:φ<+:φ') (sr:SR c.g h' σ' φ') (nd:(own φ').Nodup) (nw:∀ b∈own φ',b∈own φ\/d9 c b):ay c φ' l σ' h':=by
 have tk:=g.tk hS I.nsx
 have at_:∀ b o,b∈c.env.cells.map (·.2)->h.get? b=some o->As c h' b o:=fun b o m e=>g.k b o e (fun q=>(hS b q).1.touch (.tail _ m)) fun q=>I.st.cL (q▸m)
 refine ⟨I.st,fun b o e=>?_,z9 (fun b o m e nf=>?_) I.frm,sr,nd,fun b m=>(nw b m).elim (I.off b) id,fun x n v h1 h2=>?_,I.nsx.imp g.n,fun x cl e=>(I.cells x cl e).imp fun j n=>ui n fun o=>at_ cl o (ue e)⟩
 ·exact (g.k b o (I.stay b o e) (fun q=>by rw [(hS b q).1.base] at e;cases e) fun q=>by rw [I.st.newT b (q▸ .head _)] at e;cases e).eq fun m=>by
   rw [(I.frm.mem m).1] at e;cases e
 ·by_cases q:b=c.env.locals
  ·obtain ⟨o',e',n⟩:=nA (I.nsx.imp g.n).choose_spec
   exact ⟨o',q▸e',n.1⟩
  ·obtain ⟨sl,e',_⟩:=g.k b o e (fun z=>(hS b z).1.fa m) q
   exact ⟨_,e',nf⟩
 ·obtain ⟨y,a,b⟩:=I.vars x n v h1 h2
  exact ⟨y,a.imp (fun ⟨a,m,q,e⟩=>⟨a,m,g.n m q,e⟩) fun ⟨cl,a,b,d⟩=>⟨cl,a,b,ui d fun o=>at_ cl o (ue b)⟩,b.step p tk⟩
theorem aL.to {S:Addr->Prop} {t:Nat} (I:ay c φ l σ s.heap) (g:fR c S s.heap h') (hS:∀ b,S b->b∈own φ) (p:φ<+:φ') (nw:∀ b∈own φ',b∈own φ\/s.heap.get? b=none):aL c φ s φ' {s with heap:=h',toks:=t}:=
 ⟨p,nw,fun b o e n1 n2=>g.k b o e (fun q=>n1 (hS b q)) fun q=>n2 (q▸ .head _),fun b m o e=>by
  by_cases q:b=c.env.locals
  ·obtain ⟨o',e',n⟩:=nA (I.nsx.imp g.n).choose_spec
   exact ⟨o',q▸e',fun j=>n.1⟩
  ·obtain ⟨sl,e',_⟩:=g.k b o e (fun z=>(I.off b (hS b z)).touch m) q
   exact ⟨_,e',id⟩,rfl,rfl,rfl⟩
theorem D9 {g:G} {d:Addr} {xs:List (List Str×Addr×Value)} (k:∀ o,h.get? d=some o->h'.get? d=some o) (t:TK h h') (x:h.DictOfH (tupleKind (strKind g.p g.w)) d xs):h'.DictOfH (tupleKind (strKind g.p g.w)) d xs:=by
 obtain ⟨o,es,ep,ho,hx,hd,he,hk,hn⟩:=x
 refine ⟨o,es,ep,k o ho,hx,hd,he,fun y hy=>?_,hn⟩
 obtain ⟨o',items,n,ho',hc,hd',hi⟩:=hk y hy
 obtain ⟨o2,ho2,hc2,n2,hd2⟩:=t y.2.1 items ⟨o',ho',hc,n,hd'⟩
 exact ⟨o2,items,n2,ho2,hc2,hd2,hi⟩
theorem cX.keep {P:Params} {d:Addr} {kvs:List (String×Value)} (x:cX P h d kvs) (k:∀ o,h.get? d=some o->h'.get? d=some o):cX P h' d kvs:=let ⟨es,n,a,b⟩:=x;⟨es,n,k _ a,b⟩
theorem CR.mono {g:G} {x:aF} {as:List Addr} (r:CR g h x as) (k:∀ b∈as,∀ o,h.get? b=some o->h'.get? b=some o) (t:TK h h'):CR g h' x as:=by
 cases r with
 |list a b d=>exact .list (k _ (.head _) _ a) (b.keep t) d
 |dict a b d=>exact .dict (a.at (k _ (.head _))) (b.keep t) d
 |exn a b=>exact .exn ⟨a.ob.imp fun j=>k _ (.head _) _,a.sz,let ⟨a1,a2,a3,a4,i⟩:=a.at_;⟨a1,a2,a3,a4,i.keep (k _ (.tail _ (.head _)))⟩,a.ok⟩ b
 |rd R=>
  obtain ⟨r1,⟨t1,fv,tv,e1,e3,e4⟩,⟨ts,n2,f1,f2,f3⟩,⟨es2,g1,g2,g3⟩,r5,r6⟩:=R
  exact .rd ⟨k _ (by simp) _ r1,⟨t1,fv,tv,e1.keep (k _ (by simp)),e3.keep t,e4.keep t⟩,⟨ts,n2,k _ (by simp) _ f1,f2.keep t,f3⟩,⟨es2,D9 (k _ (by simp)) t g1,g2.keep t,g3⟩,k _ (by simp) _ r5,r6.keep (k _ (by simp))⟩
theorem SR.mono {g:G} (r:SR g h σ φ) (k:∀ b∈own φ,∀ o,h.get? b=some o->h'.get? b=some o) (t:TK h h'):SR g h' σ φ:=by
 induction r with
 |nil=>exact .nil
 |cons a _ ih=>exact .cons (a.mono (fun b hb=>k b (AS _ hb)) t) (ih fun b hb=>k b (kh _ hb))
theorem SR.len {g:G} (r:SR g h σ φ):σ.length=φ.length:=by
 induction r with
 |nil=>rfl
 |cons _ _ ih=>exact aM Nat.succ ih
theorem SR.snoc {g:G} {x:aF} {as:List Addr} (r:SR g h σ φ) (b:CR g h x as):SR g h (σ++[x]) (φ++[as]):=by
 induction r with
 |nil=>exact .cons b .nil
 |cons a _ ih=>exact .cons a ih
theorem SR.at {g:G} {x:aF} (r:SR g h σ φ) {n:Nat} (e:aP σ n=some x):∃ as,φ[n]?=some as/\CR g h x as:=by
 unfold aP at e
 induction r generalizing n with
 |nil=>cases e
 |cons a _ ih=>cases n with
  |zero=>cases e;exact ⟨_,rfl,a⟩
  |succ n=>exact ih e
theorem ay.at (I:ay c φ l σ h) {n:Nat} {as:List Addr} {x:aF} (q:φ[n]?=some as) (e:aP σ n=some x):CR c.g h x as:=by
 obtain ⟨as',q',r⟩:=I.sto.at e
 rw [q] at q';cases q';exact r
theorem ay.mono (I:ay c φ l σ h) (g:fR c (fun j=>False) h h'):ay c φ l σ h':=
 I.to g nofun (e8 _) (I.sto.mono (fun b hb o e=>(g.k b o e id fun q=>(I.off b hb).touch (q▸ .head _)).eq (I.off b hb).fa) (g.tk nofun I.nsx)) I.nd fun j=> .inl
theorem ut {as:List Addr} (n:(own φ).Nodup) (na:as.Nodup) (d:∀ b∈as,b∉own φ):(own (φ++[as])).Nodup:=by
 rw [l9]
 exact C0.mpr ⟨n,by unfold own;rw [List.flatten_cons,List.flatten_nil,dT];exact na,fun x hx y hy q=>d y (by unfold own at hy;rw [List.flatten_cons,List.flatten_nil,dT] at hy;exact hy) (q▸hx)⟩
theorem ay.alloc (I:ay c φ l σ s.heap) (g:fR c (fun j=>False) s.heap h') {t:Nat} {x:aF} {a:Addr} {as:List Addr} (hn:∀ b∈a::as,s.heap.get? b=none) (nd:(a::as).Nodup) (cr:TK s.heap h'->CR c.g h' x (a::as)) {Q E:Value->Shared->Prop} (f:bJ c φ l s (.ok (.ref σ.length) (σ++[x])) Q E):Q (.ref a) {s with heap:=h',toks:=t}:=by
 have nw:∀ b∈own (φ++[a::as]),b∈own φ\/s.heap.get? b=none:=fun b m=>(eA.mp m).imp id (hn b)
 refine f (φ++[a::as]) _ _ (aL.to I g nofun (j3 _ _) nw) (I.to g nofun (j3 _ _) ((I.mono g).sto.snoc (cr (g.tk nofun I.nsx))) (ut I.nd nd fun b m=>(I.new (hn b m)).2) fun b m=>(nw b m).imp id fun n=>(I.new n).1) (.ref (as:=as) ?_)
 rw [I.sto.len,wz (cR _),wr];rfl
theorem Fin.newList {xs:List I} {vs:List Value} {n t:Nat} {a:Addr} {Q E:Value->Shared->Prop} (f:bJ c φ l s (.ok (.ref σ.length) (σ++[.list xs])) Q E) (I:ay c φ l σ s.heap) (g:fR c (fun j=>False) s.heap h') (hn:s.heap.get? a=none) (e:h'.get? a=some (listOf vs.toArray n)) (r:IReps c.g.D s.heap xs vs) (q:xs.length<=aJ):Q (.ref a) {s with heap:=h',toks:=t}:=
 I.alloc g (as:=[]) (vr.mpr hn) (ej.mpr ⟨nofun,.nil⟩) (fun tk=> .list e (r.keep tk) q) f
theorem Fin.newDict {kvs:List (I×I)} {es:List (Str×Value)} {t:Nat} {a:Addr} {Q E:Value->Shared->Prop} (f:bJ c φ l s (.ok (.ref σ.length) (σ++[.dict kvs])) Q E) (I:ay c φ l σ s.heap) (g:fR c (fun j=>False) s.heap h') (hn:s.heap.get? a=none) (e:h'.DictOf (strKind c.g.p c.g.w) a es) (r:cW c.g.D s.heap kvs es) (q:kvs.length<=aJ):Q (.ref a) {s with heap:=h',toks:=t}:=
 I.alloc g (as:=[]) (vr.mpr hn) (ej.mpr ⟨nofun,.nil⟩) (fun tk=> .dict e (r.keep tk) q) f
theorem Fin.grow {v:α} {y:γ} {t:Nat} (f:Fin R c φ l s (.ok v σ) Q E) (I:ay c φ l σ s.heap) (g:fR c (fun j=>False) s.heap h') (r:TK s.heap h'->R φ h' v y):Q y {s with heap:=h',toks:=t}:=
 f φ y _ (aL.to I g nofun (e8 _) fun j=> .inl) (I.mono g) (r (g.tk nofun I.nsx))
theorem Fin.newTup {xs:List I} {vs:List Value} {t:Nat} {a:Addr} {Q E:Value->Shared->Prop} (f:bJ c φ l s (.ok (.i (.tup xs)) σ) Q E) (I:ay c φ l σ s.heap) (g:fR c (fun j=>False) s.heap h') (e:IsTup h' a vs.toArray) (r:IReps c.g.D s.heap xs vs) (q:xs.length<=aJ):Q (.ref a) {s with heap:=h',toks:=t}:=
 f.grow I g fun tk=> .i (.tup e q (r.keep tk))
theorem zC (nd:(own φ).Nodup) {n:Nat} {as:List Addr} (e:φ[n]?=some as):as.Nodup:=(List.pairwise_flatten.mp nd).1 as (yF e)
theorem SR.put {g:G} {as:List Addr} {x:aF} (r:SR g h σ φ) (k:∀ b o,b∉as->h.get? b=some o->h'.get? b=some o) (t:TK h h') (cr:CR g h' x as) (nd:(own φ).Nodup) {n:Nat} (e:φ[n]?=some as):SR g h' (putAt σ n x) φ:=by
 induction r generalizing n with
 |nil=>cases e
 |cons a r ih=>
  have nd':=C0.mp nd
  cases n with
  |zero=>cases e;exact .cons cr (r.mono (fun b hb o=>k b o fun m=>nd'.2.2 b m b hb rfl) t)
  |succ n=>exact .cons (a.mono (fun b hb o=>k b o fun m=>nd'.2.2 b hb b (hZ e m) rfl) t) (ih nd'.2.1 e)
theorem ay.put (I:ay c φ l σ s.heap) {n t:Nat} {as:List Addr} {x:aF} (e:φ[n]?=some as) (k:∀ b o,b∉as->s.heap.get? b=some o->h'.get? b=some o) (cr:TK s.heap h'->CR c.g h' x as) {P:Prop}
  (f:TK s.heap h'->aL c φ s φ {s with heap:=h',toks:=t}->ay c φ l (putAt σ n x) h'->P):P:=by
 have hS:∀ b,b∈as->Gm c s.heap b:=fun b m=>I.free (hZ e m)
 have g:fR c (·∈as) s.heap h':= .of (fun m=>(hS _ m).1.touch (.head _)) fun b o e n=> .refl (k b o n e)
 have tk:=g.tk hS I.nsx
 exact f tk (aL.to I g (fun b=>hZ e) (e8 _) fun j=> .inl) (I.to g hS (e8 _) (I.sto.put k tk (cr tk) I.nd e) I.nd fun j=> .inl)
end
end
section
structure Wr (g:G) (base:Heap):Prop where
 fd:∀ n,n< 7->∃ es,base.DictOf (strKind g.p g.w) (g.D.fd n) es/\cW g.D base (FD n) es
 fdn:∀ n,n< 7->g.D.fd n≠1
 one:∃ o,base.get? 1=some o
 fl:base.IsList g.D.la (g.D.lv.map fun p=>Value.int p.1 p.2).toArray
 fll:g.D.lv.length<=aJ
structure Ms (c:aS) (φ:a9) (σ:ai) (h:Heap) (m:Nat) (xs:List I) (a:Addr):Prop where
 q:φ[m]?=some [a]
 e:aP σ m=some (.list xs)
 ob:∃ vs j,h.get? a=some (listOf vs.toArray j)/\IReps c.g.D h xs vs
 len:xs.length<=aJ
structure L6 (c:aS) (φ:a9) (σ:ai) (h:Heap) (m:Nat) (kvs:List (I×I)) (a:Addr):Prop where
 q:φ[m]?=some [a]
 e:aP σ m=some (.dict kvs)
 ob:∃ es,h.DictOf (strKind c.g.p c.g.w) a es/\cW c.g.D h kvs es
 len:kvs.length<=aJ
section
variable {α β γ:Type} {R:a9->Heap->α->γ->Prop} {c:aS} {φ φ':a9} {l l':av} {σ σ':ai} {s s':Shared} {h h':Heap} {u v:V} {x y:Value} {Q:γ->Shared->Prop} {E:Value->Shared->Prop} {r:RE α} {F:β->Prop} {n:β} {C:Value->Prop}
theorem Fin.bad {P:Prop} (f:Fin R c φ l s .bad Q E):P:=False.elim f
theorem eW {a b:Nat} (h:Nat.blt a b=true):a< b:=aI h
theorem Fin.gd {b:Bool} (f:Fin R c φ l s (gd b r) Q E) {P:Prop} (k:b=true->Fin R c φ l s r Q E->P):P:=by
 cases b with
 |true=>exact k rfl f
 |false=>exact f.bad
theorem wy {k:I->β} (f:F (yD k n u)) (r:aB c.g.D φ h u x) {P:Prop} (h1:∀ i,aX c.g.D h i x->F (k i)->P) (h2:F n->P):P:=by
 cases u with
 |i i=>exact h1 i r.iE f
 |_=>exact h2 f
theorem el_int {k:Int->β} (f:F (cG k n u)) (r:aB c.g.D φ h u x) (h1:∀ a t,F (k a)->C (.int a t)) (h2:F n->C x):C x:=by
 cases u with
 |i i=>cases i with
  |int a=>exact r.iE.intE fun t=>h1 a t f
  |_=>exact h2 f
 |_=>exact h2 f
theorem Jg {k:Nat->β} (f:F (mX k n u)) (r:aB c.g.D φ h u x) (h1:∀ (a:Nat) t,F (k a)->C (.int (.ofNat a) t)) (h2:F n->C x):C x:=by
 cases u with
 |i i=>cases i with
  |int a=>cases a with
   |ofNat a=>exact r.iE.intE fun t=>h1 a t f
   |negSucc=>exact h2 f
  |_=>exact h2 f
 |_=>exact h2 f
theorem Db {k:T->β} (f:F (cz k n u)) (r:aB c.g.D φ h u x) (h1:∀ a t,dH a->F (k a)->C (.str (aD a) t)) (h2:F n->C x):C x:=by
 cases u with
 |i i=>cases i with
  |str a=>exact r.iE.strE fun t q=>h1 a t q f
  |_=>exact h2 f
 |_=>exact h2 f
theorem el_chr {k:Nat->β} (f:F (zP k n u)) (r:aB c.g.D φ h u x) (h1:∀ a t,dH [a]->F (k a)->C (.str (aD [a]) t)) (h2:F n->C x):C x:=by
 cases u with
 |i i=>cases i with
  |str a=>match a,r,f with
   |[],_,f=>exact h2 f
   |[a],r,f=>exact r.iE.strE fun t q=>h1 a t q f
   |_::_::_,_,f=>exact h2 f
  |_=>exact h2 f
 |_=>exact h2 f
theorem Pe {k:List I->β} (f:F (eQ k n u)) (r:aB c.g.D φ h u x) (h1:∀ xs a vs,IsTup h a vs.toArray->xs.length<=aJ->IReps c.g.D h xs vs->F (k xs)->C (.ref a)) (h2:F n->C x):C x:=by
 cases u with
 |i i=>cases i with
  |tup a=>exact r.iE.tupE fun t vs a1 a2 a3=>h1 a t vs a1 a2 a3 f
  |_=>exact h2 f
 |_=>exact h2 f
theorem W9 {k:Bool->β} (f:F (C7 k n u)) (r:aB c.g.D φ h u x) (h1:∀ a,F (k a)->C (.bool a)) (h2:F n->C x):C x:=by
 cases u with
 |i i=>cases i with
  |bool a=>exact r.iE.boolE (h1 a f)
  |_=>exact h2 f
 |_=>exact h2 f
theorem VA {k:Nat->β} (f:F (Fc k n u)) (r:aB c.g.D φ h u x) (h1:∀ a,a< 7->F (k a)->C (.ref (c.g.D.fd a))) (h2:F n->C x):C x:=by
 cases u with
 |i i=>cases i with
  |fd a=>
   have f:F (Pm (k a) n (Nat.blt a 7)):=f
   cases q:Nat.blt a 7 with
   |true=>exact r.iE.fdE (h1 a (eW q) (q▸f:))
   |false=>exact h2 (q▸f:)
  |_=>exact h2 f
 |_=>exact h2 f
theorem el_fn {k:β} (f:F (onFn k n u)) (r:aB c.g.D φ h u x) (h1:F k->C (.ref c.g.D.jd)) (h2:F n->C x):C x:=by
 cases u with
 |i i=>cases i with
  |fn=>exact r.iE.fnE (h1 f)
  |_=>exact h2 f
 |_=>exact h2 f
theorem el_tk {k:T->T->β} (f:F (Nt k n u)) (r:aB c.g.D φ h u x) (h1:∀ k' z a r' c' t1 t2 t3 t4,IsTup h a #[.str (aD k') t1,.str (aD z) t2,.int r' t3,.int c' t4]->dH k'->dH z->F (k k' z)->C (.ref a)) (h2:F n->C x):C x:=by
 cases u with
 |i i=>cases i with
  |tk a b=>exact r.iE.tkE fun z r' c' t1 t2 t3 t4 a1 a2 a3=>h1 a b z r' c' t1 t2 t3 t4 a1 a2 a3 f
  |_=>exact h2 f
 |_=>exact h2 f
theorem el_fl {k:List I->β} (f:F (N9 k n u)) (r:aB c.g.D φ h u x) (h1:F (k (c.g.D.lv.map fun p=>I.int p.1))->C (.ref c.g.D.la)) (h2:F n->C x):C x:=by
 cases u with
 |i i=>cases i with
  |fl a=>exact r.iE.flE fun e=>h1 (e▸f)
  |_=>exact h2 f
 |_=>exact h2 f
theorem Fk {k:Nat->List I->β} (f:F (cy σ k n u)) (I:ay c φ l' σ h) (r:aB c.g.D φ h u x) (h1:∀ m xs a,Ms c φ σ h m xs a->F (k m xs)->C (.ref a)) (h2:F n->C x):C x:=by
 cases u with
 |ref m=>
  have f:F (ph (k m) n (aP σ m)):=f
  cases e:aP σ m with
  |none=>exact h2 (e▸f:)
  |some d=>cases d with
   |list xs=>
    refine r.refE fun a as q=>?_
    cases I.at q e with |list a1 a2 a3=>exact h1 m xs a ⟨q,e,⟨_,_,a1,a2⟩,a3⟩ (e▸f:)
   |_=>exact h2 (e▸f:)
 |_=>exact h2 f
theorem E7 {k:Nat->List (Mine.I×Mine.I)->β} (f:F (qU σ k n u)) (I:ay c φ l' σ h) (r:aB c.g.D φ h u x) (h1:∀ m xs a,L6 c φ σ h m xs a->F (k m xs)->C (.ref a)) (h2:F n->C x):C x:=by
 cases u with
 |ref m=>
  have f:F (U5 (k m) n (aP σ m)):=f
  cases e:aP σ m with
  |none=>exact h2 (e▸f:)
  |some d=>cases d with
   |dict xs=>
    refine r.refE fun a as q=>?_
    cases I.at q e with |dict a1 a2 a3=>exact h1 m xs a ⟨q,e,⟨_,a1,a2⟩,a3⟩ (e▸f:)
   |_=>exact h2 (e▸f:)
 |_=>exact h2 f
theorem Ab {k:Nat->List I->List I->List (Mine.I×Mine.I)->Mine.I->Mine.I->β} (f:F (vw σ k n u)) (I:ay c φ l' σ h) (r:aB c.g.D φ h u x)
  (h1:∀ m pre rest kn fam tab a dx tok kno tg tgd,φ[m]?=some [a,dx,tok,kno,tg,tgd]->aP σ m=some (.rd pre rest kn fam tab)->td c.g h pre rest kn fam tab a dx tok kno tg tgd->u= .ref m->F (k m pre rest kn fam tab)->C (.ref a)) (h2:F n->C x):C x:=by
 cases u with
 |ref m=>
  have f:F (MY (k m) n (aP σ m)):=f
  cases e:aP σ m with
  |none=>exact h2 (e▸f:)
  |some d=>cases d with
   |rd _ _ _ _ _=>
    refine r.refE fun a as q=>?_
    cases I.at q e with |rd a1=>exact h1 _ _ _ _ _ _ _ _ _ _ _ _ q e a1 rfl (e▸f:)
   |_=>exact h2 (e▸f:)
 |_=>exact h2 f
theorem el_exn {k:Nat->Bool->T->Int->Int->β} (f:F (Wd σ k n u)) (I:ay c φ l' σ h) (r:aB c.g.D φ h u x)
  (h1:∀ m new w ro co e dx vs,φ[m]?=some [e,dx]->PV c.g h w ro co e dx vs->(new=true->vs[1]?=some .none)->F (k m new w ro co)->C (.ref e)) (h2:F n->C x):C x:=by
 cases u with
 |ref m=>
  have f:F (aac (k m) n (aP σ m)):=f
  cases e:aP σ m with
  |none=>exact h2 (e▸f:)
  |some d=>cases d with
   |exn _ _ _ _=>
    refine r.refE fun a as q=>?_
    cases I.at q e with |exn a1 a2=>exact h1 _ _ _ _ _ _ _ _ q a1 a2 (e▸f:)
   |_=>exact h2 (e▸f:)
 |_=>exact h2 f
noncomputable def Rp (j:Nat) (tok kno tg:Addr):Addr:=match j with |0=>tg |1=>tok |_=>kno
theorem P5 {j:Nat} {k:Nat->List I->List I->List (Mine.I×Mine.I)->Mine.I->Mine.I->β} (f:F (sO σ j k n u)) (I:ay c φ l' σ h) (r:aB c.g.D φ h u x)
  (h1:∀ m pre rest kn fam tab a dx tok kno tg tgd,φ[m]?=some [a,dx,tok,kno,tg,tgd]->td c.g h pre rest kn fam tab a dx tok kno tg tgd->F (k m pre rest kn fam tab)->C (.ref (Rp j tok kno tg))) (h2:F n->C x):C x:=by
 cases u with
 |sub i m=>
  have f:F (Pm (MY (k m) n (aP σ m)) n (Nat.beq i j)):=f
  cases e0:Nat.beq i j with
  |false=>exact h2 (e0▸f:)
  |true=>
   have:=kj e0
   subst this
   rw [e0] at f
   have f:F (MY (k m) n (aP σ m)):=f
   cases e:aP σ m with
   |none=>exact h2 (e▸f:)
   |some d=>cases d with
    |rd _ _ _ _ _=>
     have fin:∀ {a dx tok kno tg tgd},φ[m]?=some [a,dx,tok,kno,tg,tgd]->x= .ref (Rp i tok kno tg)->C x:=fun q e'=>by
      cases I.at q e with |rd a1=>exact e'▸h1 _ _ _ _ _ _ _ _ _ _ _ _ q a1 (e▸f:)
     cases r with
     |tng q=>exact fin q rfl
     |tks q=>exact fin q rfl
     |kno q=>exact fin q rfl
    |_=>exact h2 (e▸f:)
 |_=>exact h2 f
abbrev gQ {α γ:Type} (R:a9->Heap->α->γ->Prop) (c:aS) (φ:a9) (l:av) (s:Shared) (Q:γ->Shared->Prop) (E:Value->Shared->Prop) (r:RE α):Prop:=Fin R c φ l s r Q E
theorem Fin.i {k:Mine.I->RE α} (f:Fin R c φ l s (yD k r u) Q E) (z:aB c.g.D φ h u x) {P:Prop} (h1:∀ i,aX c.g.D h i x->Fin R c φ l s (k i) Q E->P) (h2:Fin R c φ l s r Q E->P):P:=wy (F:=gQ R c φ l s Q E) f z h1 h2
@[elab_as_elim]
theorem Fin.int {k:Int->RE α} (f:Fin R c φ l s (cG k r u) Q E) (z:aB c.g.D φ h u x) (h1:∀ a t,Fin R c φ l s (k a) Q E->C (.int a t)) (h2:Fin R c φ l s r Q E->C x):C x:=el_int (F:=gQ R c φ l s Q E) f z h1 h2
@[elab_as_elim]
theorem Fin.nat {k:Nat->RE α} (f:Fin R c φ l s (mX k r u) Q E) (z:aB c.g.D φ h u x) (h1:∀ (a:Nat) t,Fin R c φ l s (k a) Q E->C (.int (.ofNat a) t)) (h2:Fin R c φ l s r Q E->C x):C x:=Jg (F:=gQ R c φ l s Q E) f z h1 h2
@[elab_as_elim]
theorem Fin.str {k:T->RE α} (f:Fin R c φ l s (cz k r u) Q E) (z:aB c.g.D φ h u x) (h1:∀ a t,dH a->Fin R c φ l s (k a) Q E->C (.str (aD a) t)) (h2:Fin R c φ l s r Q E->C x):C x:=Db (F:=gQ R c φ l s Q E) f z h1 h2
@[elab_as_elim]
theorem Fin.chr {k:Nat->RE α} (f:Fin R c φ l s (zP k r u) Q E) (z:aB c.g.D φ h u x) (h1:∀ a t,dH [a]->Fin R c φ l s (k a) Q E->C (.str (aD [a]) t)) (h2:Fin R c φ l s r Q E->C x):C x:=el_chr (F:=gQ R c φ l s Q E) f z h1 h2
@[elab_as_elim]
theorem Fin.tup {k:List Mine.I->RE α} (f:Fin R c φ l s (eQ k r u) Q E) (z:aB c.g.D φ h u x) (h1:∀ xs a vs,IsTup h a vs.toArray->xs.length<=aJ->IReps c.g.D h xs vs->Fin R c φ l s (k xs) Q E->C (.ref a)) (h2:Fin R c φ l s r Q E->C x):C x:=Pe (F:=gQ R c φ l s Q E) f z h1 h2
@[elab_as_elim]
theorem Fin.bool {k:Bool->RE α} (f:Fin R c φ l s (C7 k r u) Q E) (z:aB c.g.D φ h u x) (h1:∀ a,Fin R c φ l s (k a) Q E->C (.bool a)) (h2:Fin R c φ l s r Q E->C x):C x:=W9 (F:=gQ R c φ l s Q E) f z h1 h2
@[elab_as_elim]
theorem Fin.tk {k:T->T->RE α} (f:Fin R c φ l s (Nt k r u) Q E) (z:aB c.g.D φ h u x) (h1:∀ k' z a r' c' t1 t2 t3 t4,IsTup h a #[.str (aD k') t1,.str (aD z) t2,.int r' t3,.int c' t4]->dH k'->dH z->Fin R c φ l s (k k' z) Q E->C (.ref a)) (h2:Fin R c φ l s r Q E->C x):C x:=el_tk (F:=gQ R c φ l s Q E) f z h1 h2
@[elab_as_elim]
theorem Fin.rd {k:Nat->List Mine.I->List Mine.I->List (Mine.I×Mine.I)->Mine.I->Mine.I->RE α} (f:Fin R c φ l s (vw σ k r u) Q E) (I:ay c φ l' σ h) (z:aB c.g.D φ h u x)
  (h1:∀ m pre rest kn fam tab a dx tok kno tg tgd,φ[m]?=some [a,dx,tok,kno,tg,tgd]->aP σ m=some (.rd pre rest kn fam tab)->td c.g h pre rest kn fam tab a dx tok kno tg tgd->u= .ref m->Fin R c φ l s (k m pre rest kn fam tab) Q E->C (.ref a)) (h2:Fin R c φ l s r Q E->C x):C x:=Ab (F:=gQ R c φ l s Q E) f I z h1 h2
@[elab_as_elim]
theorem Fin.fd {k:Nat->RE α} (f:Fin R c φ l s (Fc k r u) Q E) (z:aB c.g.D φ h u x) (h1:∀ a,a< 7->Fin R c φ l s (k a) Q E->C (.ref (c.g.D.fd a))) (h2:Fin R c φ l s r Q E->C x):C x:=VA (F:=gQ R c φ l s Q E) f z h1 h2
@[elab_as_elim]
theorem Fin.fl {k:List Mine.I->RE α} (f:Fin R c φ l s (N9 k r u) Q E) (z:aB c.g.D φ h u x) (h1:Fin R c φ l s (k (c.g.D.lv.map fun p=>Mine.I.int p.1)) Q E->C (.ref c.g.D.la)) (h2:Fin R c φ l s r Q E->C x):C x:=el_fl (F:=gQ R c φ l s Q E) f z h1 h2
@[elab_as_elim]
theorem Fin.list {k:Nat->List Mine.I->RE α} (f:Fin R c φ l s (cy σ k r u) Q E) (I:ay c φ l' σ h) (z:aB c.g.D φ h u x) (h1:∀ m xs a,Ms c φ σ h m xs a->Fin R c φ l s (k m xs) Q E->C (.ref a)) (h2:Fin R c φ l s r Q E->C x):C x:=Fk (F:=gQ R c φ l s Q E) f I z h1 h2
@[elab_as_elim]
theorem Fin.dict {k:Nat->List (Mine.I×Mine.I)->RE α} (f:Fin R c φ l s (qU σ k r u) Q E) (I:ay c φ l' σ h) (z:aB c.g.D φ h u x) (h1:∀ m xs a,L6 c φ σ h m xs a->Fin R c φ l s (k m xs) Q E->C (.ref a)) (h2:Fin R c φ l s r Q E->C x):C x:=E7 (F:=gQ R c φ l s Q E) f I z h1 h2
@[elab_as_elim]
theorem Fin.sub {j:Nat} {k:Nat->List Mine.I->List Mine.I->List (Mine.I×Mine.I)->Mine.I->Mine.I->RE α} (f:Fin R c φ l s (sO σ j k r u) Q E) (I:ay c φ l' σ h) (z:aB c.g.D φ h u x)
  (h1:∀ m pre rest kn fam tab a dx tok kno tg tgd,φ[m]?=some [a,dx,tok,kno,tg,tgd]->td c.g h pre rest kn fam tab a dx tok kno tg tgd->Fin R c φ l s (k m pre rest kn fam tab) Q E->C (.ref (Rp j tok kno tg))) (h2:Fin R c φ l s r Q E->C x):C x:=P5 (F:=gQ R c φ l s Q E) f I z h1 h2
end
noncomputable def NX (h:Heap) (L:Addr):List (Addr×Obj):=(List.range h.objs.size).filterMap fun a=>if a=L then none else (h.get? a).map fun o=>(a,o)
theorem BS {h:Heap} {L a:Addr} {o:Obj}:(a,o)∈NX h L↔a≠L/\h.get? a=some o:=by
 unfold NX
 rw [List.mem_filterMap]
 constructor
 ·rintro ⟨b,hb,e⟩
  split at e
  ·cases e
  ·rename_i hne
   obtain ⟨o',q,e⟩:=CI.mp e
   cases e;exact ⟨hne,q⟩
 ·rintro ⟨hne,e⟩
  exact ⟨a,cE.mpr (FR e),by rw [b7 hne,e];rfl⟩
theorem fr0 {h:Heap} {L:Addr} {m:Str->Option Value} (n:h.Ns L m):Fr {} L h m:=⟨n,fun b o e=>by simp [Heap.get?] at e,dI _⟩
theorem Ou (h:Heap) (L:Addr):News {} L h (NX h L):=fun p hp=>⟨(BS.mp hp).2,(BS.mp hp).1,by simp [Heap.get?]⟩
theorem Px {h:Heap} {a:Addr} {m m':Str->Option Value} (x:h.Ns a m) (y:h.Ns a m'):m=m':=by
 obtain ⟨o,es,ep,ho,hd,_,e⟩:=x
 obtain ⟨o',es',ep',ho',hd',_,e'⟩:=y
 rw [ho] at ho';cases ho'
 rw [hd] at hd';cases hd'
 exact funext fun n=>(e n).symm.trans (e' n)
theorem fR.news {c:aS} {h h':Heap} {m:Str->Option Value} {x:List (Addr×Obj)} (hm:h.Ns c.env.locals m) (F:Fr {} c.env.locals h' m) (N:News {} c.env.locals h' (x++NX h c.env.locals)):fR c (fun j=>False) h h':=
 ⟨fun b j e j n=> .refl (N _ (kh _ (BS.mpr ⟨n,e⟩))).1,fun m' hm'=>Px hm hm'▸F.ns⟩
theorem a0 (h:Heap):h.get? h.objs.size=none:=kJ.mpr fun j q=>A8 _ (FR q)
theorem fc (h:Heap) (o:Obj):∀ b p,h.get? b=some p->(h.push o).get? b=some p:=fun j j e=>eB _ e
section
variable {c:aS} {φ:a9} {l:av} {σ:ai} {s:Shared} {e:PySem.Expr} {a:Ex} {pos:Pos}
theorem zN (a b:T):(aD a++aD b:Str)=aD (a++b):=by
 show (⟨a.toArray++b.toArray⟩:Str)=⟨(a++b).toArray⟩
 rw [List.append_toArray]
theorem dz (a:T):(aD a).length=a.length:=e7
theorem dH.app {a b:T} (x:dH a) (y:dH b) (q:a.length+b.length<=aJ):dH (a++b):=
 ⟨(bd ..).symm▸q,fun c h=>(jv.mp h).elim (x.2 c) (y.2 c)⟩
theorem cK:aJ=sizeLine:=by rw [wj];rfl
theorem CQ {n:Nat} (h:n<=aJ):(n:Int)< 2 ^ 63:=by unfold aJ at h;omega
theorem dy {h:Heap} {a:Addr} {vs:List Value} {k:Nat} (e:h.get? a=some (listOf vs.toArray k)):h.IsList a vs.toArray:=⟨_,e,rfl,k,rfl⟩
def i2 (c:aS) (op:Operator) (f:V->V->ai->RE V):Prop:=∀ φ l σ s u v x y Q E,ay c φ l σ s.heap->aB c.g.D φ s.heap u x->aB c.g.D φ s.heap v y->bJ c φ l s (f u v σ) Q E->c.wp (binaryOp op x y) Q E s
theorem UK {xs ys:List Mine.I} {vs ws:List Value} {h:Heap} (a:IReps c.g.D h xs vs) (b:IReps c.g.D h ys ws) (q:Nat.ble (xs.length+ys.length) aJ=true):vs.length+ws.length<=sizeLine:=by
 rw [<-a.length,<-b.length,<-cK];exact aI q
theorem ok_add:i2 c .Add au:=fun φ l σ s u v x y Q E I ru rv f=>
 f.int ru (fun a t f=>f.int rv (fun b t' f=>add_int (f.val I (.i (.int _ _)))) Fin.bad) fun f=>
 f.str ru (fun a t qa f=>f.str rv (fun b t' qb f=>f.gd fun q f=>add_str (fun t' tk=>zN a b▸f.val I (.i (.str _ _ (qa.app qb (aI q))))) (by rw [dz,dz,<-cK];exact aI q)) Fin.bad) fun f=>
 let ⟨m,hm⟩:=I.nsx
 f.tup ru (fun xs a vs ta la ra f=>f.tup rv (fun ys b ws tb lb rb f=>f.gd fun q f=>
  have fl:∀ {zs},zs=xs++ys->bJ c φ l s (.ok (.i (.tup zs)) σ) Q E:=fun e=>e▸f
  add_tuples (fr0 hm) (Ou _ _) ta tb (fun e=>by subst e;cases ra;exact (fl rfl).here I (.i (.tup tb lb rb))) (fun j e=>by subst e;cases rb;exact (fl (dT _).symm).here I (.i (.tup ta la ra)))
   (fun j j h' F' N'=>f.newTup I (fR.news (x:=[_]) hm F' N') ⟨_,(N' _ (.head _)).1,rfl,0,rfl⟩ (ra.append rb) ((bd ..).symm▸aI q)) (UK ra rb q)) Fin.bad) fun f=>
 f.list I ru (fun j xs a A f=>f.list I rv (fun j ys b B f=>f.gd fun q f=>
  let ⟨vs,_,ha,ra⟩:=A.ob;let ⟨ws,_,hb,rb⟩:=B.ob
  add_lists (fr0 hm) (Ou _ _) (dy ha) (dy hb) (fun h' F' N'=>f.newList I (fR.news (x:=[_]) hm F' N') (a0 _) (N' _ (.head _)).1 (ra.append rb) ((bd ..).symm▸aI q)) (UK ra rb q)) Fin.bad) Fin.bad
theorem OJ {op:Operator} {g:Int->Int->ai->RE V} (k:∀ φ l σ s a b t t' Q E,ay c φ l σ s.heap->bJ c φ l s (g a b σ) Q E->c.wp (binaryOp op (.int a t) (.int b t')) Q E s):i2 c op (fun u v σ=>ii (fun a b=>g a b σ) u v):=
 fun j j j j j j j j j j I ru rv f=>f.int ru (fun j j f=>f.int rv (fun j j f=>k _ _ _ _ _ _ _ _ _ _ I f) Fin.bad) Fin.bad
theorem ok_sub:i2 c .Sub dQ:=OJ fun j j j j j j j j j j I f=>sub_int (f.val I (.i (.int _ _)))
theorem Kk {a:Int} (h:sw a=true):a.natAbs< 2 ^ 250:=aI h
theorem Dj {a:Int} (h:sw a=true):Builtin.Int.intBits a<=2 ^ 20:=ba (intBits_le_iff.mpr (Kk h)) (by decide)
theorem aaw:i2 c .Mult jx:=OJ fun j j j j j j j j j j I f=>f.gd fun q f=>mul_int (f.val I (.i (.int _ _))) (IntMulOk.of_bits (Dj (cp.mp q).1) (Dj (cp.mp q).2))
theorem OL {b:Int} (h:sw b=true):b.natAbs.log2< 9000:=by
 by_cases q:b.natAbs=0
 ·rw [q];decide
 ·exact ub ((Nat.log2_lt q).mpr (Kk h)) (by decide)
theorem Q6 {b:Int} (h:Cp b=true):b≠0:=fun e=>by subst e;cases h
theorem WH:i2 c .FloorDiv f6:=OJ fun j j j j j j j j j j I f=>f.gd fun q f=>floordiv_int (Q6 (cp.mp q).1) (f.val I (.i (.int _ _))) (.inl (PyProof.noPylong_of_log2 (OL (cp.mp q).2)))
theorem Ph:Rj=2 ^ 120:=by decide
theorem Yr:i2 c .Mod ck:=fun φ l σ s u v x y Q E I ru rv f=>by
 have std:∀ {u},aB c.g.D φ s.heap u x->bJ c φ l s (ii (fun a b=>gd (Cp b) (.ok (.i (.int (a.fmod b))) σ)) u v) Q E->c.wp (binaryOp .Mod x y) Q E s:=fun ru f=>
  f.int ru (fun j j f=>f.int rv (fun j j f=>f.gd fun q f=>mod_int' (Q6 q) (f.val I (.i (.int _ _)))) Fin.bad) Fin.bad
 cases u with
 |i i=>cases i with
  |num ds=>exact ru.iE.numE fun i t dg=>f.int rv (fun b t' f=>f.gd fun q f=>by
    rw [cw q,Ph]
    exact mod_int' (by decide) (f.val I (.i (.dig dg (Int.fmod_nonneg_of_pos _ (by decide)) (Int.fmod_lt_of_pos _ (by decide)))))) Fin.bad
  |_=>exact std ru f
 |_=>exact std ru f
theorem Ve {op:Operator} {g:Int->Nat->ai->RE V} (k:∀ φ l σ s a (n:Nat) t t' Q E,a.natAbs< 65536->n<=256->ay c φ l σ s.heap->bJ c φ l s (g a n σ) Q E->c.wp (binaryOp op (.int a t) (.int n t')) Q E s):i2 c op (fun u v σ=>iN (fun a b=>g a b σ) u v):=
 fun j j j j j j j j j j I ru rv f=>f.int ru (fun j j f=>f.nat rv (fun j j f=>f.gd fun q f=>k _ _ _ _ _ _ _ _ _ _ (eW (cp.mp q).1) (aI (cp.mp q).2) I f) Fin.bad) Fin.bad
theorem ok_pow:i2 c .Pow ig:=Ve fun j j j j j n j j j j q1 q2 I f=>pow_int_small (x9 n) (by omega) (by omega) (f.val I (.i (.int _ _)))
theorem ok_shl:i2 c .LShift Jl:=Ve fun j j j j j n j j j j q1 q2 I f=>lshift_int_small (x9 n) (by omega) (by omega) (f.val I (.i (.int _ _)))
theorem ok_shr:i2 c .RShift TG:=fun j j j j j j j j j j I ru rv f=>f.int ru (fun j j f=>f.nat rv (fun n j f=>f.gd fun j f=>rshift_int (x9 n) (f.val I (.i (.int _ _)))) Fin.bad) Fin.bad
theorem NK (a b:Nat):Builtin.bitAnd (Int.ofNat a) (Int.ofNat b)=Int.ofNat (Nat.land a b):=by
 unfold Builtin.bitAnd
 rw [jn (show (0:Int)<=Int.ofNat a from x9 a),jn (show (0:Int)<=Int.ofNat b from x9 b)]
 rfl
theorem aaW:i2 c .BitAnd OK:=fun j j j j j j j j j j I ru rv f=>f.nat ru (fun a j f=>f.nat rv (fun b j f=>and_int (NK a b▸f.val I (.i (.int _ _)))) Fin.bad) Fin.bad
theorem XI {e1 e2:PySem.Expr} {op:Operator} {f:V->V->ai->RE V} {a b:Ex} (hop:i2 c op f) (ha:aK c e1 a) (hb:aK c e2 b):aK c (.BinOp e1 op e2 pos) (af f a b):=fun j j j j j j I f=>
 wpAny_BinOp (ha _ _ _ _ _ _ I (f.bind fun j j j j j j I₁ ru f=>hb _ _ _ _ _ _ I₁ (f.bind fun j j j j j st₂ I₂ rv f=>hop _ _ _ _ _ _ _ _ _ _ I₂ (ru.step st₂.pre (I₁.tk st₂)) rv f)))
theorem LF (ha:aK c e a):aK c (.UnaryOp .USub e pos) (un ey a):=fun j j j j j j I f=>
 UnaryOp_ (ha _ _ _ _ _ _ I (f.bind fun j j j j j j I₁ ru f=>f.int ru (fun j j f=>neg_int (f.val I₁ (.i (.int _ _)))) Fin.bad))
theorem Tk {k:Nat}:aK c (.Constant .none k pos) (aN .none):=fun j j j j j j I f=>Constant_none (f.here I (.i .none))
theorem Ra {b:Bool} {k:Nat}:aK c (.Constant (.bool b) k pos) (aN (.bool b)):=fun j j j j j j I f=>Constant_bool (f.here I (.i (.bool b)))
theorem LQ {i:Int} {k:Nat}:aK c (.Constant (.int i) k pos) (aN (.int i)):=fun j j j j j j I f=>D2 (f.val I (.i (.int i _)))
theorem Xp {x:T} {k:Nat} (q:dH x):aK c (.Constant (.str (aD x)) k pos) (aN (.str x)):=fun j j j j j j I f=>wpAny_Constant_str (f.val I (.i (.str x _ q)))
def okT (x:T):Bool:=Nat.ble x.length aJ && x.all fun c=>Nat.blt c 128
theorem YU {x:T} (h:okT x=true):dH x:=⟨aI (cp.mp h).1,fun c m=>aI (List.all_eq_true.mp (cp.mp h).2 c m)⟩
theorem So {x:Str} {y:Value} {Q:Value->Shared->Prop} {E:Value->Shared->Prop} (hk:c.env.scope.kind= .function) (v:C9 c.env s.heap x y) (hc:(x==("__classdict__" :Str))=false) (q:Q y s):c.wp (loadName c.env x) Q E s:=by
 rcases v with ⟨k,m,n,e⟩ |⟨cl,k |k,lk,ic⟩
 ·exact HG hk k n e q
 ·exact wpAny_loadName_cell hk k lk ic q
 ·exact wpAny_loadName_free hk k lk ic q hc
theorem AK {Q:Value->Shared->Prop} {E:Value->Shared->Prop} {x:Str} {n:Nat} (I:ay c φ l σ s.heap) (q:c.ρ.lookup x=some n) (hc:(x==("__classdict__" :Str))=false) (f:bJ c φ l s (aa n l σ) Q E):c.wp (loadName c.env x) Q E s:=by
 unfold aa at f
 cases z:bN l n with
 |none=>rw [z] at f;exact f.bad
 |some v=>
  rw [z] at f
  obtain ⟨y,a,b⟩:=I.vars x n v q z
  exact So I.st.kind a hc (f.here I b)
theorem Ma {x:Str} {n:Nat} (q:c.ρ.lookup x=some n) (hd:(x==("__debug__" :Str))=false) (hc:(x==("__classdict__" :Str))=false):aK c (.Name x pos) (aa n):=fun j j j j j j I f=>wpAny_Name (AK I q hc f) hd
end
end
section
def JM (f:List I->PyData):I->PyData
 | .none=> .none
 | .bool b=> .bool b
 | .int i=> .int i
 | .str s=> .str (aD s)
 | .tup xs=>f xs
 |_=> .none
def py:Nat->I->PyData
 |0=>JM fun j=> .none
 |n+1=>JM fun xs=> .tuple (xs.map (py n))
def yK (h:Heap) (m:Nat) (d:PyData) (v:Value):Prop:=(∃ as,Reads h v d as)/\d.canLay0=true/\d.depth<=m
section
variable {D:fj} {h:Heap}
theorem MP {fo:List I->Bool} {fp:List I->PyData} {m:Nat} (hf:∀ {a vs xs},IsTup h a vs.toArray->IReps D h xs vs->fo xs=true->yK h m (fp xs) (.ref a)) {x:I} {v:Value} (q:LP fo x=true) (r:aX D h x v):yK h m (JM fp x) v:=by
 cases r with
 |none=>exact ⟨⟨_,.none⟩,rfl,dI _⟩
 |bool b=>exact ⟨⟨_,.bool b⟩,rfl,dI _⟩
 |int i t=>exact ⟨⟨_,.int i t⟩,rfl,dI _⟩
 |str s t z=>exact ⟨⟨_,.str _ t⟩,Array.all_eq_true_iff_forall_mem.mpr fun c hc=>jn (Nat.lt_trans (z.2 c (List.mem_toArray.mp hc)) (by decide)),dI _⟩
 |tup ht _ rs=>exact hf ht rs q
 |_=>cases q
theorem FX {m:Nat} {fo:I->Bool} {fp:I->PyData} (hf:∀ {x v},fo x=true->aX D h x v->yK h m (fp x) v) {xs:List I} {vs:List Value} (r:IReps D h xs vs):xs.all fo=true->(∃ as,ReadsAll h vs (xs.map fp) as)/\PyData.canLayAll0 (xs.map fp)=true/\PyData.depthAll (xs.map fp)<=m:=
 r.ind (P:=fun xs vs=>xs.all fo=true->(∃ as,ReadsAll h vs (xs.map fp) as)/\PyData.canLayAll0 (xs.map fp)=true/\PyData.depthAll (xs.map fp)<=m) (fun j=>⟨⟨_,.nil⟩,rfl,dI _⟩) fun a j ih q=>by
  rw [List.all_cons,Bool.and_eq_true] at q
  obtain ⟨⟨as,a1⟩,a2,a3⟩:=hf q.1 a
  obtain ⟨⟨bs,b1⟩,b2,b3⟩:=ih q.2
  exact ⟨⟨_,.cons a1 b1⟩,by rw [im,PyData.canLayAll0,a2,b2];rfl,by rw [im,PyData.depthAll];exact Nat.max_le.mpr ⟨a3,b3⟩⟩
theorem iF (n:Nat):∀ {x:I} {v:Value},bS n x=true->aX D h x v->yK h n (py n x) v:=by
 induction n with
 |zero=>exact fun q r=>MP (fo:=fun j=>false) (fp:=fun j=> .none) (fun j j e=>(nomatch e)) q r
 |succ n ih=>exact fun q r=>MP (fo:=fun xs=>xs.all (bS n)) (fp:=fun xs=> .tuple (xs.map (py n))) (fun ⟨o,ho,hc,k,hd⟩ rs q=>by
   obtain ⟨⟨as,b1⟩,b2,b3⟩:=FX ih rs q
   exact ⟨⟨_,.tuple ho hc hd b1⟩,by rw [PyData.canLay0];exact b2,by rw [PyData.depth];exact gu b3⟩) q r
theorem yK.shaped {m:Nat} {d:PyData} {v:Value} (r:yK h m d v) (q:m<=64):SeqAt.shaped d=true:=by
 unfold SeqAt.shaped;rw [r.2.1,Bool.true_and];exact jn (ba r.2.2 q)
theorem Ty {x y:Nat} {s t:T}:bU (x::s) (y::t)=(match Nat.beq x y with |true=>bU s t |false=>false):=rfl
theorem h9 {a b:T}:bU a b=true↔a=b:=by
 induction a generalizing b with
 |nil=>cases b with
  |nil=>exact ⟨fun j=>rfl,fun j=>rfl⟩
  |cons=>exact ⟨nofun,nofun⟩
 |cons x s ih=>cases b with
  |nil=>exact ⟨nofun,nofun⟩
  |cons y t=>
   rw [Ty]
   cases q:Nat.beq x y with
   |true=>exact ih.trans ⟨fun e=>by rw [e,kj q],fun e=>(iH e).2⟩
   |false=>exact ⟨nofun,fun e=>absurd (iH e).1 (HR q)⟩
theorem pP {a b:T} (e:aD a=aD b):a=b:=aM (·.cps.toList) e
theorem CT {a b:T} (e:¬ a=b):bU a b=false:=Ct.mpr fun z=>e (h9.mp z)
theorem E4 (a b:T):bU a b=(aD a==aD b):=by
 by_cases q:a=b
 ·rw [h9.mpr q,q];exact (ES _).symm
 ·rw [CT q];exact (wu.mpr fun z=>q (pP z)).symm
theorem Qv {f:List I->List I->Option Bool} {p:List I->PyData} {g:List I->Bool} (ha:∀ {xs},g xs=true->∃ ys,p xs= .tuple ys) (hf:∀ {xs ys r},g xs=true->g ys=true->f xs ys=some r->PyData.eqv (p xs) (p ys)=r) {a b:I} {r:Bool} (qa:LP g a=true) (qb:LP g b=true):Uo f a b=some r->PyData.eqv (JM p a) (JM p b)=r:=by
 cases a with
 |none=>cases b with
  |none=>exact bO
  |int=>exact bO
  |str=>exact bO
  |tup ys=>obtain ⟨zs,e⟩:=ha qb;show _->PyData.eqv _ (p ys)=r;rw [e];exact bO
  |_=>exact nofun
 |bool x=>cases b with
  |bool y=>exact fun e=>by cases e;cases x<;>cases y<;>rfl
  |_=>exact nofun
 |int x=>cases b with
  |int y=>exact fun e=>by cases e;rw [show (JM p (.int x)).eqv (JM p (.int y))=(x==y) from rfl];exact (Bool.beq_eq_decide_eq x y)
  |none=>exact bO
  |str=>exact bO
  |tup ys=>obtain ⟨zs,e⟩:=ha qb;show _->PyData.eqv _ (p ys)=r;rw [e];exact bO
  |_=>exact nofun
 |str x=>cases b with
  |str y=>exact fun e=>(E4 x y).symm.trans (bO e)
  |none=>exact bO
  |int=>exact bO
  |tup ys=>obtain ⟨zs,e⟩:=ha qb;show _->PyData.eqv _ (p ys)=r;rw [e];exact bO
  |_=>exact nofun
 |tup xs=>cases b with
  |tup ys=>exact hf qa qb
  |none=>obtain ⟨zs,e⟩:=ha qa;show _->PyData.eqv (p xs) _=r;rw [e];exact bO
  |int=>obtain ⟨zs,e⟩:=ha qa;show _->PyData.eqv (p xs) _=r;rw [e];exact bO
  |str=>obtain ⟨zs,e⟩:=ha qa;show _->PyData.eqv (p xs) _=r;rw [e];exact bO
  |_=>exact nofun
 |_=>exact nofun
theorem Tj {f:I->I->Option Bool} {x y:I} {s t:List I}:AR f (x::s) (y::t)=(match f x y with |some true=>AR f s t |some false=>some false |Option.none=>Option.none):=rfl
theorem Qp {f:I->I->Option Bool} {p:I->PyData} {o:I->Bool} (hf:∀ {a b r},o a=true->o b=true->f a b=some r->PyData.eqv (p a) (p b)=r):∀ {xs ys:List I} {r:Bool},xs.all o=true->ys.all o=true->AR f xs ys=some r->PyData.eqvAll (xs.map p) (ys.map p)=r:=by
 intro xs
 induction xs with
 |nil=>intro ys r _ _ e;cases ys<;>exact bO e
 |cons x xs ih=>
  intro ys r q1 q2 e
  cases ys with
  |nil=>exact bO e
  |cons y ys=>
   rw [List.all_cons,Bool.and_eq_true] at q1 q2
   rw [im,im,PyData.eqvAll]
   rw [Tj] at e
   cases z:f x y with
   |none=>rw [z] at e;cases e
   |some b=>
    rw [z] at e
    rw [hf q1.1 q2.1 z]
    cases b with
    |true=>exact ih q1.2 q2.2 e
    |false=>exact bO e
theorem QG (n:Nat):∀ {a b:I} {r:Bool},bS n a=true->bS n b=true->uS n a b=some r->PyData.eqv (py n a) (py n b)=r:=by
 induction n with
 |zero=>exact fun qa qb=>Qv (f:=fun j j=>none) (p:=fun j=> .none) (g:=fun j=>false) (fun e=>(nomatch e)) (fun e=>(nomatch e)) qa qb
 |succ n ih=>exact fun qa qb=>Qv (f:=AR (uS n)) (p:=fun xs=> .tuple (xs.map (py n))) (g:=fun xs=>xs.all (bS n)) (fun j=>⟨_,rfl⟩) (fun q1 q2 e=>by rw [PyData.eqv];exact Qp ih q1 q2 e) qa qb
end
section
variable {α γ:Type} {R:a9->Heap->α->γ->Prop} {c:aS} {φ φ₁:a9} {l:av} {σ σ₁:ai} {s s₁ s':Shared} {u v:V} {x y:Value} {e e1 e2 e3:PySem.Expr} {a b d:Ex} {t t':Tx} {pos:Pos} {op op':PySem.CmpOp} {f g:V->V->ai->RE Bool} {QB:Bool->Shared->Prop} {Q E:Value->Shared->Prop} {r:RE Bool} {P:Prop}
theorem Fin.mono {r:RE α} {Q Q':γ->Shared->Prop} (f:Fin R c φ l s r Q E) (h:∀ y s',Q y s'->Q' y s'):Fin R c φ l s r Q' E:=by
 cases r with
 |bad=>exact f
 |ok=>exact fun j y s' a b k=>h y s' (f _ y s' a b k)
 |exc=>exact f
theorem Fin.eq3 {p q:Bool} {r:Option Bool} (f:gz c φ l s (eq3 σ p q r) QB E) (k:p=true->q=true->∀ b,r=some b->gz c φ l s (.ok b σ) QB E->P):P:=by
 cases p with
 |false=>cases q<;>exact f.bad
 |true=>cases q with
  |false=>exact f.bad
  |true=>cases r with
   |none=>exact f.bad
   |some b=>exact k rfl rfl b rfl f
theorem Nr {xs:List I}:∀ {ss:List T},nF xs=some ss->xs=ss.map .str:=by
 induction xs with
 |nil=>exact fun e=>by cases e;rfl
 |cons x xs ih=>
  intro ss e
  cases x with
  |str a=>
   have e:(match nF xs with |some ss=>some (a::ss) |none=>none)=some ss:=e
   cases q:nF xs with
   |none=>rw [q] at e;cases e
   |some zs=>rw [q] at e;cases e;rw [im,ih q]
  |_=>cases e
theorem Mw {β:Type} {F:β->Prop} {k:List T->β} {n:β} {xs:List I} (f:F (jI k n xs)) (h1:∀ ss,xs=ss.map .str->F (k ss)->P) (h2:F n->P):P:=by
 unfold jI at f
 cases q:nF xs with
 |none=>exact h2 (q▸f:)
 |some ss=>exact h1 ss (Nr q) (q▸f:)
theorem Fin.strs {k:List T->RE α} {Q:γ->Shared->Prop} {xs:List I} (f:Fin R c φ l s (jI k .bad xs) Q E) (h1:∀ ss,xs=ss.map .str->Fin R c φ l s (k ss) Q E->P):P:=Mw (F:=gQ R c φ l s Q E) f h1 Fin.bad
theorem Fin.yes {b b':Bool} (f:gz c φ l s (.ok b σ) (fun b s'=>Q (.bool b) s') E) (I:ay c φ l σ s.heap) (e:b=b'):Q (.bool b') s:=e▸f φ b s aL.refl I rfl
def iq (c:aS) (op:PySem.CmpOp) (f:V->V->ai->RE Bool):Prop:=∀ φ l σ s u v x y Q E,ay c φ l σ s.heap->aB c.g.D φ s.heap u x->aB c.g.D φ s.heap v y->gz c φ l s (f u v σ) (fun b s'=>Q (.bool b) s') E->c.wp (compareOp op x y) Q E s
def CU (s:Shared) (x y:Value) (Q:Bool->Shared->Prop):Prop:=∃ da db as bs,Reads s.heap x da as/\Reads s.heap y db bs/\SeqAt.shaped da=true/\SeqAt.shaped db=true/\Q (PyData.eqv da db) s
theorem yK.eq {m m':Nat} {da db:PyData} (a:yK s.heap m da x) (b:yK s.heap m' db y) (ha:m<=64) (hb:m'<=64) {z:Bool} (e:PyData.eqv da db=z) (q:QB z s):CU s x y QB:=let ⟨as,a1⟩:=a.1;let ⟨bs,b1⟩:=b.1;⟨da,db,as,bs,a1,b1,a.shaped ha,b.shaped hb,e▸q⟩
theorem Ms.rd {m:Nat} {xs:List I} {a:Addr} (A:Ms c φ σ s.heap m xs a) (q:xs.all (bS 12)=true):yK s.heap 13 (.list (xs.map (py 12))) (.ref a):=
 let ⟨_,_,ho,r⟩:=A.ob
 let ⟨⟨_,b1⟩,b2,b3⟩:=FX (iF 12) r q
 ⟨⟨_,reads_list_at ho rfl rfl b1⟩,by rw [PyData.canLay0];exact b2,by rw [PyData.depth];exact gu b3⟩
theorem J6 (I:ay c φ l σ s.heap) (ru:aB c.g.D φ s.heap u x) (rv:aB c.g.D φ s.heap v y) (f:gz c φ l s (az u v σ) QB E):CU s x y QB:=by
 have one:∀ {a b:Mine.I} {x y:Value} {z:Bool},aX c.g.D s.heap a x->aX c.g.D s.heap b y->bS 12 a=true->bS 12 b=true->uS 12 a b=some z->gz c φ l s (.ok z σ) QB E->CU s x y QB:=fun ra rb qa qb e f=>
  (iF 12 qa ra).eq (iF 12 qb rb) (by decide) (by decide) (QG 12 qa qb e) (f.here I rfl)
 have tup:∀ {xs:List Mine.I} {a vs},IsTup s.heap a vs.toArray->xs.length<=aJ->IReps c.g.D s.heap xs vs->xs.all (bS 12)=true->yK s.heap 13 (.tuple (xs.map (py 12))) (.ref a):=fun a1 a2 a3 q=>iF 13 (x:= .tup _) q (.tup a1 a2 a3)
 have gen:∀ {x y},aB c.g.D φ s.heap u x->aB c.g.D φ s.heap v y->gz c φ l s (MB u v σ) QB E->CU s x y QB:=fun ru rv f=>wy (F:=gQ BR c φ l s QB E) f ru (fun i ri f=>wy (F:=gQ BR c φ l s QB E) f rv (fun j rj f=>f.eq3 fun q1 q2 b e f=>one ri rj q1 q2 e f) fun f=>
   f.tup ru (fun xs a vs a1 a2 a3 f=>f.list I rv (fun m ys b B f=>f.gd fun q f=>(tup a1 a2 a3 (cp.mp q).1).eq (B.rd (cp.mp q).2) (by decide) (by decide) rfl (f.here I rfl)) Fin.bad) Fin.bad) fun f=>
  f.list I ru (fun m xs a A f=>f.list I rv (fun w ys b B f=>f.eq3 fun q1 q2 z e f=>(A.rd q1).eq (B.rd q2) (by decide) (by decide) (by rw [PyData.eqv];exact Qp (QG 12) q1 q2 e) (f.here I rfl)) fun f=>
   f.tup rv (fun ys b vs a1 a2 a3 f=>f.gd fun q f=>(A.rd (cp.mp q).1).eq (tup a1 a2 a3 (cp.mp q).2) (by decide) (by decide) rfl (f.here I rfl)) Fin.bad) Fin.bad
 have two:∀ {x y},aB c.g.D φ s.heap u x->aB c.g.D φ s.heap v y->gz c φ l s (cG (fun a=>cG (fun b=> .ok (decide (a=b)) σ) (MB u v σ) v) (MB u v σ) u) QB E->CU s x y QB:=fun {x y} ru rv f=>
  (f.int ru (fun a t f ru=>(f.int rv (fun b t' f rv=>one (.int a t) (.int b t') rfl rfl rfl f) (fun f rv=>gen ru rv f):aB c.g.D φ s.heap v y->CU s _ y QB) rv) (fun f ru=>gen ru rv f):aB c.g.D φ s.heap u x->CU s x y QB) ru
 exact (f.str ru (fun a t qa f ru=>(f.str rv (fun b t' qb f rv=>one (.str a t qa) (.str b t' qb) rfl rfl rfl f) (fun f rv=>gen ru rv f):aB c.g.D φ s.heap v y->CU s _ y QB) rv) (fun f ru=>two ru rv f):aB c.g.D φ s.heap u x->CU s x y QB) ru
theorem op_eq:iq c .Eq az:=fun j j j j j j j j j j I ru rv f=>by
 obtain ⟨_,_,_,_,h1,h2,h3,h4,q⟩:=J6 I ru rv f
 exact eq_dataH h1 h2 h3 h4 (by have:=I.st.units;omega) q
theorem Fin.notB (f:gz c φ l s (notB r) QB E):gz c φ l s r (fun b s'=>QB (!b) s') E:=f.bind fun b j j j j j I₁ e f=>e▸by cases b<;>exact f.here I₁ rfl
theorem op_ne:iq c .NotEq cM:=fun j j j j j j j j j j I ru rv f=>by
 obtain ⟨_,_,_,_,h1,h2,h3,h4,q⟩:=J6 I ru rv f.notB
 exact ne_dataH h1 h2 h3 h4 (by have:=I.st.units;omega) q
theorem Kt {g:Int->Int->Bool} (k:∀ {s:Shared} {a b t t'} {Q E:Value->Shared->Prop},Q (.bool (g a b)) s->c.wp (compareOp op (.int a t) (.int b t')) Q E s):iq c op (fun u v σ=>VZ g u v σ):=
 fun j j j j j j j j j j I ru rv f=>f.int ru (fun j j f=>f.int rv (fun j j f=>k (f.here I rfl)) Fin.bad) Fin.bad
theorem op_lt:iq c .Lt fz:=Kt PyProof.Rows.lt_int
theorem op_gt:iq c .Gt gA:=Kt PyProof.Rows.gt_int
theorem op_ge:iq c .GtE MQ:=Kt PyProof.Rows.ge_int
theorem Xl {a b:T}:V8 a b=!decide (b< a):=by
 induction a generalizing b with
 |nil=>exact (by rw [tq (List.not_lt_nil _)];rfl)
 |cons x s ih=>cases b with
  |nil=>exact (by rw [jn (List.nil_lt_cons _ _)];rfl)
  |cons y t=>
   unfold V8
   rw [show decide (y::t< x::s)=decide (y< x\/y=x/\t< s) from decide_eq_decide.mpr List.cons_lt_cons_iff]
   cases q:Nat.beq x y with
   |true=>
    rw [kj q]
    exact ih.trans (aM (!·) (decide_eq_decide.mpr ⟨fun h=> .inr ⟨rfl,h⟩,fun h=>h.elim (fun h=>absurd h (A8 _)) And.right⟩))
   |false=>
    have ne:=HR q
    cases z:Nat.blt x y with
    |true=>rw [tq fun h=>h.elim (Nat.lt_asymm (eW z)) fun h=>ne h.1.symm];rfl
    |false=>rw [jn (.inl (Nat.lt_of_le_of_ne (Nat.le_of_not_lt fun h=>nomatch z.symm.trans (gp h)) (gi ne)))];rfl
theorem op_le:iq c .LtE MC:=fun j j j j j j j j j j I ru rv f=>f.int ru (fun j j f=>f.int rv (fun j j f=>PyProof.Rows.le_int (f.here I rfl)) Fin.bad) fun f=>
 f.str ru (fun j j j f=>f.str rv (fun j j j f=>PySem.P.le_str (f.here I Xl)) Fin.bad) Fin.bad
def Du (c:aS) (op:PySem.CmpOp) (g:V->ai->RE Bool):Prop:=∀ φ l σ s u x Q E,ay c φ l σ s.heap->aB c.g.D φ s.heap u x->gz c φ l s (g u σ) (fun b s'=>Q (.bool b) s') E->c.wp (compareOp op x .none) Q E s
theorem Gz:Du c .Is Ae:=fun j j j j j j j j I ru f=>is_none (by
 cases ru with
 |i ru=>cases ru with
  |dig=>exact f.bad
  |_=>exact f.here I rfl
 |_=>exact f.here I rfl)
theorem TO (h:c.wp (compareOp .Is x y) Q E s):c.wp (compareOp .IsNot x y) (fun r s'=>∃ q,r= .bool (!q)/\Q (.bool q) s') E s:=by
 intro Γ p hΓ
 have:=h Γ p hΓ
 unfold compareOp at this ⊢
 simp only [Sem.wp_bind'] at this ⊢
 exact Sem.wp_mono _ _ _ (fun r p' s' q=>⟨r,rfl,q⟩) (fun j j j q=>q) p s this
theorem Fy (h:c.wp (compareOp .In x y) Q E s):c.wp (compareOp .NotIn x y) (fun r s'=>∃ q,r= .bool (!q)/\Q (.bool q) s') E s:=by
 intro Γ p hΓ
 have:=h Γ p hΓ
 unfold compareOp at this ⊢
 simp only [Sem.wp_bind'] at this ⊢
 exact Sem.wp_mono _ _ _ (fun r p' s' q=>⟨r,rfl,q⟩) (fun j j j q=>q) p s this
def NB (Q:Value->Shared->Prop) (y:Value) (s:Shared):Prop:=∀ b,y= .bool b->Q (.bool (!b)) s
theorem NB.of {b:Bool} (q:Q (.bool (!b)) s):NB Q (.bool b) s:=fun j e=>by cases e;exact q
theorem JA:Du c .IsNot (fun u σ=>notB (Ae u σ)):=fun j j j j j j j j I ru f=>
 cQ (TO (Gz _ _ _ _ _ _ _ _ I ru (f.notB.mono fun j j=>NB.of))) (fun _ _ ⟨_,e,h⟩=>e▸h _ rfl) fun j j q=>q
theorem sx {c:Nat} {s:T}:∀ {n:Nat},oh c s n=none↔c∉s:=by
 induction s with
 |nil=>exact ⟨fun j=>fK,fun j=>rfl⟩
 |cons d s ih=>
  intro n
  unfold oh
  cases q:Nat.beq d c with
  |true=>exact ⟨nofun,fun h=>absurd (.head _) (kj q▸h)⟩
  |false=>exact (ih (n:=n+1)).trans ⟨fun h m=>by cases m with |head=>exact HR q rfl |tail _ m=>exact h m,fun h m=>h (.tail _ m)⟩
theorem Xh (c:Nat) (s:T):mw c s=decide (c∈s):=by
 unfold mw
 cases q:oh c s 0 with
 |none=>exact (tq (sx.mp q)).symm
 |some k=>exact (jn (OW fun n=>nomatch q.symm.trans (sx.mpr n))).symm
theorem MN (n:Nat) (ss:List T):(ss.map I.str).all (bS n)=true:=Em.mpr fun x h=>by
 obtain ⟨a,_,rfl⟩:=cZ.mp h
 cases n<;>rfl
theorem LG (n:Nat) (s:T) (ss:List T):((ss.map Mine.I.str).map (py n)).any (fun y=>PyData.eqv y (.str (aD s)))=ss.any fun a=>bU a s:=by
 induction ss with
 |nil=>rfl
 |cons a r ih=>rw [im,im,List.any_cons,List.any_cons,ih,E4];cases n<;>rfl
theorem PO {k z:T} {v:I} {r:List (I×I)}:fQ ((.str k,v)::r) (.str z)=(match bU k z with |true=>some v |false=>fQ r (.str z)):=rfl
theorem Qo {k z:List I} {v:I} {r:List (I×I)}:fQ ((.tup k,v)::r) (.tup z)=(match nJ k z with |true=>some v |false=>fQ r (.tup z)):=rfl
theorem T8 {k z:T} {v y:I} {r:List (I×I)}:iP ((.str k,v)::r) (.str z) y=(match bU k z with |true=>(.str k,y)::r |false=>(.str k,v)::iP r (.str z) y):=rfl
theorem SQ {k z:List I} {v y:I} {r:List (I×I)}:iP ((.tup k,v)::r) (.tup z) y=(match nJ k z with |true=>(.tup k,y)::r |false=>(.tup k,v)::iP r (.tup z) y):=rfl
theorem cW.find {D:fj} {h:Heap} {z:T} {kvs:List (Mine.I×Mine.I)} {es:List (Str×Value)} (r:cW D h kvs es):(∃ x y,fQ kvs (.str z)=some x/\valueAt es (aD z)=some y/\aX D h x y)\/(fQ kvs (.str z)=none/\valueAt es (aD z)=none):=by
 induction r with
 |nil=>exact .inr ⟨rfl,rfl⟩
 |@cons k v y kvs es q r _ ih=>
  rw [PO]
  simp only [valueAt,List.find?_cons]
  by_cases e:k=z
  ·rw [h9.mpr e,jn (aM aD e)];exact .inl ⟨v,y,rfl,rfl,r⟩
  ·rw [CT e,tq fun h=>e (pP h)];exact ih
theorem cW.has {D:fj} {h:Heap} {z:T} {kvs:List (Mine.I×Mine.I)} {es:List (Str×Value)} (r:cW D h kvs es):(valueAt es (aD z)).isSome=yw kvs (.str z):=by
 unfold yw
 rcases r.find (z:=z) with ⟨_,_,a,b,_⟩ |⟨a,b⟩<;>rw [a,b]<;>rfl
theorem Lh {x y:T} {s t:List I}:nJ (.str x::s) (.str y::t)=(match bU x y with |true=>nJ s t |false=>false):=rfl
theorem vM {a b:List T}:nJ (a.map .str) (b.map .str)=true↔a=b:=by
 induction a generalizing b with
 |nil=>cases b with
  |nil=>exact ⟨fun j=>rfl,fun j=>rfl⟩
  |cons=>exact ⟨nofun,nofun⟩
 |cons x s ih=>cases b with
  |nil=>exact ⟨nofun,nofun⟩
  |cons y t=>
   rw [im,im]
   rw [Lh]
   cases q:bU x y with
   |true=>exact ih.trans ⟨fun e=>by rw [e,h9.mp q],fun e=>(iH e).2⟩
   |false=>exact ⟨nofun,fun e=>nomatch q.symm.trans (h9.mpr (iH e).1)⟩
theorem GW {a b:List T} (e:¬ a=b):nJ (a.map .str) (b.map .str)=false:=Ct.mpr fun z=>e (vM.mp z)
theorem IM {a b:List T} (h:a.map aD=b.map aD):a=b:=(List.map_inj_right fun j j=>pP).mp h
theorem gk.find {D:fj} {h:Heap} {ss:List T} {kn:List (I×I)} {es:List (List Str×Addr×Value)} (r:gk D h kn es):(∃ x p,fQ kn (.tup (ss.map .str))=some x/\atKey es (ss.map aD)=some p/\aX D h x p.2)\/(fQ kn (.tup (ss.map .str))=none/\atKey es (ss.map aD)=none):=by
 induction r with
 |nil=>exact .inr ⟨rfl,rfl⟩
 |@cons k v a y kvs es r _ ih=>
  rw [Qo]
  simp only [atKey,List.find?_cons]
  by_cases e:k=ss
  ·rw [vM.mpr e,jn (aM (·.map aD) e)];exact .inl ⟨v,_,rfl,rfl,r⟩
  ·rw [GW e,tq fun h=>e (IM h)];exact ih
theorem gk.has {D:fj} {h:Heap} {ss:List T} {kn:List (I×I)} {es:List (List Str×Addr×Value)} (r:gk D h kn es):(atKey es (ss.map aD)).isSome=yw kn (.tup (ss.map .str)):=by
 unfold yw
 rcases r.find (ss:=ss) with ⟨_,_,a,b,_⟩ |⟨a,b⟩<;>rw [a,b]<;>rfl
theorem Pt {g:G} {h:Heap} {ss:List T}:∀ {vs:List Value},IReps g.D h (ss.map .str) vs->ItemsAre (strKind g.p g.w) (ss.map aD) vs:=by
 induction ss with
 |nil=>exact fun r=>r.nilE .nil
 |cons s ss ih=>exact fun r=>r.consE fun v vs a b=>a.strE fun t j=> .cons (strKind_is g.p g.w _ t) (ih b)
theorem Kv {g:G} {h:Heap} {ss:List T} {a:Addr} {vs:List Value} (ht:IsTup h a vs.toArray) (r:IReps g.D h (ss.map .str) vs):(tupleKind (strKind g.p g.w)).is h (ss.map aD) a:=
 let ⟨o,ho,hc,n,hd⟩:=ht;⟨o,vs.toArray,n,ho,hc,hd,Pt r⟩
theorem ay.ne1 (W:Wr c.g c.base) (I:ay c φ l σ s.heap) {b:Addr} (m:b∈own φ):(b==sysModules)=false:=
 wu.mpr fun e=>eT (P:=fun j=>True) (I.off b m).base (let ⟨o,z⟩:=W.one;⟨o,e▸z,trivial⟩)
theorem L6.ne1 (W:Wr c.g c.base) (I:ay c φ l σ s.heap) {m:Nat} {kvs:List (Mine.I×Mine.I)} {a:Addr} (A:L6 c φ σ s.heap m kvs a):(a==sysModules)=false:=I.ne1 W (hZ A.q (.head _))
structure L8 (c:aS) (h:Heap) (a:Addr) (kvs:List (Mine.I×Mine.I)):Prop where
 ne:(a==sysModules)=false
 ob:∃ es,h.DictOf (strKind c.g.p c.g.w) a es/\cW c.g.D h kvs es
theorem L6.dic (W:Wr c.g c.base) (I:ay c φ l σ s.heap) {m:Nat} {kvs:List (Mine.I×Mine.I)} {a:Addr} (A:L6 c φ σ s.heap m kvs a):L8 c s.heap a kvs:=⟨A.ne1 W I,A.ob⟩
theorem Wr.dic (W:Wr c.g c.base) (st:c.base.StaysIn s.heap) {n:Nat} (h:n< 7):L8 c s.heap (c.g.D.fd n) (FD n):=
 ⟨wu.mpr (W.fdn n h),let ⟨es,a,b⟩:=W.fd n h;⟨es,a.keep st,b.keep fun _ _ ⟨o,ho,r⟩=>⟨o,st _ _ ho,r⟩⟩⟩
theorem VI (W:Wr c.g c.base):iq c .In cJ:=fun φ l σ s u v x y Q E I ru rv f=>by
 have un:c.A.in1.units< cLine:=by have:=I.st.units;show c.A.units+1< cLine;omega
 have dic:∀ {a t z kvs},L8 c s.heap a kvs->gz c φ l s (.ok (yw kvs (.str z)) σ) (fun b s'=>Q (.bool b) s') E->c.wp (compareOp .In (.str (aD z) t) (.ref a)) Q E s:=fun {a t z kvs} A f=>by
  obtain ⟨es,hm,he⟩:=A.ob
  exact wpAny_in_of (knd:=strKind c.g.p c.g.w) (strKind_is _ _ _ t) A.ne hm.mapOf (he.has▸f.val I rfl)
 refine f.str ru (fun a t qa f=>f.str rv (fun b t' qb f=>?g1) fun f=>f.tup rv (fun xs b vs a1 a2 a3 f=>?g2) fun f=>f.fd rv (fun n hn f=>dic (W.dic I.stay hn) f) fun f=>f.list I rv (fun m xs b B f=>?g3) fun f=>
  f.dict I rv (fun m kvs b B f=>dic (B.dic W I) f) Fin.bad) fun f=>f.tup ru (fun xs a vs a1 a2 a3 f=>f.strs fun ss e f=>?g4) Fin.bad
 case g1=>
  match a,qa,f with
  |[],_,f=>exact f.bad
  |[k],_,f=>
   refine PyProof.Rows.in_str ?_
   rw [show (aD [k]:Str)=⟨#[k]⟩ from rfl,PySem.StrLaws.found_one]
   exact f.here I (Xh k b)
  |_::_::_,_,f=>exact f.bad
 case g2=>
  refine f.strs fun ss e f'=>?_
  subst e
  obtain ⟨⟨as,b1⟩,b2,b3⟩:=iF 1 (x:= .tup _) (MN 0 ss) (.tup a1 a2 a3)
  obtain ⟨⟨bs,d1⟩,d2,d3⟩:=iF 0 (x:= .str a) rfl (.str (D:=c.g.D) (h:=s.heap) a t qa)
  refine PySem.SeqAt.in_tuple_reads b1 d1 b2 d2 (eM (f7 (ba (Nat.min_le_right _ _) d3) _) un) ?_
  exact f'.yes I (LG 0 a ss).symm
 case g3=>
  refine f.strs fun ss e f'=>?_
  subst e
  obtain ⟨vs,k,ho,r⟩:=B.ob
  obtain ⟨⟨as,b1⟩,b2,b3⟩:=FX (iF 0) r (MN 0 ss)
  obtain ⟨⟨bs,d1⟩,d2,d3⟩:=iF 0 (x:= .str a) rfl (.str (D:=c.g.D) (h:=s.heap) a t qa)
  refine PySem.SeqAt.in_list_reads (reads_list_at ho rfl rfl b1) d1 b2 d2 (eM (f7 (ba (Nat.min_le_right _ _) d3) _) un) ?_
  exact f'.yes I (LG 0 a ss).symm
 case g4=>
  subst e
  refine f.sub I rv (fun m pre rest kn fam tab a' dx tok kno tg tgd q R f=>?_) Fin.bad
  obtain ⟨es,hd,hk,_⟩:=R.known
  exact wpAny_in_heap (knd:=tupleKind (strKind c.g.p c.g.w)) un (Kv a1 a3) (I.ne1 W (hZ q (.tail _ (.tail _ (.tail _ (.head _)))))) hd (hk.has▸f.val I rfl)
theorem Rv (W:Wr c.g c.base):iq c .NotIn gn:=fun j j j j j j j j j j I ru rv f=>
 cQ (Fy (VI W _ _ _ _ _ _ _ _ _ _ I ru rv (f.notB.mono fun j j=>NB.of))) (fun _ _ ⟨_,e,h⟩=>e▸h _ rfl) fun j j q=>q
end
end
section
def jo (c:aS) (e:PySem.Expr) (t:Tx):Prop:=∀ φ l σ s Q E,ay c φ l σ s.heap->gz c φ l s (t l σ) (fun b s'=>Q (.bool b) s') E->c.wp (eval e c.env) Q E s
section
variable {c:aS} {φ:a9} {l:av} {σ:ai} {s:Shared} {e e1 e2 e3:PySem.Expr} {a b d:Ex} {t t':Tx} {pos p2:Pos} {k:Nat} {op op':PySem.CmpOp} {f g:V->V->ai->RE Bool} {G:V->ai->RE Bool} {W Q E:Value->Shared->Prop} {QB:Bool->Shared->Prop}
theorem jo.of (h:jo c e t):aK c e (gE t):=fun j j j j j j I f=>h _ _ _ _ _ _ I (f.bind fun j j j j j j I₁ r f=>r▸f.here I₁ (.i (.bool _)))
theorem JO (hop:iq c op f) (ha:aK c e1 a) (hb:aK c e2 b) (I:ay c φ l σ s.heap) (z:gz c φ l s (aj f a b l σ) (fun b s'=>W (.bool b) s') E):
  c.wp (eval e1 c.env) (fun x s₁=>c.wp (eval e2 c.env) (fun y s₂=>c.wp (compareOp op x y) W E s₂) E s₁) E s:=
 ha _ _ _ _ _ _ I (z.bind fun j j j j j j I₁ ru z=>hb _ _ _ _ _ _ I₁ (z.bind fun j j j j j st₂ I₂ rv z=>hop _ _ _ _ _ _ _ _ _ _ I₂ (ru.step st₂.pre (I₁.tk st₂)) rv z))
def TB (c:aS) (QB:Bool->Shared->Prop) (E:Value->Shared->Prop) (y:Value) (s:Shared):Prop:=c.wp (truthy y) QB E s
theorem TB.of {b:Bool} (q:QB b s):TB c QB E (.bool b) s:=Di q
theorem LZ (hop:iq c op f) (ha:aK c e1 a) (hb:aK c e2 b) (hm:behindInMarks op e2=false):ju c (.Compare e1 [op] [e2] pos) (aj f a b)/\jo c (.Compare e1 [op] [e2] pos) (aj f a b):=
 ⟨fun j j j j j j I z=>wpAny_isTrue_Compare1 (JO hop ha hb I (z.mono fun j j=>TB.of)) hm,fun j j j j j j I z=>wpAny_Compare1 (JO hop ha hb I z) hm⟩
theorem GE (hop:Du c op G) (ha:aK c e1 a) (I:ay c φ l σ s.heap) (z:gz c φ l s ((a l σ).bind G) (fun b s'=>W (.bool b) s') E):
  c.wp (eval e1 c.env) (fun x s₁=>c.wp (eval (.Constant .none k p2) c.env) (fun y s₂=>c.wp (compareOp op x y) W E s₂) E s₁) E s:=
 ha _ _ _ _ _ _ I (z.bind fun j j j j j j I₁ ru z=>Constant_none (hop _ _ _ _ _ _ _ _ I₁ ru z))
theorem GG (hop:Du c op G) (hm:behindInMarks op (.Constant .none k p2)=false) (ha:aK c e1 a):ju c (.Compare e1 [op] [.Constant .none k p2] pos) (fun l σ=>(a l σ).bind G)/\jo c (.Compare e1 [op] [.Constant .none k p2] pos) (fun l σ=>(a l σ).bind G):=
 ⟨fun j j j j j j I z=>wpAny_isTrue_Compare1 (GE hop ha I (z.mono fun j j=>TB.of)) hm,fun j j j j j j I z=>wpAny_Compare1 (GE hop ha I z) hm⟩
theorem K3:bP (isNone a)=fun l σ=>(a l σ).bind fun u σ=>notB (Ae u σ):=by
 funext l σ
 unfold bP isNone
 cases a l σ<;>rfl
theorem Ep (ha:aK c e1 a):ju c (.Compare e1 [.Is] [.Constant .none k p2] pos) (isNone a)/\jo c (.Compare e1 [.Is] [.Constant .none k p2] pos) (isNone a):=GG Gz rfl ha
theorem wI (ha:aK c e1 a):ju c (.Compare e1 [.IsNot] [.Constant .none k p2] pos) (bP (isNone a))/\jo c (.Compare e1 [.IsNot] [.Constant .none k p2] pos) (bP (isNone a)):=K3▸GG JA rfl ha
theorem SS (hop:iq c op f) (hop':iq c op' g) (ha:aK c e1 a) (hb:aK c e2 b) (hd:aK c e3 d) (hm:lastMarks [op,op'] [e2,e3]=false):ju c (.Compare e1 [op,op'] [e2,e3] pos) (RZ f g a b d):=fun j j j j QB E I z=>
 isTrue_chain (ha _ _ _ _ _ _ I (z.bind fun u j j j x j I₁ ru z=>test_link (hb _ _ _ _ _ _ I₁ (z.bind fun v j j j y st₂ I₂ rv z=>hop _ _ _ _ _ _ _ _ _ _ I₂ (ru.step st₂.pre (I₁.tk st₂)) rv
  (z.bind fun r j j s₃ b st₃ I₃ e z=>Di (by
   cases e
   cases r with
   |false=>exact (b7 Bool.false_ne_true).mpr (z.here I₃ rfl)
   |true=>exact (cq rfl).mpr (test_last (hd _ _ _ _ _ _ I₃ (z.bind fun j j j j j st₄ I₄ rw z=>hop' _ _ _ _ _ _ _ _ _ _ I₄ (rv.step (st₃.trans st₄).pre (I₂.tk (st₃.trans st₄))) rw (z.mono fun j j=>TB.of)))))))))) hm
theorem Xb (h:ju c e t):ju c (.UnaryOp .Not e pos) (bP t):=fun j j j j j j I f=>wpAny_isTrue_Not (h _ _ _ _ _ _ I f.notB)
theorem SJ (h:jo c e t):jo c (.UnaryOp .Not e pos) (bP t):=fun j j j j j j I f=>UnaryOp_ (h _ _ _ _ _ _ I (f.notB.mono fun j j q=>not_of (Di q)))
theorem MD (I:ay c φ l σ s.heap) {v:V} {y:Value} (r:aB c.g.D φ s.heap v y) (f:gz c φ l s (RJ v σ) QB E):TB c QB E y s:=
 f.bool r (fun j f=>TB.of (f.here I rfl)) fun f=>f.list I r (fun j xs j A f=>by
  obtain ⟨vs,k,ho,rr⟩:=A.ob
  have e:=rr.length
  refine wpAny_truthy_list (dy ho) (by rw [e7,<-e];exact CQ A.len) (f φ _ _ aL.toks I ?_)
  cases xs with
  |nil=>cases vs with
   |nil=>rfl
   |cons=>cases e
  |cons=>cases vs with
   |nil=>cases e
   |cons=>rfl) Fin.bad
theorem zM (he:∀ whole,isTrue e c.env whole=(do let v <-whole;standAt e.pos;holding [v] (truthy v))) (h:aK c e a):ju c e (a7 a):=fun j j j j j j I f=>
 isTrue_plain (h _ _ _ _ _ _ I (f.bind fun j j j j j j I₁ r f=>MD I₁ r f)) (he _)
theorem Rr (h:aK c e a):jo c (.UnaryOp .Not e pos) (bP (a7 a)):=fun j j j j j j I f=>
 UnaryOp_ (h _ _ _ _ _ _ I (f.notB.bind fun j j j j j j I₁ r f=>not_of (MD I₁ r f)))
theorem RU (h:aK c e a):jo c e (EY a):=fun j j j j j j I f=>h _ _ _ _ _ _ I (f.bind fun j j j j j j I₁ r f=>f.bool r (fun j f=>f.yes I₁ rfl) Fin.bad)
theorem YL (ht:ju c e t) (ha:aK c e1 a) (hb:aK c e2 b):aK c (.IfExp e e1 e2 pos) (dj t a b):=fun j j j j j j I f=>
 IfExp_ (ht _ _ _ _ _ _ I (f.bind fun v j j j j j I₁ r f=>by cases r;cases v with
  |true=>exact ha _ _ _ _ _ _ I₁ f
  |false=>exact hb _ _ _ _ _ _ I₁ f))
inductive zF (c:aS):List PySem.Expr->List Tx->Prop
 |nil:zF c [] []
 |cons {e:PySem.Expr} {t:Tx} {es:List PySem.Expr} {ts:List Tx}:ju c e t->zF c es ts->zF c (e::es) (t::ts)
theorem XB {es:List PySem.Expr} {ts:List Tx} (h:zF c es ts):ju c (.BoolOp .And es pos) (bv ts):=by
 have:∀ φ l σ s Q E (whole:Sem Value),ay c φ l σ s.heap->gz c φ l s (bv ts l σ) Q E->c.wp (isTrue (.BoolOp .And es pos) c.env whole) Q E s:=by
  induction h with
  |nil=>exact fun j j j j j j j I f=>isTrue_and_nil (f.here I rfl)
  |cons h _ ih=>exact fun j j j j j j j I f=>isTrue_and (h _ _ _ _ _ _ I (f.bind fun v j j j j j I₁ r f=>by cases r;cases v with
    |true=>exact ih _ _ _ _ _ _ _ I₁ f
    |false=>exact f.here I₁ rfl))
 exact fun j j j j j j I f=>this _ _ _ _ _ _ _ I f
theorem snd_or {es:List PySem.Expr} {ts:List Tx} (h:zF c es ts):ju c (.BoolOp .Or es pos) (f5 ts):=by
 have:∀ φ l σ s Q E (whole:Sem Value),ay c φ l σ s.heap->gz c φ l s (f5 ts l σ) Q E->c.wp (isTrue (.BoolOp .Or es pos) c.env whole) Q E s:=by
  induction h with
  |nil=>exact fun j j j j j j j I f=>isTrue_or_nil (f.here I rfl)
  |cons h _ ih=>exact fun j j j j j j j I f=>isTrue_or (h _ _ _ _ _ _ I (f.bind fun v j j j j j I₁ r f=>by cases r;cases v with
    |false=>exact ih _ _ _ _ _ _ _ I₁ f
    |true=>exact f.here I₁ rfl))
 exact fun j j j j j j I f=>this _ _ _ _ _ _ _ I f
inductive zL (c:aS):List PySem.Expr->List Tx->Prop
 |one {e:PySem.Expr} {t:Tx}:jo c e t->zL c [e] [t]
 |cons {e e':PySem.Expr} {t t':Tx} {es:List PySem.Expr} {ts:List Tx}:jo c e t->zL c (e'::es) (t'::ts)->zL c (e::e'::es) (t::t'::ts)
theorem T5 {es:List PySem.Expr} {ts:List Tx} (h:zL c es ts):jo c (.BoolOp .And es pos) (bv ts):=by
 induction h with
 |one h=>exact fun j j j j j j I f=>BoolOp_one (h _ _ _ _ _ _ I (Fin.bind f fun v j j j j j I₁ r f=>by cases r;cases v<;>exact f.yes I₁ rfl))
 |cons h _ ih=>exact fun j j j j j j I f=>BoolOp_and (h _ _ _ _ _ _ I (Fin.bind f fun v j j j j j I₁ r f=>Di (by cases r;cases v with
   |true=>exact ih _ _ _ _ _ _ I₁ f
   |false=>exact f.yes I₁ rfl)))
theorem Yf {es:List PySem.Expr} {ts:List Tx} (h:zL c es ts):jo c (.BoolOp .Or es pos) (f5 ts):=by
 induction h with
 |one h=>exact fun j j j j j j I f=>BoolOp_one (h _ _ _ _ _ _ I (Fin.bind f fun v j j j j j I₁ r f=>by cases r;cases v<;>exact f.yes I₁ rfl))
 |cons h _ ih=>exact fun j j j j j j I f=>BoolOp_or (h _ _ _ _ _ _ I (Fin.bind f fun v j j j j j I₁ r f=>Di (by cases r;cases v with
   |false=>exact ih _ _ _ _ _ _ I₁ f
   |true=>exact f.yes I₁ rfl)))
end
end
section
noncomputable def bI (e:PySem.Expr):Bool:=!Nat.beq e.ctorIdx 22
theorem eO {e:PySem.Expr} {rest:List PySem.Expr} {env:Env} (h:bI e=true):starEach (e::rest) env=(false,eval e env)::starEach rest env:=by
 cases e<;>first |rfl |cases h
inductive fV (c:aS):List PySem.Expr->List Ex->Prop
 |nil:fV c [] []
 |cons {e:PySem.Expr} {a:Ex} {es:List PySem.Expr} {as:List Ex}:bI e=true->aK c e a->fV c es as->fV c (e::es) (a::as)
section
variable {α γ:Type} {R:a9->Heap->α->γ->Prop} {c:aS} {φ φ₁:a9} {l:av} {σ σ₁:ai} {s s₁:Shared} {h h':Heap} {e e1 e2:PySem.Expr} {a b d:Ex} {es:List PySem.Expr} {as:List Ex} {pos:Pos} {u v:V} {x y:Value} {Q E:Value->Shared->Prop} {r:RE α}
theorem mI (h:fV c es as):∀ φ l σ s (Q:List Value->Shared->Prop) E,ay c φ l σ s.heap->Fin (bV c.g.D) c φ l s (cS as l σ) Q E->c.wp (spliced (backTo pos (starEach es c.env))) Q E s:=by
 induction h with
 |nil=>exact fun j j j j j j I f=>spliced_none (f.here I .nil)
 |cons ns h _ ih=>exact fun j j j j j j I f=>spliced_more (h _ _ _ _ _ _ I (f.bind fun j j j j j j I₁ rv f=>ih _ _ _ _ _ _ I₁ (f.bind fun j j j j j st₂ I₂ rr f=>f.here I₂ (.cons (rv.step st₂.pre (I₁.tk st₂)) rr)))) (eO ns)
theorem Rh {β:Type} {F:β->Prop} {k:List I->β} {n:β} {vs:List V} {ys:List Value} {P:Prop} (f:F (zT k n vs)) (r:bV c.g.D φ h vs ys) (h1:∀ xs,IReps c.g.D h xs ys->F (k xs)->P) (h2:F n->P):P:=by
 have imm:∀ xs,zE vs=some xs->IReps c.g.D h xs ys:=by
  clear f h1 h2
  induction r with
  |nil=>exact fun xs e=>by cases e;exact .nil
  |@cons v y vs ys a r ih=>
   intro xs e
   cases v with
   |i x=>
    have e:(match zE vs with |some xs=>some (x::xs) |none=>none)=some xs:=e
    cases q:zE vs with
    |none=>rw [q] at e;cases e
    |some zs=>rw [q] at e;cases e;exact .cons a.iE (ih zs q)
   |_=>cases e
 unfold zT at f
 cases q:zE vs with
 |none=>exact h2 (q▸f:)
 |some xs=>exact h1 xs (imm xs q) (q▸f:)
theorem gK {vs:List Value} (h:Heap):IsTup (h.push {cls:= .type "tuple",data:= .seq vs.toArray}) h.objs.size vs.toArray:=⟨_,fB _ rfl,rfl,0,rfl⟩
theorem dr (h:Heap) (o:Obj):fR c (fun j=>False) h (h.push o):= .all (fc h o)
theorem pr1_ok {vs:List V} {ys:List Value} (I:ay c φ l σ s.heap) (r:bV c.g.D φ s.heap vs ys) (f:bJ c φ l s (pr1 vs σ) Q E):Q (.ref s.heap.objs.size) {s with heap:=s.heap.push {cls:= .type "tuple",data:= .seq ys.toArray}}:=by
 match vs,r,f with
 |[.i x,.ref n],r,f=>exact r.consE fun v vs r1 r=>r.consE fun w ws r2 r=>r.nilE (r2.refE fun a as q=>f.grow (t:=s.toks) I (dr _ _) fun tk=> .pr (gK _) (r1.iE.keep tk) q)
theorem WC {k:Nat} (h:fV c es as):aK c (.Tuple es k pos) (ah as):=fun j j j j Q E I f=>
 wpAny_Tuple_spliced (mI h _ _ _ _ _ _ I (f.bind fun vs σ₁ φ₁ s₁ ys j I₁ rr f=>f.gd fun q f=>⟨by rw [<-rr.len,<-cK];exact aI q,
  Rh (F:=gQ (aB c.g.D) c φ₁ _ s₁ Q E) f rr (fun xs ri f=>f.newTup (t:=s₁.toks) I₁ (dr _ _) (gK _) ri (by rw [ri.length,<-rr.len];exact aI q)) fun f=>pr1_ok I₁ rr f⟩))
theorem Xz (h:fV c es as):aK c (.List es pos) (aZ as):=fun j j j j Q E I f=>
 wpAny_List_spliced (mI h _ _ _ _ _ _ I (f.bind fun vs σ₁ φ₁ s₁ ys j I₁ rr f=>Rh (F:=gQ (aB c.g.D) c φ₁ _ s₁ Q E) f rr (fun xs ri f=>f.gd fun q f=>⟨by rw [<-ri.length,<-cK];exact aI q,
  f.newList (n:=0) (t:=s₁.toks) I₁ (dr _ _) (a0 _) (fB _ rfl) ri (aI q)⟩) Fin.bad))
noncomputable def OB:List (Value×Value)->List Value
 |[]=>[]
 |(a,b)::r=>a::b::OB r
inductive xB (c:aS):List (Option PySem.Expr)->List PySem.Expr->List Ex->Prop
 |nil:xB c [] [] []
 |cons {k v:PySem.Expr} {a b:Ex} {ks:List (Option PySem.Expr)} {vs:List PySem.Expr} {as:List Ex}:aK c k a->aK c v b->xB c ks vs as->xB c (some k::ks) (v::vs) (a::b::as)
theorem xB.all {ks:List (Option PySem.Expr)} {vs:List PySem.Expr} (h:xB c ks vs as):ks.all (·.isSome)=true/\ks.length=vs.length:=by
 induction h with
 |nil=>exact ⟨rfl,rfl⟩
 |cons _ _ _ ih=>exact ⟨by rw [List.all_cons,ih.1];rfl,aM Nat.succ ih.2⟩
theorem WS:cS (a::b::as) l σ=(a l σ).bind fun v σ=>(b l σ).bind fun v' σ=>(cS as l σ).bind fun vs σ=> .ok (v::v'::vs) σ:=by
 show (a l σ).bind _=_
 cases a l σ with
 |ok v σ=>
  show ((b l σ).bind _).bind _=(b l σ).bind _
  cases b l σ with
  |ok v' σ=>
   show ((cS as l σ).bind _).bind _=(cS as l σ).bind _
   cases cS as l σ<;>rfl
  |_=>rfl
 |_=>rfl
theorem Qj {ks:List (Option PySem.Expr)} {vs:List PySem.Expr} (h:xB c ks vs as):∀ φ l σ s (Q:List (Value×Value)->Shared->Prop) E,ay c φ l σ s.heap->Fin (fun φ h us ps=>bV c.g.D φ h us (OB ps)) c φ l s (cS as l σ) Q E->c.wp (evalPairs (pairTrees ks vs c.env pos)) Q E s:=by
 induction h with
 |nil=>exact fun j j j j j j I f=>pairTrees_nil_walk (f.here I .nil)
 |cons ha hb _ ih=>
  intro _ _ _ _ _ _ I f
  rw [WS] at f
  exact pairTrees_cons_walk (ha _ _ _ _ _ _ I (f.bind fun j j j j j j I₁ ru f=>hb _ _ _ _ _ _ I₁ (f.bind fun j j j j j st₂ I₂ rv f=>ih _ _ _ _ _ _ I₂ (f.bind fun j j j j j st₃ I₃ rr f=>
    f.here I₃ (.cons (ru.step (st₂.trans st₃).pre (I₁.tk (st₂.trans st₃))) (.cons (rv.step st₃.pre (I₂.tk st₃)) rr))))))
theorem cW.mem {D:fj} {k:Str} {kvs:List (I×I)} {es:List (Str×Value)} (r:cW D h kvs es) (n:k∉es.map (·.1)) {v:Value}:(es.map fun kv=>if kv.1=k then (kv.1,v) else kv)=es:=
 (List.map_congr_left fun p m=>b7 fun e:p.1=k=>n (e▸gI (f:=(·.1)) m)).trans (List.map_id' es)
theorem cW.put {D:fj} {s:T} {x:I} {y:Value} (ts:dH s) (r:aX D h x y) {kvs:List (I×I)} {es:List (Str×Value)} (n:(es.map (·.1)).Nodup) (t:cW D h kvs es):cW D h (iP kvs (.str s) x) (stored es (aD s) y):=by
 induction t with
 |nil=>exact .cons ts r .nil
 |@cons k v z kvs es q r' t ih=>
  have ih:=ih (ej.mp n).2
  unfold stored at ih ⊢
  rw [T8]
  simp only [List.any_cons,List.map_cons]
  by_cases e:k=s
  ·subst e
   rw [h9.mpr rfl]
   simp only [decide_true,Bool.true_or,if_true]
   rw [t.mem (ej.mp n).1]
   exact .cons q r t
  ·have e2:¬ aD k=aD s:=fun z=>e (pP z)
   rw [CT e]
   simp only [decide_eq_false e2,Bool.false_or,if_neg e2]
   split<;>rename_i hc
   ·rw [cq hc] at ih
    exact .cons q r' ih
   ·rw [b7 hc] at ih
    exact .cons q r' ih
theorem cW.len {D:fj} {kvs:List (I×I)} {es:List (Str×Value)} (r:cW D h kvs es):kvs.length=es.length:=by
 induction r with
 |nil=>rfl
 |cons _ _ _ ih=>exact aM Nat.succ ih
theorem PM {es:List (Str×Value)} {k:Str} {v:Value} (n:(es.map (·.1)).Nodup):((stored es k v).map (·.1)).Nodup:=by
 unfold stored
 split
 ·rw [keys_map_store];exact n
 ·rename_i hc
  rw [iQ]
  exact C0.mpr ⟨n,ej.mpr ⟨nofun,.nil⟩,fun x hx y hy q=>by
   obtain ⟨p,hp,rfl⟩:=cZ.mp hx
   exact hc (List.any_eq_true.mpr ⟨p,hp,jn (q.trans (cY.mp hy))⟩)⟩
theorem W8 {ps:List (Value×Value)}:∀ {vs:List V} {d d':List (I×I)} {es:List (Str×Value)},rK vs d=some d'->bV c.g.D φ h vs (OB ps)->cW c.g.D h d es->(es.map (·.1)).Nodup->
  ∃ kvs,Carries (strKind c.g.p c.g.w) ps kvs/\cW c.g.D h d' (merged es kvs):=by
 induction ps with
 |nil=>exact fun e r he j=>by cases r;cases e;exact ⟨[],trivial,he⟩
 |cons p ps ih=>
  intro vs d d' es e r he n
  obtain ⟨x,y⟩:=p
  cases r with
  |cons r1 r=>cases r with
   |cons r2 r=>
    refine Db (F:=fun o=>o=some d') (C:=fun x=>∃ kvs,Carries (strKind c.g.p c.g.w) ((x,y)::ps) kvs/\cW c.g.D h d' (merged es kvs)) e r1 (fun k t q e=>?_) nofun
    refine wy (F:=fun o=>o=some d') e r2 (fun i ri e=>?_) nofun
    obtain ⟨kvs,a,b⟩:=ih e r (he.put q ri n) (PM n)
    exact ⟨(_,y)::kvs,⟨strKind_is _ _ _ t,rfl,a⟩,b⟩
theorem Fin.bind1 {β δ:Type} {R':a9->Heap->β->δ->Prop} {Q':δ->Shared->Prop} {k:α->ai->RE β} {Q:γ->Shared->Prop} (f:Fin R' c φ l s (r.bind k) Q' E) (x:aL c φ s φ₁ s₁) (hk:∀ v σ₂ φ₂ s₂ y,aL c φ₁ s₁ φ₂ s₂->ay c φ₂ l σ₂ s₂.heap->R φ₂ s₂.heap v y->Fin R' c φ l s (k v σ₂) Q' E->Q y s₂):Fin R c φ₁ l s₁ r Q E:=by
 cases r with
 |bad=>exact f
 |ok v σ₁=>exact fun φ₁ y s₁ st I r=>hk v σ₁ φ₁ s₁ y st I r f
 |exc=>exact fun e φ' s' X st=>f e φ' s' X (x.trans st)
theorem XZ {vs:List V} (f:bJ c φ l s (Ui vs σ) Q E) {P:Prop} (k:∀ d,rK vs []=some d->d.length<=aJ->bJ c φ l s (.ok (.ref σ.length) (σ++[.dict d])) Q E->P):P:=by
 unfold Ui at f
 cases q:rK vs [] with
 |none=>rw [q] at f;exact f.bad
 |some d=>rw [q] at f;exact f.gd fun ql f=>k d q (aI ql) f
theorem W7 {ks:List (Option PySem.Expr)} {vs:List PySem.Expr} (h:xB c ks vs as) (hl:ks.length<=15):aK c (.Dict ks vs pos) (mH as):=fun φ l σ s Q E I f=>by
 obtain ⟨of,nf⟩:=I.new (a0 s.heap)
 have hd0:(s.heap.push {cls:= .type "dict",data:= .dict #[]}).get? s.heap.objs.size=some {cls:= .type "dict",data:= .dict #[]}:=fB _ rfl
 by_cases h0:ks=[]
 ·subst h0
  cases h
  exact wpAny_Dict_empty (Fin.newDict (kvs:=[]) (t:=s.toks) f I (dr _ _) (a0 _) (Heap.DictOf.new s.heap) .nil (dI _))
 ·have g:fR c (fun j=>False) s.heap (s.heap.push {cls:= .type "dict",data:= .dict #[]}):=dr _ _
  have st0:aL c φ s φ {s with heap:=s.heap.push {cls:= .type "dict",data:= .dict #[]}}:=aL.to (t:=s.toks) I g nofun (e8 _) fun j=> .inl
  refine wpAny_Dict_walk (knd:=strKind c.g.p c.g.w) h.all.1 h.all.2 h0 hl (Qj h _ _ _ _ _ _ (I.mono g) ?_)
  refine f.bind1 st0 fun us σ₁ φ₁ s₁ ps st I₁ rr f=>XZ f fun d q ql f=>?_
  obtain ⟨kvs,hc,he⟩:=W8 q rr .nil List.nodup_nil
  have na:s.heap.objs.size∉own φ₁:=fun m=>(st.new _ m).elim nf fun z=>nomatch z.symm.trans hd0
  have hs1:=(st.keep _ _ hd0 nf of.touch).eq of.fa
  have fr:∀ b,b=s.heap.objs.size->Gm c s₁.heap b:=fun b e=>e▸⟨of,fun o z=>by rw [hs1] at z;cases z;exact (.inl sQ.1)⟩
  refine ⟨kvs,hc,⟨_,#[],0,hs1,⟨rfl,rfl,rfl⟩,rfl,fun e m=>(nomatch m),.nil,List.nodup_nil⟩,fun h' hd hs=>?_⟩
  have g1:fR c (·=s.heap.objs.size) s₁.heap h':= .of (fun e=>of.touch (e▸ .head _)) fun b o e n=> .refl ((hs.2 b n).trans e)
  have tk:=g1.tk fr I₁.nsx
  have ne:∀ {b o},s.heap.get? b=some o->b≠s.heap.objs.size:=fun e q=>by rw [q,a0] at e;cases e
  have st1:=st0.trans st
  refine f (φ₁++[[s.heap.objs.size]]) _ _ ⟨st1.pre.trans (j3 _ _),fun b m=>(eA.mp m).elim (st1.new b) fun m=> .inr (cY.mp m▸a0 _),fun b o e n n'=>?_,fun b m o e=>?_,st1.same⟩ ?_ ?_
  ·obtain ⟨sl,e',k⟩:=st1.keep b o e n n'
   exact ⟨sl,(hs.2 b (ne e)).trans e',k⟩
  ·obtain ⟨o',e',k⟩:=st1.tch b m o e
   exact ⟨o',(hs.2 b (ne e)).trans e',k⟩
  ·exact I₁.to g1 fr (j3 _ _) ((I₁.sto.mono (fun b hb o e=>(hs.2 b fun z=>na (z▸hb)).trans e) tk).snoc (.dict hd (he.keep tk) ql)) (ut I₁.nd (ej.mpr ⟨nofun,.nil⟩) fun b m=>cY.mp m▸na) fun b m=>(eA.mp m).imp id fun m=>(fr b (cY.mp m)).1
  ·refine .ref (as:=[]) ?_
   rw [I₁.sto.len,wz (cR _),wr];rfl
end
end
section
section
variable {α γ:Type} {R:a9->Heap->α->γ->Prop} {c:aS} {φ φ₁:a9} {l:av} {σ σ₁:ai} {s s₁:Shared} {h h':Heap} {e e' e1 e2:PySem.Expr} {a a' b d k o:Ex} {es:List PySem.Expr} {as:List Ex} {pos np ap:Pos} {u v:V} {x y z:Value} {Q E:Value->Shared->Prop} {r:RE α}
theorem pp (h:fV c es as):(backTo pos (starEach es c.env)).any (·.1)=false:=by
 induction h with
 |nil=>rfl
 |cons ns _ _ ih=>rw [eO ns];exact ih
theorem iO {f:Value} {Q:Args->Shared->Prop} (h:fV c es as) (k:c.wp (spliced (backTo pos (starEach es c.env))) (fun ys s₁=>Q ⟨ys,[]⟩ s₁) E s):c.wp (evalArgs f true (backTo pos (starEach es c.env)) []) Q E s:=by
 cases h with
 |nil=>exact fun Γ p hΓ=>(evalArgs_empty (k Γ p hΓ):c.wp _ Q E s) Γ p hΓ
 |cons ns=>rw [eO ns] at k ⊢;exact evalArgs_plain k
theorem sF {f:Value} {first:List Value} (hf:(∃ id,f= .builtin id)\/∃ T,f= .type T) (h:fV c es as) (k:c.wp (spliced (backTo pos (starEach es c.env))) (fun ys s₁=>c.wp (PySem.call f (first++ys)) Q E s₁) E s):
  c.wp (callWith pos f first (backTo pos (starEach es c.env)) []) Q E s:=by
 rcases hf with ⟨id,rfl⟩ |⟨T,rfl⟩
 ·exact callWith_builtin (pp h) (iO h k)
 ·exact PySem.callWith_type (pp h) (iO h k)
def dh (c:aS) (x:Str) (g:Value):Prop:=∀ (s:Shared) (Q E:Value->Shared->Prop) (pos:Pos),c.base.StaysIn s.heap->Q g s->c.wp (eval (.Name x pos) c.env) Q E s
def x7 (c:aS) (g:Value) (f:V->ai->RE V):Prop:=∀ φ l σ s v y Q E,ay c φ l σ s.heap->aB c.g.D φ s.heap v y->bJ c φ l s (f v σ) Q E->c.wp (PySem.call g [y]) Q E s
theorem kg {W:List Value->Shared->Prop} {g:V->ai->RE α} {QA:γ->Shared->Prop} (ns:bI e=true) (ha:aK c e a) (I:ay c φ l σ s.heap) (f:Fin R c φ l s ((a l σ).bind g) QA E)
  (k:∀ v σ₁ φ₁ s₁ y,aL c φ s φ₁ s₁->ay c φ₁ l σ₁ s₁.heap->aB c.g.D φ₁ s₁.heap v y->Fin R c φ₁ l s₁ (g v σ₁) QA E->W [y] s₁):c.wp (spliced (backTo pos (starEach [e] c.env))) W E s:=
 spliced_more (ha _ _ _ _ _ _ I (f.bind fun v σ₁ φ₁ s₁ y st I₁ r f=>spliced_none (k v σ₁ φ₁ s₁ y st I₁ r f))) (eO ns)
theorem Q5 {f:V->ai->RE V} {n:Str} {g:Value} (hg:dh c n g) (hf:(∃ id,g= .builtin id)\/∃ T,g= .type T) (ho:x7 c g f) (ns:bI e=true) (ha:aK c e a):aK c (.Call (.Name n np) [e] [] pos) (un f a):=fun j j j s j j I z=>
 zp (hg s _ _ _ I.stay (sF (first:=[]) hf (.cons ns ha .nil) (kg ns ha I z fun j j j j j j I₁ r z=>ho _ _ _ _ _ _ _ _ I₁ r z)))
noncomputable def c8:PySem.Expr->Bool
 | .Call (.Name _ _) [] [] _=>false
 |_=>true
theorem fX {o:PySem.Expr} {n:Str} {env:Env} {whole:Sem Value} (h:c8 o=true):attributeBase o n env whole=whole:=by
 cases o with
 |Call f as ks p=>cases f with
  |Name x q=>cases as with
   |nil=>cases ks with
    |nil=>cases h
    |cons=>rfl
   |cons=>rfl
  |_=>rfl
 |_=>rfl
structure UX (T:String) (n:Str) (id:String):Prop where
 plain:PlainAttrs T
 slot:Slot T n id
 ty:typeOf (.builtin id)=pure (.type "method_descriptor")
def yV (s:Shared) (x:Value) (T:String):Prop:=s.TypeIs x T/\∀ a,x= .ref a->∃ ob,s.heap.get? a=some ob/\ob.dict=none
def xH (c:aS) (T id:String) (p:V->ai->Bool) (f:V->V->ai->RE V):Prop:=
 (∀ φ l σ s u x,ay c φ l σ s.heap->aB c.g.D φ s.heap u x->p u σ=true->yV s x T)/\
 ∀ φ l σ s u v x y Q E,ay c φ l σ s.heap->aB c.g.D φ s.heap u x->aB c.g.D φ s.heap v y->bJ c φ l s (f u v σ) Q E->c.wp (PySem.call (.builtin id) [x,y]) Q E s
theorem pZ (h:fV c es as) (hl:es.length< 29):((backTo pos (starEach es c.env)).all (fun x=>!x.1) && (backToKw pos (keywordEach [] c.env)).all (fun x=>x.1.isSome)
   && decide (es.length+([]:List Keyword).length+(if ([]:List Keyword).isEmpty then 0 else 1)< 30))=true:=by
 have h2:(backTo pos (starEach es c.env)).all (fun x=>!x.1)=true:=by
  rw [List.all_eq_not_any_not]
  simpa using pp (pos:=pos) h
 rw [h2]
 exact jn (Nat.lt_trans hl (by decide))
theorem snd_bm {T id:String} {n:Str} {p:V->ai->Bool} {f:V->V->ai->RE V} (m:UX T n id) (ho:xH c T id p f) (hb:c8 e=true) (hline:(ap.endLine==pos.line)=true) (ns:bI e'=true) (h1:aK c e a) (h2:aK c e' a'):
  aK c (.Call (.Attribute e n ap) [e'] [] pos) (bm p f a a'):=fun j j j j j j I z=>
 have hl:fV c [e'] [a']:= .cons ns h2 .nil
 H7 (fX hb) (pZ hl (show 1< 29 by decide)) hline rfl (h1 _ _ _ _ _ _ I (z.bind fun u σ₁ φ₁ s₁ x j I₁ ru z=>z.gd fun q z=>
  let ⟨t1,t2⟩:=ho.1 φ₁ _ σ₁ s₁ u x I₁ ru q
  ⟨T,id,m.plain,m.slot,m.ty,t1,t2,sF (first:=[x]) (.inl ⟨id,rfl⟩) hl (kg ns h2 I₁ z fun j j j j j st₂ I₂ rv z=>ho.2 _ _ _ _ _ _ _ _ _ _ I₂ (ru.step st₂.pre (I₁.tk st₂)) rv z)⟩))
def NC (c:aS) (T id:String) (f:V->ai->RE V):Prop:=
 ∀ φ l σ s u x Q E,ay c φ l σ s.heap->aB c.g.D φ s.heap u x->bJ c φ l s (f u σ) Q E->yV s x T/\c.wp (PySem.call (.builtin id) [x]) Q E s
theorem snd_um {T id:String} {n:Str} {f:V->ai->RE V} (m:UX T n id) (ho:NC c T id f) (hb:c8 e=true) (hline:(ap.endLine==pos.line)=true) (h1:aK c e a):aK c (.Call (.Attribute e n ap) [] [] pos) (un f a):=fun j j j j j j I z=>
 H7 (fX hb) (pZ .nil (by decide)) hline rfl (h1 _ _ _ _ _ _ I (z.bind fun j j j j x j I₁ ru z=>
  let ⟨⟨t1,t2⟩,t3⟩:=ho _ _ _ _ _ _ _ _ I₁ ru z
  ⟨T,id,m.plain,m.slot,m.ty,t1,t2,sF (first:=[x]) (.inl ⟨id,rfl⟩) .nil (spliced_none t3)⟩))
theorem uz {q:T} {t:Tok}:yV s (.str (aD q) t) "str" :=⟨typeIs_str _ _ _,fun j e=>nomatch e⟩
theorem pO {l':Addr} {vs:List Value} {k:Nat} (e:s.heap.get? l'=some (listOf vs.toArray k)):yV s (.ref l') "list" :=⟨⟨_,e,rfl⟩,fun j q=>by cases q;exact ⟨_,e,rfl⟩⟩
theorem FK (r:aB c.g.D φ s.heap u x) (h:dK u σ=true):yV s x "str" :=Db (F:=(·=true)) (C:=fun x=>yV s x "str") h r (fun j j j j=>uz) nofun
theorem Gs (I:ay c φ l σ s.heap) (r:aB c.g.D φ s.heap u x) (h:a6 u σ=true):yV s x "list" :=Fk (F:=(·=true)) (C:=fun x=>yV s x "list") h I r (fun j j j A j=>let ⟨_,_,ho,_⟩:=A.ob;pO ho) nofun
theorem Bt {a:Addr} {vs:List Value} {k:Nat} {f:Array Value->Array Value} (e:h.get? a=some (listOf vs.toArray k)):∃ k',(h.update a (Obj.mapSeq f)).get? a=some (listOf (f vs.toArray) k'):=⟨_,vq (Obj.mapSeq f) e rfl⟩
theorem yC {a b:Addr} {f:Obj->Obj} (n:b≠a):(h.update a f).get? b=h.get? b:=oj h f (gi n)
theorem ay.putL {n:Nat} {a:Addr} {xs xs':List Mine.I} {vs':List Value} {k' t:Nat} (I:ay c φ l σ s.heap) (A:Ms c φ σ s.heap n xs a) (hh:h'.get? a=some (listOf vs'.toArray k')) (ho:∀ b,b≠a->h'.get? b=s.heap.get? b) (r:IReps c.g.D s.heap xs' vs') (hl:xs'.length<=aJ) {P:Prop}
  (k:TK s.heap h'->aL c φ s φ {s with heap:=h',toks:=t}->ay c φ l (putAt σ n (.list xs')) h'->P):P:=
 I.put A.q (fun b o m e=>(ho b fun z=>m (z▸ .head _)).trans e) (fun tk=> .list hh (r.keep tk) hl) k
theorem PB:xH c "list" "list.append" a6 aO:=⟨fun j j j j j j I r h=>Gs I r h,fun φ l σ s u v x y Q E I ru rv f=>f.list I ru (fun n xs a A f=>f.i rv (fun i ri f=>f.gd fun ql f=>by
 obtain ⟨vs,k,ho,rr⟩:=A.ob
 obtain ⟨k',hk⟩:=Bt (f:=fun x_1=>x_1.push y) ho
 refine call_meets F.slot_list_append (pO ho).1 F.entry_list_append (F.args_list_append_2 _ _) (AutoListH.list_append_list_val_0 _ _ k _ (by rw [e7,<-rr.length,<-cK];exact A.len)) ⟨ho,?_⟩
 exact I.putL (t:=s.toks) (vs':=vs++[y]) (k':=k') A (by rw [hk,List.push_toArray]) (fun b n=>yC n) (rr.snoc ri) (by rw [bd];exact eW ql) fun j st J=>f _ _ _ st J (.i .none)) Fin.bad) Fin.bad⟩
theorem Rk:xH c "list" "list.extend" a6 fm:=⟨fun j j j j j j I r h=>Gs I r h,fun φ l σ s u v x y Q E I ru rv f=>f.list I ru (fun n xs a A f=>f.list I rv (fun m ys b B f=>f.gd fun ql f=>by
 have ql:=eW (cp.mp ql).2
 obtain ⟨vs,k,ho,rr⟩:=A.ob
 obtain ⟨ws,k2,ho2,rr2⟩:=B.ob
 have z1:vs.toArray.size=xs.length:=rr.length.symm
 have z2:ws.toArray.size=ys.length:=rr2.length.symm
 obtain ⟨k',hk⟩:=Bt (f:=fun x=>x++ws.toArray) ho
 refine call_meets F.slot_list_extend (pO ho).1 F.entry_list_extend (F.args_list_extend_2 _ _) (AutoSeq1.list_extend_list_list_0 _ _ k _ _ k2 ?_ (by rw [z1,<-cK];exact A.len) (by rw [z1,z2,<-cK];omega)) ⟨ho,ho2,?_⟩
 ·rw [z1,z2,show Builtin.List.listTooLong (xs.length+ys.length)=false from tq (by rw [<-cK];omega)];simp
 ·exact I.putL (t:=s.toks) (vs':=vs++ws) (k':=k') A (by rw [hk,List.append_toArray]) (fun b n=>yC n) (rr.append rr2) (by rw [bd];omega) fun j st J=>f _ _ _ st J (.i .none)) Fin.bad) Fin.bad⟩
theorem K8 {ss:List T}:∀ {vs:List Value},IReps c.g.D h (ss.map .str) vs->∃ l:List (Str×Tok),vs=strValues l/\l.map (·.1)=ss.map aD/\∀ x∈ss,dH x:=by
 induction ss with
 |nil=>exact fun r=>r.nilE ⟨[],rfl,rfl,nofun⟩
 |cons a ss ih=>
  intro vs r
  cases r with
  |cons r1 r=>cases r1 with
   |str _ t q=>
    obtain ⟨l,e1,e2,e3⟩:=ih r
    exact ⟨(aD a,t)::l,by rw [e1];rfl,by rw [im,im,e2],b9.mpr ⟨q,e3⟩⟩
theorem PX {ch:Nat} {s:T}:∀ {n k:Nat},oh ch s n=some k->∃ i,k=n+i/\s[i]?=some ch/\∀ j,j< i->s[j]?≠some ch:=by
 induction s with
 |nil=>exact nofun
 |cons d s ih=>
  intro n k e
  unfold oh at e
  cases q:Nat.beq d ch with
  |true=>rw [q] at e;cases e;exact ⟨0,rfl,aM some (kj q),nofun⟩
  |false=>
   rw [q] at e
   obtain ⟨i,a,b,z⟩:=ih e
   refine ⟨i+1,by omega,b,fun j hj=>?_⟩
   cases j with
   |zero=>exact fun e=>HR q (bO e)
   |succ j=>exact z j (rt hj)
theorem Ua (z:T) (ch:Nat):Txt.find (aD z) (aD [ch])=match oh ch z 0 with |some n=>(n:Int) |none=> -1:=by
 unfold Txt.find
 have at_iff:∀ i,PySem.StrLaws.At (aD z) (aD [ch]) (aD z).length i↔z[i]?=some ch:=fun i=>PySem.StrLaws.subAt_one (aD z) ch i
 rcases PySem.StrLaws.occ_head (aD z) (aD [ch]) 1 (cR _) with ⟨h1,h2⟩ |⟨i,r,h1,h2,h3⟩
 ·rw [h1,sx.mpr fun m=>let ⟨i,hi⟩:=HN.mp m;h2 i ((at_iff i).mpr hi)]
 ·rw [h1]
  cases e:oh ch z 0 with
  |none=>exact absurd (yF ((at_iff i).mp h2)) (sx.mp e)
  |some k=>
   obtain ⟨j,e1,e2,e3⟩:=PX e
   have:i=j:=Nat.le_antisymm (Nat.le_of_not_lt fun h=>h3 j h ((at_iff j).mpr e2)) (Nat.le_of_not_lt fun h=>e3 i h ((at_iff i).mp h2))
   show (i:Int)=(k:Int)
   omega
theorem WZ:xH c "str" "str.find" dK HK:=⟨fun j j j j j j j r h=>FK r h,fun φ l σ s u v x y Q E I ru rv f=>f.str ru (fun z t q f=>f.chr rv (fun ch t2 q2 f=>PySem.SC.find (by
 rw [Ua]
 cases e:oh ch z 0 with
 |none=>rw [e] at f;exact f.val I (.i (.int _ _))
 |some k=>rw [e] at f;exact Fin.val f I (.i (.int _ _)))) Fin.bad) Fin.bad⟩
theorem PN:∀ k,k< 128->Txt.lower ⟨#[k]⟩=⟨#[Oa k]⟩/\Builtin.Str.tooLong (Txt.lower ⟨#[k]⟩).length=false/\Oa k< 128:=by decide+kernel
theorem tok1 {k:Nat} (h:k< 128):dH [k]:=⟨by show 1<=aJ;decide,vr.mpr h⟩
theorem RT:NC c "str" "str.lower" Ir:=fun φ l σ s u x Q E I r f=>f.chr r (fun ch t q f=>f.gd fun ql f=>by
 obtain ⟨h1,h2,h3⟩:=PN ch (eW ql)
 refine ⟨uz,PySem.SC.lower (x:=aD [ch]) h2 ?_⟩
 rw [show Txt.lower (aD [ch])=aD [Oa ch] from h1]
 exact f.val I (.i (.str _ _ (tok1 h3)))) Fin.bad
theorem GS:Txt.strip (aD [100,114,111,112,32])=aD [100,114,111,112]/\Txt.strip (aD [103,111,116,111,32,99,50])=aD [103,111,116,111,32,99,50]:=by
 constructor<;>decide+kernel
theorem RI {z z':T} (e:CZ z=some z'):Txt.strip (aD z)=aD z'/\okT z'=true:=by
 unfold CZ at e
 cases e1:bU z [100,114,111,112,32] with
 |true=>rw [e1] at e;cases h9.mp e1;cases e;exact ⟨GS.1,by decide⟩
 |false=>
  cases e2:bU z [103,111,116,111,32,99,50] with
  |true=>rw [e1,e2] at e;cases h9.mp e2;cases e;exact ⟨GS.2,by decide⟩
  |false=>rw [e1,e2] at e;cases e
theorem Sa:NC c "str" "str.strip" IK:=fun φ l σ s u x Q E I r f=>f.str r (fun z t q f=>by
 cases e:CZ z with
 |none=>rw [e] at f;exact f.bad
 |some z'=>
  rw [e] at f
  obtain ⟨h1,h2⟩:=RI e
  refine ⟨uz,PySem.SC.strip (fun t' k=>?_) ?_⟩
  ·rw [h1];exact Fin.val f I (.i (.str _ _ (YU h2)))
  ·rw [dz,<-cK];exact q.1) Fin.bad
theorem Jf (p:T) (ss:List T):Str.join (aD p) (ss.map aD)=aD (bA p ss):=by
 induction ss with
 |nil=>rfl
 |cons a r ih=>cases r with
  |nil=>rfl
  |cons b r=>
   show aD a++aD p++Str.join (aD p) ((b::r).map aD)=aD (a++(p++bA p (b::r)))
   rw [ih,zN a p,zN (a++p) _,bM]
theorem WE {p:T} {ss:List T} (hp:dH p) (h:∀ x∈ss,dH x):∀ c∈bA p ss,c< 128:=by
 induction ss with
 |nil=>exact nofun
 |cons a r ih=>cases r with
  |nil=>exact (h a (.head _)).2
  |cons b r=>exact fun c m=>(jv.mp m).elim ((h a (.head _)).2 c) fun m=>(jv.mp m).elim (hp.2 c) (ih (fun x q=>h x (.tail _ q)) c)
theorem P3 (p:T) (ss:List T):∀ (n:Nat),ss≠[]->(ss.map aD).foldl (·+·.length+(aD p).length) n=n+(bA p ss).length+p.length:=by
 induction ss with
 |nil=>exact fun j h=>absurd rfl h
 |cons a r ih=>cases r with
  |nil=>exact fun n j=>by show n+(aD a).length+(aD p).length=n+a.length+p.length;rw [dz,dz]
  |cons b r=>
   intro n _
   rw [im,List.foldl_cons,ih _ (List.cons_ne_nil _ _),dz,dz]
   show _=n+(a++(p++bA p (b::r))).length+p.length
   rw [bd,bd]
   omega
structure JoinIs (p:T) (ls:List (Str×Tok)) (z:T) (s:Shared):Prop where
 long:Builtin.Str.tooLong ((ls.map (·.1)).toArray.foldl (·+·.length+(aD p).length) 0)=false
 ok:dH z
 post:∀ {Q:Value->Shared->Prop},(∀ t k,Q (.str (aD z) t) {s with toks:=k})->(joinMade (aD p) ls).post Q s
theorem GL {p:T} {ss:List T} {vs:List Value} (r:IReps c.g.D h (ss.map .str) vs) (hp:dH p) (ql:(bA p ss).length+p.length<=aJ) (s:Shared):∃ ls:List (Str×Tok),vs=strValues ls/\JoinIs p ls (bA p ss) s:=by
 obtain ⟨ls,e1,e2,e3⟩:=K8 r
 refine ⟨ls,e1,?_,⟨by omega,WE hp e3⟩,fun h=>?_⟩
 ·rw [e2]
  refine tq ?_
  rw [<-cK,List.foldl_toArray]
  by_cases q:ss=[]
  ·subst q;exact ie _
  ·rw [P3 p ss 0 q];omega
 ·have hj:=Jf p ss
  unfold joinMade
  set_option tactic.hygienic true in split
  ·rename_i q
   cases ss with
   |nil=>cases e2
   |cons a rr=>cases rr with
    |nil=>
     have:=h q.2 s.toks
     rw [show bA p [a]=a from rfl,<-show q.1=aD a from (iH e2).1] at this
     exact this
    |cons=>exact absurd (aM List.length e2) (by simp)
  ·rw [PySem.StrLaws.glued_eq_join,e2,hj]
   exact ⟨by show (aD _).length<=_;rw [dz,<-cK];omega,h _ _⟩
theorem X8:xH c "str" "str.join" dK eV:=⟨fun j j j j j j j r h=>FK r h,fun φ l σ s u v x y Q E I ru rv f=>f.str ru (fun p t hp f=>f.tup rv (fun xs a vs a1 a2 a3 f=>f.strs fun ss e f=>f.gd fun ql f'=>by
 subst e
 obtain ⟨ls,h1,J⟩:=GL a3 hp (aI ql) s
 obtain ⟨o,ho,hc,n,hd⟩:=a1
 exact call_meets F.slot_str_join uz.1 F.entry_str_join (F.args_str_join_2 _ _) (meets_str_join_tuple _ t _ ls J.long) ⟨⟨o,n,ho,hc,h1▸hd⟩,J.post fun t k=>f'.val I (.i (.str _ t J.ok))⟩) fun f=>f.list I rv (fun m xs a A f=>f.strs fun ss e f=>f.gd fun ql f'=>by
 subst e
 obtain ⟨vs,k,ho,rr⟩:=A.ob
 obtain ⟨ls,h1,J⟩:=GL rr hp (aI ql) s
 exact call_meets F.slot_str_join uz.1 F.entry_str_join (F.args_str_join_2 _ _) (meets_str_join_list _ t _ ls J.long) ⟨h1▸dy ho,J.post fun t k=>f'.val I (.i (.str _ t J.ok))⟩) Fin.bad) Fin.bad⟩
theorem QQ {a b:Nat} (h:¬ a=b):Nat.beq a b=false:=Ct.mpr fun q=>h (kj q)
theorem Nx (c:Nat) (p:T):∀ (acc r:T),c∉p->dA c acc (p++c::r)=(acc.reverse++p)::dA c [] r:=by
 induction p with
 |nil=>
  intro acc r _
  show (match Nat.beq c c with |true=>acc.reverse::dA c [] r |false=>_)=_
  rw [Nat.beq_refl,dT]
 |cons d p ih=>
  intro acc r h
  show (match Nat.beq c d with |true=>acc.reverse::dA c [] (p++c::r) |false=>dA c (d::acc) (p++c::r))=_
  rw [QQ fun q=>h (by rw [q];exact .head _)]
  exact (ih (d::acc) r fun q=>h (.tail _ q)).trans (by simp)
theorem Ni (c:Nat) (p:T):∀ (acc:T),c∉p->dA c acc p=[acc.reverse++p]:=by
 induction p with
 |nil=>exact fun acc j=>by rw [dT];rfl
 |cons d p ih=>
  intro acc h
  show (match Nat.beq c d with |true=>acc.reverse::dA c [] p |false=>dA c (d::acc) p)=_
  rw [QQ fun q=>h (by rw [q];exact .head _)]
  exact (ih (d::acc) fun q=>h (.tail _ q)).trans (by simp)
theorem NL (c:Nat) (ps:List T):ps≠[]->(∀ p∈ps,c∉p)->dA c [] (bA [c] ps)=ps:=by
 induction ps with
 |nil=>exact fun h j=>absurd rfl h
 |cons a r ih=>cases r with
  |nil=>exact fun j h=>Ni c a [] (h a (.head _))
  |cons b r=>exact fun j h=>(Nx c a [] _ (h a (.head _))).trans (aM (a::·) (ih (List.cons_ne_nil _ _) fun p q=>h p (.tail _ q)))
theorem Sk (z:T) (ch:Nat):Txt.split (aD z) (aD [ch])=(dA ch [] z).map aD:=by
 have h1:=PySem.StrLaws.join_split (aD z) (aD [ch])
 have h3:Txt.split (aD z) (aD [ch])≠[]:=by
  unfold Txt.split
  split
  ·simp
  ·split
   ·simp
   ·rw [PySem.StrLaws.partsBetween_eq]
    obtain ⟨p,r,e⟩:=PySem.StrLaws.partsFrom_ne (aD z) (aD [ch]).length 0 (Builtin.Str.occurrences (aD z) (aD [ch]) 0 (aD z).length ((aD z).length+1))
    rw [e];simp
 have e:Txt.split (aD z) (aD [ch])=((Txt.split (aD z) (aD [ch])).map fun p=>p.cps.toList).map aD:=by rw [List.map_map];exact (List.map_id' _).symm
 rw [e,Jf] at h1
 have u:=NL ch ((Txt.split (aD z) (aD [ch])).map fun p=>p.cps.toList) (by simpa using h3) (fun p hp=>by
  obtain ⟨q,hq,rfl⟩:=cZ.mp hp
  exact PySem.StrLaws.split_free (aD z) ch q hq)
 rw [pP h1] at u
 exact e.trans (aM (·.map aD) u.symm)
theorem QO (c:Nat) (z:T):∀ (acc:T) {n:Nat},acc.length+z.length<=n->(∀ k∈acc,k< 128)->(∀ k∈z,k< 128)->(∀ p∈dA c acc z,p.length<=n/\∀ k∈p,k< 128)/\(dA c acc z).length<=z.length+1:=by
 induction z with
 |nil=>exact fun acc n h ha j=>⟨vr.mpr ⟨by rw [Gu];exact h,fun k m=>ha k (List.mem_reverse.mp m)⟩,cR _⟩
 |cons d z ih=>
  intro acc n h ha hz
  rw [Ba] at h
  unfold dA
  cases q:Nat.beq c d with
  |true=>
   obtain ⟨a,b⟩:=ih [] (n:=n) (by rw [List.length_nil];omega) nofun fun k m=>hz k (.tail _ m)
   exact ⟨b9.mpr ⟨⟨by rw [Gu];omega,fun k m=>ha k (List.mem_reverse.mp m)⟩,a⟩,gu b⟩
  |false=>
   obtain ⟨a,b⟩:=ih (d::acc) (n:=n) (by rw [Ba];omega) (b9.mpr ⟨hz _ (.head _),ha⟩) fun k m=>hz k (.tail _ m)
   exact ⟨a,Nat.le_succ_of_le b⟩
theorem Pv (D:fj) (ss:List T):∀ (t:Nat),(∀ x∈ss,dH x)->IReps D h (ss.map .str) (strsFrom t (ss.map aD)):=by
 induction ss with
 |nil=>exact fun j j=> .nil
 |cons a r ih=>exact fun t h=> .cons (.str a t (h a (.head _))) (ih (t+1) fun x m=>h x (.tail _ m))
theorem SX:xH c "str" "str.split" dK Ez:=⟨fun j j j j j j j r h=>FK r h,fun φ l σ s u v x y Q E I ru rv f=>f.str ru (fun z t q f=>f.chr rv (fun ch t2 q2 f=>f.gd fun ql f=>by
 have ql:=eW ql
 have hs:=Sk z ch
 obtain ⟨k1,k2⟩:=QO ch z [] (n:=aJ) (by rw [List.length_nil];omega) nofun q.2
 have kl:((dA ch [] z).map Mine.I.str).length<=aJ:=by rw [cD];omega
 have one:Txt.split (aD z) (aD [ch])=[aD z]->listOfItself (aD z) t c.A (wants Q E) s:=fun e=>by
  rw [hs] at e
  have e2:dA ch [] z=[z]:=List.map_inj_right (fun j j=>pP) |>.mp (show (dA ch [] z).map aD=[z].map aD from e)
  rw [e2] at kl f
  exact Fin.newList (n:=0) (t:=s.toks) f I (dr _ _) (a0 _) (fB _ rfl) (.cons (.str z t q) .nil) kl
 have call:∀ {S:PySem.Spec},Meets (Builtin.«str.split» ⟨[.str (aD z) t,.str (aD [ch]) t2],[]⟩) S->S c.A (wants Q E) s->c.wp (PySem.call (.builtin "str.split") [.str (aD z) t,.str (aD [ch]) t2]) Q E s:=fun g h=>call_meets F.slot_str_split uz.1 F.entry_str_split (F.args_str_split_2 _ _) g h
 cases h1:(decide ((aD z).length< (aD [ch]).length) || decide (Builtin.Str.strKind (aD z)< Builtin.Str.strKind (aD [ch]))) with
 |true=>exact call (meets_str_split_cannot_occur _ _ t t2 h1) (one (by unfold Txt.split;rw [cq h1]))
 |false=>
  cases h2:(Builtin.Str.occurrences (aD z) (aD [ch]) 0 (aD z).length ((aD z).length+1)).isEmpty with
  |true=>exact call (meets_str_split_not_found _ _ t t2 h1 rfl h2) (one (by unfold Txt.split;rw [b7 (by rw [h1];simp),cq h2]))
  |false=>
   have e:Builtin.Str.partsBetween (aD z) (Builtin.Str.occurrences (aD z) (aD [ch]) 0 (aD z).length ((aD z).length+1)) (aD [ch]).length=(dA ch [] z).map aD:=by
    rw [<-hs];unfold Txt.split;rw [b7 (by rw [h1];simp),b7 (by rw [h2];simp)]
   refine call (meets_str_split_sep _ _ t t2 h1 rfl h2 (by rw [dz,<-cK];omega) (by rw [e,cD,<-cK];rw [cD] at kl;exact kl)) ?_
   rw [e]
   exact Fin.newList (n:=0) f I (dr _ _) (a0 _) (fB _ rfl) (Pv c.g.D _ _ fun p m=>k1 p m) kl) Fin.bad) Fin.bad⟩
end
end
section
section
variable {α γ:Type} {R:a9->Heap->α->γ->Prop} {c:aS} {φ φ₁:a9} {l:av} {σ σ₁:ai} {s s₁:Shared} {h h':Heap} {e e' e1 e2:PySem.Expr} {a a' b d k o:Ex} {es:List PySem.Expr} {as:List Ex} {pos np ap:Pos} {u v:V} {x y z:Value} {Q E:Value->Shared->Prop} {r:RE α}
theorem qZ {xs:List I} {vs:List Value} (rr:IReps c.g.D h xs vs) (hl:xs.length<=aJ):(vs.toArray.size:Int)< 2 ^ 63/\vs.toArray.size=xs.length:=⟨by rw [e7,<-rr.length];exact CQ hl,rr.length.symm⟩
theorem Ze (W:Wr c.g c.base):x7 c (.builtin "len") bC:=fun φ l σ s v y Q E I r f=>by
 refine f.str r (fun a t q f=>?g1) fun f=>f.tup r (fun xs a vs a1 a2 a3 f=>?g2) fun f=>f.list I r (fun m xs a A f=>?g3) fun f=>f.sub I r (fun m pre rest kn fam tab a dx tok kno tg tgd q R f=>?g4) fun f=>f.fl r (fun f=>?g5) Fin.bad
 case g1=>exact PySem.P.len_str (x:=aD a) (by rw [dz];exact Int.not_le.mpr (CQ q.1)) (by rw [dz];exact f.val I (.i (.int _ _)))
 case g2=>exact PyProof.Rows.len_tuple a1 (qZ a3 a2).1 (by rw [(qZ a3 a2).2];exact f.val I (.i (.int _ _)))
 case g3=>
  obtain ⟨vs,k,ho,rr⟩:=A.ob
  exact call_len_list (dy ho) (qZ rr A.len).1 (by rw [(qZ rr A.len).2];exact f.val I (.i (.int _ _)))
 case g4=>
  obtain ⟨ts,k,ho,rr,hl⟩:=R.toks
  refine call_len_list (dy ho) (qZ rr hl).1 ?_
  rw [(qZ rr hl).2,bd,Gu]
  exact f.val I (.i (.int _ _))
 case g5=>
  refine call_len_list (W.fl.at fun o e=>I.stay _ _ e) (by rw [e7,cD];exact CQ W.fll) ?_
  rw [e7,cD]
  rw [cD] at f
  exact f.val I (.i (.int _ _))
theorem ok_ord:x7 c (.builtin "ord") Nn:=fun j j j j j j j j I r f=>f.chr r (fun j j j f=>PySem.P.ord_of_char (f.val I (.i (.int _ _)))) Fin.bad
theorem Tr:x7 c (.type "tuple") eN:=fun j j j j j j j j I r f=>f.tup r (fun xs a vs a1 a2 a3 f=>call_tuple_tup a1 (f.here I (.i (.tup a1 a2 a3)))) fun f=>f.list I r (fun m xs a A f=>by
 obtain ⟨vs,k,ho,rr⟩:=A.ob
 obtain ⟨m,hm⟩:=I.nsx
 exact tuple_ofL (fr0 hm) (Ou _ _) (dy ho) (fun T h' F N k=>f.newTup I (.all k) ⟨_,(N _ (.head _)).1,rfl,0,rfl⟩ rr A.len) (by rw [<-rr.length,<-cK];exact A.len)) Fin.bad
theorem XH:x7 c (.type "list") HT:=fun j j j j j j j j I r f=>f.tup r (fun xs a vs a1 a2 a3 f=>by
 obtain ⟨o,ho,hc,n,hd⟩:=a1
 exact call_list_seq _ (.inr rfl) ho hc hd (fun h' c' k e=>f.newList I (.all k) (a0 _) e a3 a2) (by rw [e7,<-a3.length,<-cK];exact a2)) Fin.bad
theorem Yk (f:Nat):∀ (g n:Nat) (acc:List Char),n< 10 ^ f->n< g->0< f->(Nat.toDigitsCore 10 g n acc).map Char.toNat=digs f n (acc.map Char.toNat):=by
 induction f with
 |zero=>exact fun j j j j j h=>absurd h (A8 _)
 |succ f ih=>
  intro g n acc h1 h2 _
  cases g with
  |zero=>exact absurd h2 (ie _)
  |succ g=>
   have dc:∀ k,k< 10->(Nat.digitChar k).toNat=48+k:=by decide
   unfold digs
   rw [Nat.toDigitsCore]
   by_cases q:n< 10
   ·rw [show Nat.blt n 10=true from gp q]
    simp only [Nat.div_eq_of_lt q,Nat.mod_eq_of_lt q,if_true]
    rw [im,dc n q]
   ·rw [show Nat.blt n 10=false from Ct.mpr fun z=>q (eW z)]
    simp only [show ¬ n / 10=0 by omega,if_false]
    rw [ih g (n / 10) _ (by rw [Nat.pow_succ] at h1;omega) (by omega) (Nat.pos_of_ne_zero fun z=>by subst z;exact q (by simpa using h1)),im,dc _ (Nat.mod_lt _ (by decide))]
theorem Jq (z:String):Str.ofString z=aD (z.toList.map Char.toNat):=Str.ofString_eq_toList z
theorem zj (n:Nat) (h:n< 10 ^ 200):(toString n).toList.map Char.toNat=cF n:=by
 show (String.ofList (Nat.toDigits 10 n)).toList.map Char.toNat=_
 rw [String.toList_ofList]
 exact Yk 200 (n+1) n [] h (yP n) (by decide)
theorem Ka (k:Int) (h:k.natAbs< 10 ^ 100):(toString k).toList.map Char.toNat=AX k:=by
 cases k with
 |ofNat n=>exact zj n (Nat.lt_trans h (by decide+kernel))
 |negSucc n=>
  show ("-" ++toString (n+1)).toList.map Char.toNat=_
  rw [String.toList_append,iQ,zj (n+1) (Nat.lt_trans h (by decide+kernel))]
  rfl
theorem z5 (f:Nat):∀ (n:Nat) (acc:T),(∀ c∈acc,c< 128)->(∀ c∈digs f n acc,c< 128)/\(digs f n acc).length<=f+acc.length:=by
 induction f with
 |zero=>exact fun j acc h=>⟨h,ib _ _⟩
 |succ f ih=>
  intro n acc h
  unfold digs
  cases q:Nat.blt n 10 with
  |true=>exact ⟨b9.mpr ⟨by have:=eW q;omega,h⟩,by rw [Ba];omega⟩
  |false=>
   have b:=Nat.mod_lt n (by decide:10>0)
   obtain ⟨a1,a2⟩:=ih (n / 10) ((48+n % 10)::acc) (b9.mpr ⟨by omega,h⟩)
   exact ⟨a1,ba a2 (by rw [Ba];omega)⟩
theorem Yq (k:Int):dH (AX k):=by
 cases k with
 |ofNat n=>exact ⟨ba (z5 200 n [] nofun).2 (by decide),(z5 200 n [] nofun).1⟩
 |negSucc n=>exact ⟨ba (gu (z5 200 (n+1) [] nofun).2) (by decide),b9.mpr ⟨by decide,(z5 200 (n+1) [] nofun).1⟩⟩
set_option exponentiation.threshold 1000 in
theorem pow_lt:(10 ^ 100:Nat)< 2 ^ 400:=by decide+kernel
theorem log_lt {k:Nat} (h:k< 10 ^ 100):k.log2< 1920:=by
 by_cases z:k=0
 ·rw [z];decide
 ·exact ub ((Nat.log2_lt z).mpr (Nat.lt_trans h pow_lt)) (by decide)
theorem Zw:x7 c (.type "str") jt:=fun j j j j j j j j I r f=>f.int r (fun k t f=>f.gd fun q f=>PySem.P.str_of_int (log_lt (eW q)) (by
 rw [show Str.ofString (toString k)=aD (AX k) by rw [Jq,Ka k (eW q)]]
 exact f.val I (.i (.str _ _ (Yq k))))) Fin.bad
theorem O7 {z:T} {ss:List T}:∀ {n k:Nat},FY z ss n=some k->∃ i,k=n+i/\ss[i]?=some z/\∀ j,j< i->ss[j]?≠some z:=by
 induction ss with
 |nil=>exact nofun
 |cons a ss ih=>
  intro n k e
  unfold FY at e
  cases q:bU a z with
  |true=>rw [q] at e;cases e;exact ⟨0,rfl,aM some (h9.mp q),nofun⟩
  |false=>
   rw [q] at e
   obtain ⟨i,a',b,z'⟩:=ih e
   refine ⟨i+1,by omega,b,fun j hj=>?_⟩
   cases j with
   |zero=>exact fun e=>nomatch q.symm.trans (h9.mpr (bO e))
   |succ j=>exact z' j (rt hj)
noncomputable def isS (x:Str):Value->Bool
 | .str y _=>y==x
 |_=>false
theorem RG:xH c "list" "list.index" a6 JL:=⟨fun q q q q q q I r h=>Gs I r h,fun φ l σ s u v x y Q E I ru rv f=>f.list I ru (fun m xs a A f=>f.str rv (fun z t qz f=>f.strs fun ss e f'=>by
 subst e
 cases e3:FY z ss 0 with
 |none=>rw [e3] at f';exact f'.bad
 |some k=>
  rw [e3] at f'
  obtain ⟨i,e4,e5,e6⟩:=O7 e3
  rw [om] at e4
  subst e4
  obtain ⟨vs,n,ho,rr⟩:=A.ob
  have len:vs.length=ss.length:=by rw [<-rr.length,cD]
  have at_:∀ j (hj:j< vs.toArray.size),∃ tk a,vs.toArray[j]= .str (aD a) tk/\ss[j]?=some a:=fun j hj=>by
   have hs:ss[j]?=some ss[j]:=M9 (len▸hj)
   obtain ⟨v,hv,rv⟩:=rr.get (n:=j) (x:= .str ss[j]) (by rw [FM,hs];rfl)
   have hv:vs.toArray[j]=v:=(gL.mp hv).2
   cases rv with |str _ tk _=>exact ⟨tk,_,hv,hs⟩
  have hi:k< vs.toArray.size:=Nat.lt_of_lt_of_eq (gL.mp e5).1 len.symm
  have hz:vs.toArray.size<=16777216:=(qZ rr A.len).2▸A.len
  refine call_meets F.slot_list_index (pO ho).1 F.entry_list_index (F.args_list_index_2 _ _) (SeqAt.list_indexAt _ _ n none #[] _ (isS (aD z)) k hi (by omega) ?_ fun m hm hmi=>?_) ⟨ho,fun y hy=>?_,f'.val I (.i (.int _ _))⟩
  ·obtain ⟨tk,a,ha,hb⟩:=at_ k hi
   rw [e5] at hb;cases hb
   rw [ha];exact ES _
  ·obtain ⟨tk,a,ha,hb⟩:=at_ m hm
   rw [ha]
   exact (E4 a z).symm.trans (CT fun e=>e6 m hmi (e▸hb))
  ·obtain ⟨j,hj,hy⟩:=Array.mem_iff_getElem.mp hy
   obtain ⟨tk,a,ha,hb⟩:=at_ j hj
   rw [<-hy,ha]
   exact SeqAt.EqAt.str_str _ _ _ _) Fin.bad) Fin.bad⟩
theorem LU (W:Wr c.g c.base) (I:ay c φ l σ s.heap) (r:aB c.g.D φ s.heap u x) (h:TF u σ=true):∃ a kvs,x= .ref a/\L8 c s.heap a kvs:=
 VA (F:=(·=true)) (C:=fun x=>∃ a kvs,x= .ref a/\L8 c s.heap a kvs) h r (fun n hn j=>⟨_,_,rfl,W.dic I.stay hn⟩) fun h=>E7 (F:=(·=true)) (C:=fun x=>∃ a kvs,x= .ref a/\L8 c s.heap a kvs) h I r (fun j j j A j=>⟨_,_,rfl,A.dic W I⟩) nofun
theorem My {kvs:List (Mine.I×Mine.I)} {zt:T} {dv:V} (I:ay c φ l σ s.heap) {es:List (Str×Value)} (he:cW c.g.D s.heap kvs es) (rd:aB c.g.D φ s.heap dv z) (f:bJ c φ l s (Jh dv kvs zt σ) Q E):Q ((valueAt es (aD zt)).getD z) {s with toks:=s.toks+1}:=by
 unfold Jh at f
 rcases he.find (z:=zt) with ⟨x,y,e1,e2,r⟩ |⟨e1,e2⟩
 ·rw [e1] at f;rw [e2];exact f.val I (.i r)
 ·rw [e1] at f;rw [e2];exact f.val I rd
theorem MI (W:Wr c.g c.base) (I:ay c φ l σ s.heap) {dv:V} (ru:aB c.g.D φ s.heap u x) (rv:aB c.g.D φ s.heap v y) (f:bJ c φ l s (T7 u v dv σ) Q E) {P:Value->Value->Prop}
  (k:∀ a kvs zt t es,(a==sysModules)=false->s.heap.DictOf (strKind c.g.p c.g.w) a es->cW c.g.D s.heap kvs es->bJ c φ l s (Jh dv kvs zt σ) Q E->P (.ref a) (.str (aD zt) t)):P x y:=
 f.str rv (fun zt t q f=>f.fd ru (fun n hn f=>let D:=W.dic I.stay hn;let ⟨es,a,b⟩:=D.ob;k _ _ _ _ es D.ne a b f) fun f=>f.dict I ru (fun m kvs a A f=>let ⟨es,h1,h2⟩:=A.ob;k _ _ _ _ es (A.ne1 W I) h1 h2 f) Fin.bad) Fin.bad
theorem Pf (W:Wr c.g c.base) (hb:c8 e=true) (hline:(ap.endLine==pos.line)=true) (ns:bI e1=true) (h1:aK c e o) (h2:aK c e1 k):aK c (.Call (.Attribute e "get" ap) [e1] [] pos) (UL o k):=fun j j j j j j I z=>
 have hl:fV c [e1] [k]:= .cons ns h2 .nil
 H7 (fX hb) (pZ hl (show 1< 29 by decide)) hline rfl (h1 _ _ _ _ _ _ I (z.bind fun u σ₁ φ₁ s₁ x j I₁ ru z=>z.gd fun q z=>by
  obtain ⟨a,kvs,rfl,D⟩:=LU W I₁ ru q
  obtain ⟨es,hm,_⟩:=D.ob
  refine ⟨"dict", "dict.get",F.plainAttrs_dict,F.slot_dict_get,F.type_dict_get,hm.typeIs,hm.mapOf.noDict,sF (first:=[_]) (.inl ⟨_,rfl⟩) hl (kg ns h2 I₁ z fun v σ₂ φ₂ s₂ y st₂ I₂ rv z=>?_)⟩
  exact MI (P:=fun x y=>c.wp (PySem.call (.builtin "dict.get") [x,y]) _ _ s₂) W I₂ (ru.step st₂.pre (I₁.tk st₂)) rv z fun a kvs zt t es ne hm he f=>
   call_meetsIn F.slot_dict_get hm.typeIs F.entry_dict_get (F.args_dict_get_2 _ _) (meets_dict_get (strKind c.g.p c.g.w) a (strKind_is _ _ _ t) ne) ⟨_,hm.mapOf,My I₂ he (.i .none) f⟩))
theorem Tm (W:Wr c.g c.base) (hb:c8 e=true) (hline:(ap.endLine==pos.line)=true) (ns:bI e1=true) (ns2:bI e2=true) (h1:aK c e o) (h2:aK c e1 k) (h3:aK c e2 d):aK c (.Call (.Attribute e "get" ap) [e1,e2] [] pos) (jm o k d):=fun j j j j j j I z=>
 have hl:fV c [e1,e2] [k,d]:= .cons ns h2 (.cons ns2 h3 .nil)
 H7 (fX hb) (pZ hl (show 2< 29 by decide)) hline rfl (h1 _ _ _ _ _ _ I (z.bind fun u σ₁ φ₁ s₁ x j I₁ ru z=>z.gd fun q z=>by
  obtain ⟨a,kvs,rfl,D⟩:=LU W I₁ ru q
  obtain ⟨es,hm,_⟩:=D.ob
  refine ⟨"dict", "dict.get",F.plainAttrs_dict,F.slot_dict_get,F.type_dict_get,hm.typeIs,hm.mapOf.noDict,sF (first:=[_]) (.inl ⟨_,rfl⟩) hl (spliced_more (h2 _ _ _ _ _ _ I₁ (z.bind fun v σ₂ φ₂ s₂ y st₂ I₂ rv z=>kg ns2 h3 I₂ z fun dv σ₃ φ₃ s₃ y' st₃ I₃ rd z=>?_)) (eO ns))⟩
  exact MI (P:=fun x y=>c.wp (PySem.call (.builtin "dict.get") [x,y,y']) _ _ s₃) W I₃ (ru.step (st₂.trans st₃).pre (I₁.tk (st₂.trans st₃))) (rv.step st₃.pre (I₂.tk st₃)) z fun a kvs zt t es ne hm he f=>
   call_meetsIn F.slot_dict_get hm.typeIs F.entry_dict_get (F.args_dict_get_3 _ _ _) (meets_dict_get_default (strKind c.g.p c.g.w) a (strKind_is _ _ _ t) ne _) ⟨_,hm.mapOf,My I₃ he rd f⟩))
noncomputable def BV (e:PySem.Expr):Bool:=!Nat.beq e.ctorIdx 26
theorem YJ {value slice:PySem.Expr} {A:Around} {env:Env} {p:Program} {w:World} (ns:BV slice=true)
  (h:wpAny (model p w) A (eval value env) (fun o s₁=>wpAny (model p w) A (eval slice env) (fun i s₂=>SubscriptOn (model p w) A o i Q E s₂) E s₁) E s):wpAny (model p w) A (eval (.Subscript value slice pos) env) Q E s:=by
 have hsub:∀ o i,subscripted slice false o i=operate [o,i] (getItem o i):=fun o i=>by cases slice<;>first |rfl |cases ns
 rw [eval_Subscript]
 refine ax (cQ h (fun o s₁ h₁=>ax (og (cQ h₁ (fun i s₂ h₂=>ax (lB ?_)) fun j j x=>x)))
  fun j j x=>x)
 obtain ⟨T,id,hl,hT,hg⟩:=h₂
 refine ax ?_
 rw [getitemInPython_of_ne hT.not_modules]
 refine ax (wpAny_specialOf hT hl ?_)
 have fin:wpAny (model p w) A (operate [o,i] (getItem o i)) (fun r s₃=>wpAny (model p w) A (letTemporaryGo value o r>>=fun j=>pure r) Q E s₃) E s₂:=
  wpAny_operating (cQ hg (fun r s₃ h₃=>ax (HZ (aY h₃))) fun j j x=>x)
 rw [<-hsub] at fin
 exact aY (ax fin)
theorem Fh {α:Type} {xs:List α} {k:Int} {x:α} (h:Ee xs k=some x) (hl:xs.length<=aJ):∃ j,seqIndex? k xs.length=some j/\xs[j]?=some x/\ -(2 ^ 63)<=k/\k< 2 ^ 63:=by
 have hl:xs.length<=16777216:=hl
 cases k with
 |ofNat k=>
  have lt:=(gL.mp h).1
  exact ⟨k,PySem.StrLaws.seqIndex_nonneg (x9 k) (by show (k:Int)< _;omega),h,by show _<=(k:Int);omega,by show (k:Int)< _;omega⟩
 |negSucc k=>
  have h:(match Nat.blt k xs.length with |true=>xs[xs.length - (k+1)]? |false=>none)=some x:=h
  cases q:Nat.blt k xs.length with
  |false=>rw [q] at h;cases h
  |true=>
   rw [q] at h
   have q:=eW q
   refine ⟨xs.length - (k+1),?_,h,by omega,by omega⟩
   rw [PySem.StrLaws.seqIndex_neg (by omega) (by omega)]
   congr 1
   omega
theorem MG {xi:Option Mine.I} (f:bJ c φ l s (tL xi σ) Q E) {P:Prop} (k:∀ x,xi=some x->bJ c φ l s (.ok (.i x) σ) Q E->P):P:=by
 cases xi with
 |none=>exact f.bad
 |some x=>exact k x rfl f
theorem gm {a:Addr} {items:Array Value} (h:IsTup s.heap a items):s.TypeIs (.ref a) "tuple" :=let ⟨o,ho,hc,_⟩:=h;⟨o,ho,hc⟩
theorem Pz {a:Addr} {vs:List Value} {n:Nat} {k:Int} {t:Tok} {j:Nat} (ho:s.heap.get? a=some (listOf vs.toArray n)) (hj:seqIndex? k vs.length=some j) (hx:vs.toArray[j]?=some x) (lo: -(2 ^ 63)<=k) (hi:k< 2 ^ 63) (h:Q x s):c.wp (getItem (.ref a) (.int k t)) Q E s:=by
 unfold seqIndex? at hj
 by_cases h0:0<=k
 ·have:j=k.toNat:=by
   simp [show ¬ k< 0 by omega,h0] at hj
   exact hj.2.symm
  exact wpAny_getItem_list (dy ho) h0 hi (this▸hx) h
 ·simp [show k< 0 by omega] at hj
  exact wpAny_getItem_list_neg (dy ho) (by omega) (by rw [e7];omega) lo (by rw [e7,hj.2];exact hx) h
theorem JI (I:ay c φ l σ s.heap) {xs:List Mine.I} {vs:List Value} {n:Nat} {a:Addr} {k:Int} {t:Tok} (ho:s.heap.get? a=some (listOf vs.toArray n)) (rr:IReps c.g.D s.heap xs vs) (hl:xs.length<=aJ) (f:bJ c φ l s (tL (Ee xs k) σ) Q E):SubscriptOn c.g.M c.A (.ref a) (.int k t) Q E s:=
 MG f fun x e f=>by
  obtain ⟨j,h1,h2,h3,h4⟩:=Fh e hl
  obtain ⟨v,h5,h6⟩:=rr.get h2
  exact ⟨"list",_,F.slot_list_getitem.lookup,(pO ho).1,Pz ho (rr.length▸h1) (vp.trans h5) h3 h4 (f.here I (.i h6))⟩
theorem Jn (I:ay c φ l σ s.heap) {kvs:List (Mine.I×Mine.I)} {a:Addr} {zt:T} {t:Tok} (D:∃ es,s.heap.DictOf (strKind c.g.p c.g.w) a es/\cW c.g.D s.heap kvs es) (f:bJ c φ l s (tL (fQ kvs (.str zt)) σ) Q E):SubscriptOn c.g.M c.A (.ref a) (.str (aD zt) t) Q E s:=by
 obtain ⟨es,hm,he⟩:=D
 rcases he.find (z:=zt) with ⟨x,y,e1,e2,r⟩ |⟨e1,_⟩
 ·rw [e1] at f
  exact ⟨"dict",_,F.slot_dict_getitem.lookup,hm.typeIs,wpAny_getItem_of (knd:=strKind c.g.p c.g.w) (strKind_is _ _ _ t) hm.mapOf e2 (Fin.val f I (.i r))⟩
 ·rw [e1] at f;exact Fin.bad f
def ItOk (c:aS) (f:V->V->ai->RE V):Prop:=∀ φ l σ s u v x y Q E,ay c φ l σ s.heap->aB c.g.D φ s.heap u x->aB c.g.D φ s.heap v y->bJ c φ l s (f u v σ) Q E->SubscriptOn c.g.M c.A x y Q E s
theorem Yx (W:Wr c.g c.base):ItOk c ag:=fun φ l σ s u v x y Q E I ru rv f=>by
 have un:c.A.in1.units< cLine:=by have:=I.st.units;show c.A.units+1< cLine;omega
 refine f.int rv (fun k t f=>f.tup ru (fun xs a vs a1 a2 a3 f=>MG f fun x e f=>?g1) fun f=>f.str ru (fun z t' q f=>?g2) fun f=>f.tk ru (fun k' z a o o o o o o a1 q1 q2 f=>?g3) fun f=>f.list I ru (fun m xs a A f=>?g4) fun f=>f.sub I ru (fun m pre rest kn fam tab a dx tok kno tg tgd q R f=>?g5) Fin.bad)
  fun f=>f.str rv (fun z t q f=>f.fd ru (fun n hn f=>Jn I (W.dic I.stay hn).ob f) fun f=>f.dict I ru (fun m kvs a A f=>Jn I A.ob f) Fin.bad) fun f=>f.tup rv (fun xs a vs a1 a2 a3 f=>f.strs fun ss e f'=>?g6) Fin.bad
 case g1=>
  obtain ⟨j,h1,h2,h3,h4⟩:=Fh e a2
  obtain ⟨v,h5,h6⟩:=a3.get h2
  exact ⟨"tuple",_,ww.lookup,gm a1,getItem_tuple a1 h3 h4 (by rw [e7,<-a3.length];exact h1) (vp.trans h5) (f.here I (.i h6))⟩
 case g2=>
  cases e:Ee z k with
  |none=>rw [e] at f;exact f.bad
  |some ch=>
   rw [e] at f
   obtain ⟨j,h1,h2,h3,h4⟩:=Fh e q.1
   exact ⟨"str",_,F.slot_str_getitem.lookup,typeIs_str _ _ _,PyProof.Rows.getItem_str (c:=ch) (by simp;omega) (by rw [dz,h1];exact vp.trans h2) (Fin.val f I (.i (.str [ch] _ (tok1 (q.2 _ (yF h2))))))⟩
 case g3=>
  cases k with
  |negSucc=>exact Fin.bad f
  |ofNat n=>cases n with
   |zero=>exact ⟨"tuple",_,ww.lookup,gm a1,getItem_tuple a1 (j:=0) (by decide) (by decide) rfl rfl (Fin.here f I (.i (.str _ _ q1)))⟩
   |succ n=>cases n with
    |zero=>exact ⟨"tuple",_,ww.lookup,gm a1,getItem_tuple a1 (j:=1) (by decide) (by decide) rfl rfl (Fin.here f I (.i (.str _ _ q2)))⟩
    |succ n=>exact Fin.bad f
 case g4=>
  obtain ⟨vs,n,ho,rr⟩:=A.ob
  exact JI I ho rr A.len f
 case g5=>
  obtain ⟨ts,n,ho,rr,hl⟩:=R.toks
  exact JI I ho rr hl f
 case g6=>
  subst e
  refine f'.sub I ru (fun m pre rest kn fam tab a' dx tok kno tg tgd q R f=>?_) Fin.bad
  obtain ⟨es,hd,hk,_⟩:=R.known
  rcases hk.find (ss:=ss) with ⟨x,p,e1,e2,r⟩ |⟨e1,_⟩
  ·rw [e1] at f
   exact ⟨"dict",_,F.slot_dict_getitem.lookup,hd.typeIs,wpAny_getItem_heap (knd:=tupleKind (strKind c.g.p c.g.w)) un (Kv a1 a3) hd e2 (Fin.val f I (.i r))⟩
  ·rw [e1] at f;exact Fin.bad f
theorem S7 {f:V->V->ai->RE V} (ho:ItOk c f) (ns:BV e2=true) (h1:aK c e1 a) (h2:aK c e2 b):aK c (.Subscript e1 e2 pos) (af f a b):=fun j j j j j j I z=>
 YJ ns (h1 _ _ _ _ _ _ I (z.bind fun j j j j j j I₁ ru z=>h2 _ _ _ _ _ _ I₁ (z.bind fun j j j j j st₂ I₂ rv z=>ho _ _ _ _ _ _ _ _ _ _ I₂ (ru.step st₂.pre (I₁.tk st₂)) rv z)))
end
end
section
theorem qI (n:Nat) (k:Int):U9 n k=clipAt n k:=by
 cases k with
 |ofNat k=>exact (clipAt_nat n k).symm
 |negSucc k=>exact (clipAt_neg n (k+1) (gu (dI k))).symm
theorem Wu (n:Nat) (k:Int):clipAt n k<=n:=by
 have h:=clipAt_cast n k
 omega
noncomputable def zx (n:Nat) (o:Option Int):Nat:=o.elim 0 (clipAt n)
noncomputable def EA (n:Nat) (o:Option Int):Nat:=o.elim n (clipAt n)
theorem hi_le (n:Nat) (o:Option Int):EA n o<=n:=by
 cases o with
 |none=>exact cR _
 |some k=>exact Wu n k
theorem qk {α:Type} (xs:List α) (lo hi:Option Int):cut xs lo hi=(xs.drop (zx xs.length lo)).take (EA xs.length hi - zx xs.length lo):=by
 unfold cut zx EA
 set_option tactic.hygienic true in split
 ·exact (List.take_of_length_le (cR _)).symm
 ·rename_i a
  rw [qI]
  exact (List.take_of_length_le (by rw [Dd];exact cR _)).symm
 ·rename_i b
  rw [show (some (Int.ofNat b)).elim xs.length (clipAt xs.length)=min b xs.length from (qI ..).symm]
  exact List.take_eq_take_iff.mpr (by show min b xs.length=min (min b xs.length - 0) xs.length;omega)
 ·rw [show (some (Int.negSucc _)).elim xs.length (clipAt xs.length)=_ from (qI ..).symm];rfl
 ·rw [qI,qI,List.drop_take];rfl
theorem pH {α:Type} (xs:List α) (lo hi:Option Int):(cut xs lo hi).length<=xs.length/\∀ x∈cut xs lo hi,x∈xs:=by
 rw [qk]
 exact ⟨ba (List.length_take_le' _ _) (by rw [Dd];exact Nat.sub_le _ _),fun x m=>List.mem_of_mem_drop (List.mem_of_mem_take m)⟩
theorem Mg {α:Type} {xs:List α} {lo hi:Option Int} (h:EA xs.length hi - zx xs.length lo=xs.length):cut xs lo hi=xs:=by
 have:=hi_le xs.length hi
 rw [qk,h]
 by_cases z:zx xs.length lo=0
 ·rw [z,List.drop_zero,List.take_length]
 ·rw [List.length_eq_zero_iff.mp (show xs.length=0 by omega)];rfl
theorem IReps.cut {D:fj} {h:Heap} {xs:List I} {vs:List Value} (r:IReps D h xs vs) (lo hi:Option Int):IReps D h (cut xs lo hi) (Mine.cut vs lo hi):=by
 rw [qk,qk,r.length]
 exact (r.drop _).take _
theorem Tu (vs:List Value) (lo hi:Option Int):slicePick vs.toArray lo hi none=(cut vs lo hi).toArray:=by
 rw [slicePick_plain,qk,e7];rfl
theorem Yy (lo hi:Option Int) (n:Nat):Builtin.Str.strSliceIndices lo hi 1 n=sliceRange ((zx n lo:Nat):Int) ((EA n hi:Nat):Int) 1:=by
 cases lo<;>cases hi<;>simp [Builtin.Str.strSliceIndices,clipAt_cast,zx,EA]
theorem Sb {z:T} {t:Tok} {l u:Option (Int×Tok)} {s:Shared} {Q:Value->Shared->Prop} (hl:z.length<=aJ) (h:∀ t k,Q (.str (aD (cut z (l.map (·.1)) (u.map (·.1)))) t) {s with toks:=k}):(sliceMade (aD z) t l u none).post Q s:=by
 have e1:slicePicked (aD z) l u none=sliceRange ((zx z.length (l.map (·.1)):Nat):Int) ((EA z.length (u.map (·.1)):Nat):Int) 1:=by
  unfold slicePicked
  rw [dz]
  exact Yy _ _ _
 have e2:((slicePicked (aD z) l u none).filterMap ((aD z).cps[·]?))=cut z (l.map (·.1)) (u.map (·.1)):=by
  rw [e1,sliceRange_one,pick_run,qk]
 unfold sliceMade
 set_option tactic.hygienic true in split
 ·rename_i q
  rw [e1,sliceRange_one,cD,List.length_range,dz] at q
  rw [Mg (by simpa using q)] at h
  exact h t s.toks
 ·rw [e2]
  exact ⟨by show (aD _).length<=_;rw [dz,<-cK];exact ba (pH _ _ _).1 hl,h _ _⟩
theorem Q8 (lo hi:Option Int) (n:Nat):Builtin.Slice.sliceAdjust lo hi 1 (n:Int)=(((zx n lo:Nat):Int),((EA n hi:Nat):Int)):=by
 unfold Builtin.Slice.sliceAdjust
 have key:∀ v:Int,(if v< 0 then max (v+(n:Int)) 0 else min v (n:Int))=((clipAt n v:Nat):Int):=fun v=>by
  rw [clipAt_cast]
  split<;>omega
 simp only [show ¬ ((1:Int)< 0) by decide,if_false,key]
 cases lo<;>cases hi<;>rfl
theorem PY (a b:Nat):Builtin.Slice.slicePlaces (a:Int) (b:Int) 1=b - a:=by
 unfold Builtin.Slice.slicePlaces
 simp only [show (1:Int)>0 by omega,if_true,Int.ediv_one]
 split<;>omega
theorem Tc (vs:List Value) (a b:Nat):((List.range (b - a)).filterMap fun (k:Nat)=>vs.toArray[((a:Int)+(k:Int)*1).toNat]?)=(vs.drop a).take (b - a):=by
 have e:(fun (k:Nat)=>vs.toArray[((a:Int)+(k:Int)*1).toNat]?)=fun k=>vs.toArray[a+k]?:=funext fun k=>by rw [show ((a:Int)+(k:Int)*1).toNat=a+k by omega]
 rw [e]
 have:=pick_run vs.toArray a (b - a)
 rw [List.filterMap_map] at this
 exact this
section
variable {α γ:Type} {R:a9->Heap->α->γ->Prop} {c:aS} {φ φ₁:a9} {l:av} {σ σ₁:ai} {s s₁:Shared} {h h':Heap} {e e' e1 e2:PySem.Expr} {a a' b d k:Ex} {pos p p2:Pos} {u v o va vb:V} {x y z vl vu vk:Value} {Q E:Value->Shared->Prop} {lo hi st:Option Int}
theorem Cc {A:Around} {Q:Option Int->Shared->Prop} (p:IsPart x lo) (h:Q lo s):wpAny c.g.M A (Builtin.Slice.slicePartIndex x) Q E s:=by
 cases p with
 |none=>exact slicePart_none h
 |int i t=>exact slicePart_int h
noncomputable def Qm (lo hi st:Option Int) (n:Nat):Int×Int×Nat:=((Builtin.Slice.sliceAdjust lo hi (st.getD 1) n).1,st.getD 1,Builtin.Slice.slicePlaces (Builtin.Slice.sliceAdjust lo hi (st.getD 1) n).1 (Builtin.Slice.sliceAdjust lo hi (st.getD 1) n).2 (st.getD 1))
theorem Hv {A:Around} {sl:Addr} {n:Nat} {r:Int×Int×Nat} {Q:Int×Int×Nat->Shared->Prop} (hr:Qm lo hi st n=r) (hs:s.heap.IsSliceOf sl vl vu vk) (pl:IsPart vl lo) (pu:IsPart vu hi) (pk:IsPart vk st) (h0:(st.getD 1==0)=false) (h:Q r s):
  wpAny c.g.M A (Builtin.Slice.sliceApplied (.ref sl) (pure (n:Int))) Q E s:=by
 obtain ⟨os,hos,hcs,hds⟩:=id hs
 subst hr
 unfold Builtin.Slice.sliceApplied Builtin.Slice.sliceFields
 refine ax (ax (f8 hos hds (x:=vl) rfl (ax (f8 hos hds (x:=vu) rfl (ax (f8 hos hds (x:=vk) rfl (aY ?_)))))))
 refine ax (Cc pk ?_)
 show wpAny _ _ (if (st.getD 1==0)=true then _ else _) _ _ s
 rw [b7 (by rw [h0];simp)]
 exact ax (Cc pl (ax (Cc pu (ax (aY (aY h))))))
theorem yv {t sl:Addr} {items zs:List Value} {r1 r2:Int} {r3:Nat} (hr:Qm lo hi st items.length=(r1,r2,r3)) (ht:IsTup s.heap t items.toArray) (hs:s.heap.IsSliceOf sl vl vu vk) (pl:IsPart vl lo) (pu:IsPart vu hi) (pk:IsPart vk st) (h0:(st.getD 1==0)=false)
  (hz:((List.range r3).filterMap fun (k:Nat)=>items.toArray[(r1+(k:Int)*r2).toNat]?)=zs) (hw:(r1==0 && r2==1 && r3==items.length)=true->zs=items)
  (hsz:zs.length<=sizeLine) (h1:zs=items->Q (.ref t) s) (h2:Q (.ref s.heap.objs.size) {s with heap:=s.heap.push {cls:= .type "tuple",data:= .seq zs.toArray}}):c.wp (getItem (.ref t) (.ref sl)) Q E s:=by
 obtain ⟨os,hos,hcs,hds⟩:=id hs
 have hTs:s.TypeIs (.ref sl) "slice" :=⟨os,hos,hcs⟩
 unfold getItem
 try with_reducible refine og ?_
 first |refine ax (aY ?_) |skip
 refine ax (wpAny_sequenceKey (gm ht) (by decide) ?_)
 refine ax (Ef (name:=Str.ofString "__getitem__") (gm ht) ww
  (B8 ww (gm ht) F.entry_tuple_getitem ?_ (F.args_tuple_getitem_2 _ _)))
 show wpAny _ _ (Builtin.Tuple.tupleItemsOf (.ref t)>>=_) _ _ s
 refine ax (tupleItemsOf_ ht ?_)
 refine ax (wpAny_typeOf hTs ?_)
 rw [cq (by decide)]
 rw [e7]
 refine ax (Hv hr hs pl pu pk h0 ?_)
 show wpAny _ _ (if (_ && _ && _)=true then _ else _) _ _ s
 by_cases hc:(r1==0 && r2==1 && r3==items.length)=true
 ·rw [cq hc]
  refine ax (m:=Builtin.Tuple.tupleIsExact _) ?_
  unfold Builtin.Tuple.tupleIsExact
  refine ax (wpAny_typeOf (gm ht) (aY ?_))
  rw [cq (by decide)]
  exact ax (wpAny_rule (ax (aY (aY ⟨_,rfl,aY (h1 (hw hc))⟩))))
 ·rw [b7 hc,hz]
  first
   |exact ax (m:=Builtin.Tuple.tupleExact _) (zn (aY ⟨_,rfl,aY h2⟩) hsz)
   |exact ax (ax (m:=Builtin.Tuple.tupleExact _) (zn (aY (aY ⟨_,rfl,aY h2⟩)) hsz))
   |exact ax (ax (m:=Builtin.Tuple.tupleExact _) (zn (aY ⟨_,rfl,aY h2⟩) hsz))
theorem Mt {t sl:Addr} {items:List Value} (ht:IsTup s.heap t items.toArray) (hs:s.heap.IsSliceOf sl vl vu .none) (pl:IsPart vl lo) (pu:IsPart vu hi) (hl:items.length<=aJ)
  (h1:cut items lo hi=items->Q (.ref t) s) (h2:Q (.ref s.heap.objs.size) {s with heap:=s.heap.push {cls:= .type "tuple",data:= .seq (cut items lo hi).toArray}}):c.wp (getItem (.ref t) (.ref sl)) Q E s:=
 yv (st:=none) (r1:=((zx items.length lo:Nat):Int)) (r2:=1) (r3:=EA items.length hi - zx items.length lo) (by unfold Qm;rw [show (none:Option Int).getD 1=1 from rfl,Q8,PY]) ht hs pl pu .none rfl ((Tc ..).trans (qk ..).symm)
  (fun h=>Mg (by simp only [Bool.and_eq_true,beq_iff_eq] at h;exact h.2)) (by rw [<-cK];exact ba (pH _ _ _).1 hl) h1 h2
theorem zk {step:Option PySem.Expr} {lower upper:Option PySem.Expr}
  (h:c.wp (eval e1 c.env) (fun o s₁=>c.wp (evalPart lower c.env) (fun vl s₂=>c.wp (evalPart upper c.env) (fun vu s₃=>c.wp (evalPart step c.env) (fun vk s₄=>
   SubscriptOn c.g.M c.A o (.ref s₄.heap.objs.size) Q E {s₄ with heap:=s₄.heap.push {cls:= .type "slice",data:= .fields #[vl,vu,vk]}}) E s₃) E s₂) E s₁) E s):
  c.wp (eval (.Subscript e1 (.Slice lower upper step p) pos) c.env) Q E s:=by
 rw [aS.wp,eval_Subscript]
 refine ax (cQ h (fun o s₁ h₁=>ax (og (wpAny_Slice (cQ h₁ (fun vl s₂ h₂=>cQ h₂ (fun vu s₃ h₃=>cQ h₃ (fun vk s₄ h₄=>ax (lB ?_)) fun j j x=>x) fun j j x=>x) fun j j x=>x)))) fun j j x=>x)
 obtain ⟨T,id,hl,hT,hg⟩:=h₄
 refine ax ?_
 rw [getitemInPython_of_ne hT.not_modules]
 refine ax (wpAny_specialOf hT hl ?_)
 refine aY (ax ?_)
 cases step<;>exact wpAny_operating (cQ hg (fun r s₃ h₃=>ax (HZ (aY h₃))) fun j j x=>x)
inductive mJ (c:aS):Option PySem.Expr->Ex->Prop
 |none:mJ c none (aN .none)
 |some {e:PySem.Expr} {a:Ex}:aK c e a->mJ c (some e) a
theorem mJ.go {e:Option PySem.Expr} (he:mJ c e a):∀ φ l σ s Q E,ay c φ l σ s.heap->bJ c φ l s (a l σ) Q E->c.wp (evalPart e c.env) Q E s:=by
 cases he with
 |none=>exact fun j j j j j j I f=>aY (f.here I (.i .none))
 |some h=>exact h
theorem LK (r:aB c.g.D φ h v y) (e:Jm v=some lo):IsPart y lo/\∃ p:Option (Int×Tok),y=partValue p/\p.map (·.1)=lo:=by
 cases v with
 |i i=>cases i with
  |none=>cases e;exact r.iE.noneE ⟨.none,none,rfl,rfl⟩
  |int k=>cases e;exact r.iE.intE fun t=>⟨.int _ t,some (k,t),rfl,rfl⟩
  |_=>cases e
 |_=>cases e
theorem Kd (I:ay c φ l σ s.heap) (x y z:Value) (t:Nat):fR c (fun j=>False) s.heap (s.heap.push {cls:= .type "slice",data:= .fields #[x,y,z]})/\ay c φ l σ (s.heap.push {cls:= .type "slice",data:= .fields #[x,y,z]})/\aL c φ s φ {s with heap:=s.heap.push {cls:= .type "slice",data:= .fields #[x,y,z]},toks:=t}/\
  (s.heap.push {cls:= .type "slice",data:= .fields #[x,y,z]}).IsSliceOf s.heap.objs.size x y z:=
 have g:fR c (fun j=>False) s.heap (s.heap.push {cls:= .type "slice",data:= .fields #[x,y,z]}):=dr _ _
 ⟨g,I.mono g,aL.to I g nofun (e8 _) fun j=> .inl,Heap.IsSliceOf.new ..⟩
theorem Xs (D:fj) (h:Heap) (lv:List (Int×Tok)):IReps D h (lv.map fun p=>I.int p.1) (lv.map fun p=>Value.int p.1 p.2):=by
 induction lv with
 |nil=>exact .nil
 |cons p r ih=>exact .cons (.int _ _) ih
theorem Z8 (W:Wr c.g c.base) (I:ay c φ l σ s.heap) (ro:aB c.g.D φ s.heap o x) (ra:aB c.g.D φ s.heap va vl) (rb:aB c.g.D φ s.heap vb vu) (f:bJ c φ l s (Nd o va vb σ) Q E):
  SubscriptOn c.g.M c.A x (.ref s.heap.objs.size) Q E {s with heap:=s.heap.push {cls:= .type "slice",data:= .fields #[vl,vu,.none]}}:=by
 obtain ⟨g,I',st,hsl⟩:=Kd I vl vu .none s.toks
 have tk:=g.tk nofun I.nsx
 have lst:∀ {xs:List Mine.I} {vs:List Value} {a:Addr},(s.heap.push {cls:= .type "slice",data:= .fields #[vl,vu,.none]}).IsList a vs.toArray->IReps c.g.D (s.heap.push {cls:= .type "slice",data:= .fields #[vl,vu,.none]}) xs vs->xs.length<=aJ->
   ∀ {lo hi},IsPart vl lo->IsPart vu hi->bJ c φ l s (iI σ (cut xs lo hi)) Q E->SubscriptOn c.g.M c.A (.ref a) (.ref s.heap.objs.size) Q E {s with heap:=s.heap.push {cls:= .type "slice",data:= .fields #[vl,vu,.none]}}:=fun {xs vs a} ho rr hl {lo hi} pl pu f=>
  ⟨"list",_,F.slot_list_getitem.lookup,(let ⟨o,h1,h2,_⟩:=ho;⟨o,h1,h2⟩),wpAny_getItem_list_slice ho hsl pl pu .none (by simp) (by
   rw [Tu]
   exact (f.step st).newList (n:=0) (t:=s.toks) I' (dr _ _) (a0 _) (fB _ rfl) (rr.cut lo hi) (ba (pH _ _ _).1 hl)) (by rw [e7,<-rr.length,<-cK];exact hl)⟩
 unfold Nd at f
 cases e1:Jm va with
 |none=>rw [e1] at f;exact f.bad
 |some lo=>
  cases e2:Jm vb with
  |none=>rw [e1,e2] at f;exact f.bad
  |some hi=>
   rw [e1,e2] at f
   obtain ⟨pl,p1,q1,q2⟩:=LK ra e1
   obtain ⟨pu,p2,q3,q4⟩:=LK rb e2
   refine Fin.str f ro (fun z t q f=>?g1) fun f=>f.tup ro (fun xs a vs a1 a2 a3 f=>?g2) fun f=>f.tk ro (fun k' z a j j j j j j a1 b1 b2 f=>?g3) fun f=>f.list I ro (fun m xs a A f=>?g4) fun f=>f.fl ro (fun f=>?g5) Fin.bad
   case g1=>
    refine ⟨"str",_,F.slot_str_getitem.lookup,typeIs_str _ _ _,wpAny_getItem_str_slice (l:=p1) (u:=p2) (st:=none) ⟨_,fB _ rfl,rfl,by rw [q1,q3];rfl⟩ rfl (Sb q.1 fun t' k'=>?_)⟩
    rw [q2,q4]
    exact (f.step st).val I' (.i (.str _ _ ⟨ba (pH _ _ _).1 q.1,fun c m=>q.2 c ((pH _ _ _).2 c m)⟩))
   case g2=>
    have rc:=(a3.keep tk).cut lo hi
    have hc:=ba (pH xs lo hi).1 a2
    exact ⟨"tuple",_,ww.lookup,gm (tk _ _ a1),Mt (tk _ _ a1) hsl pl pu (a3.length▸a2) (fun e=>(f.step st).here I' (.i (.tup (tk _ _ a1) hc (e▸rc)))) ((f.step st).newTup (t:=s.toks) I' (dr _ _) (gK _) rc hc)⟩
   case g3=>
    refine ⟨"tuple",_,ww.lookup,gm (tk _ _ a1),?_⟩
    refine f.gd fun q f=>?_
    obtain ⟨rfl,rfl⟩:=cw q
    exact Mt (items:=[_,_,_,_]) (tk _ _ a1) hsl pl pu (by show 4<=aJ;decide) (fun e=>absurd (aM List.length e) (by show ¬ (2=4);decide)) ((Fin.step st f).newTup (t:=s.toks) I' (dr _ _) (gK _) (.cons (.str _ _ b1) (.cons (.str _ _ b2) .nil)) (by show 2<=aJ;decide))
   case g4=>
    obtain ⟨vs,n,ho,rr⟩:=A.ob
    exact lst (dy (fc _ _ _ _ ho)) (rr.keep tk) A.len pl pu f
   case g5=>exact lst (W.fl.at fun o e=>fc _ _ _ _ (I.stay _ _ e)) (Xs ..) (by rw [cD];exact W.fll) pl pu f
theorem WT (W:Wr c.g c.base) {lower upper:Option PySem.Expr} (h1:aK c e1 a) (h2:mJ c lower b) (h3:mJ c upper d):aK c (.Subscript e1 (.Slice lower upper none p) pos) (bF a b d):=fun j j j j j j I f=>
 zk (h1 _ _ _ _ _ _ I (f.bind fun j j j j j j I₁ ru f=>h2.go _ _ _ _ _ _ I₁ (f.bind fun j j j j j st₂ I₂ rv f=>h3.go _ _ _ _ _ _ I₂ (f.bind fun j j j j j st₃ I₃ rw f=>
  aY (Z8 W I₃ (ru.step (st₂.trans st₃).pre (I₁.tk (st₂.trans st₃))) (rv.step st₃.pre (I₂.tk st₃)) rw f)))))
theorem XQ {step:PySem.Expr} (h1:aK c e1 a) (h2:aK c step (un ey (aN (.int (.ofNat 1))))):aK c (.Subscript e1 (.Slice none none (some step) p) pos) (un OY a):=fun j j j j j j I f=>
 zk (h1 _ _ _ _ _ _ I (f.bind fun u j j s₁ x j I₁ ru f=>aY (aY (h2 _ _ _ _ _ _ I₁ fun φ₂ y s₂ st₂ I₂ rv=>by
  refine rv.iE.intE fun t=>?_
  obtain ⟨g,I',st',hsl⟩:=Kd I₂ .none .none (.int (-1) t) s₂.toks
  refine (f.step st₂).list I₂ (ru.step st₂.pre (I₁.tk st₂)) (fun m xs a A f=>?_) Fin.bad
  obtain ⟨vs,n,ho,rr⟩:=A.ob
  have ho':=fc s₂.heap {cls:= .type "slice",data:= .fields #[.none,.none,.int (-1) t]} _ _ ho
  refine ⟨"list",_,F.slot_list_getitem.lookup,(pO (s:={s₂ with heap:=_}) ho').1,wpAny_getItem_list_slice (dy ho') hsl .none .none (.int (-1) t) (by simp) ?_ (by rw [e7,<-rr.length,<-cK];exact A.len)⟩
  rw [krv_pick]
  exact (f.step st').newList (n:=0) (t:=s₂.toks) I' (dr _ _) (a0 _) (fB _ rfl) (rr.keep (g.tk nofun I₂.nsx)).reverse (by rw [Gu];exact A.len)))))
theorem MA:Qm (some 0) none (some 2) 6=(0,2,3)/\Qm (some 1) none (some 2) 6=(1,2,3):=by decide
theorem Sd {k2:Nat} (h1:aK c e1 a) (h2:aK c e2 b):aK c (.Subscript e1 (.Slice (some e2) none (some (.Constant (.int 2) k2 p2)) p) pos) (af pc a b):=fun j j j j Q j I f=>
 zk (h1 _ _ _ _ _ _ I (f.bind fun u j j s₁ x j I₁ ru f=>h2 _ _ _ _ _ _ I₁ (f.bind fun v j φ₂ s₂ y st₂ I₂ rv f=>aY (D2 (k:=k2) (pos:=p2) (by
  refine f.tup (ru.step st₂.pre (I₁.tk st₂)) (fun xs t vs a1 a2 a3 f=>?_) Fin.bad
  match xs,a3,f with
  |[_,_,_,_,_,_],a3,f=>
   refine (a3.consE fun v1 vs r1 a3=>a3.consE fun v2 vs r2 a3=>a3.consE fun v3 vs r3 a3=>a3.consE fun v4 vs r4 a3=>a3.consE fun v5 vs r5 a3=>a3.consE fun v6 vs r6 a3=>a3.nilE fun a1=>?_:IsTup s₂.heap t vs.toArray->_) a1
   refine f.nat rv (fun k t' f=>?_) Fin.bad
   obtain ⟨g,I',st',hsl⟩:=Kd I₂ (.int (.ofNat k) t') .none (.int 2 s₂.toks) (s₂.toks+1)
   have tk:=g.tk nofun I₂.nsx
   have a1:=tk _ _ a1
   match k,f with
   |0,f=>exact ⟨"tuple",_,ww.lookup,gm a1,yv (zs:=[v1,v3,v5]) (MA ..).1 a1 hsl (.int 0 t') .none (.int 2 _) rfl rfl (fun h=>absurd h nofun) (by show 3<=sizeLine;decide) (fun e=>absurd (aM List.length e) (by show ¬ (3=6);decide)) ((f.step st').newTup (t:=s₂.toks+1) I' (dr _ _) (gK _) (.cons (r1.keep tk) (.cons (r3.keep tk) (.cons (r5.keep tk) .nil))) (by show 3<=aJ;decide))⟩
   |1,f=>exact ⟨"tuple",_,ww.lookup,gm a1,yv (zs:=[v2,v4,v6]) (MA ..).2 a1 hsl (.int 1 t') .none (.int 2 _) rfl rfl (fun h=>absurd h nofun) (by show 3<=sizeLine;decide) (fun e=>absurd (aM List.length e) (by show ¬ (3=6);decide)) ((f.step st').newTup (t:=s₂.toks+1) I' (dr _ _) (gK _) (.cons (r2.keep tk) (.cons (r4.keep tk) (.cons (r6.keep tk) .nil))) (by show 3<=aJ;decide))⟩)))))
end
end
section
section
variable {c:aS} {φ φ₁:a9} {l l':av} {σ σ₁:ai} {s s₁:Shared} {h h':Heap} {v:V} {y:Value} {e eo ek:PySem.Expr} {a o k:Ex} {t:Tx} {x b:Sx} {body orelse:List Stmt} {pos pos':Pos} {Q:PySem.Flow->Shared->Prop} {E:Value->Shared->Prop}
theorem wk {n k:Nat}:bN (bK l n v) k=if k=n then some v else bN l k:=by
 induction l generalizing n k with
 |nil=>
  induction n generalizing k with
  |zero=>cases k<;>rfl
  |succ n ih=>cases k with
   |zero=>rfl
   |succ k=>exact (ih (k:=k)).trans (by simp only [Nat.succ.injEq];rfl)
 |cons x r ih=>cases n with
  |zero=>cases k<;>rfl
  |succ n=>cases k with
   |zero=>rfl
   |succ k=>exact (ih (n:=n) (k:=k)).trans (by simp only [Nat.succ.injEq];rfl)
structure kU (c:aS) (x:Str) (n:Nat):Prop where
 at_:c.ρ.lookup x=some n
 inj:∀ x',c.ρ.lookup x'=some n->x'=x
 kind:c.env.kindOf x=some .local\/(c.env.kindOf x=some .cell/\∃ cl,c.env.cells.lookup x=some cl)
theorem ay.store (I:ay c φ l σ s.heap) {x:Str} {n tk:Nat} (S:kU c x n) (r:aB c.g.D φ s.heap v y) {a:Addr} (ha:a∈c.touch) (k:∀ b,b≠a->h'.get? b=s.heap.get? b)
  (hv:C9 c.env h' x y) (ot:∀ x' y',x'≠x->C9 c.env s.heap x' y'->C9 c.env h' x' y') (nsx:∃ m,h'.Ns c.env.locals m) (cells:∀ x cl,c.env.cells.lookup x=some cl->∃ v,h'.IsCell cl v) {P:Prop}
  (f:aL c φ s φ {s with heap:=h',toks:=tk}->ay c φ (bK l n v) σ h'->P):P:=by
 obtain ⟨o,ho,of⟩:=I.there ha
 obtain ⟨o',ho',of',_⟩:=GY I.st nsx cells ha
 have st:aL c φ s φ {s with heap:=h',toks:=tk}:= .of (e8 _) (fun j=> .inl) (fun b o e j n=>(k b fun q=>n (q▸ha)).trans e) fun b m o e=>by
  by_cases q:b=a
  ·exact ⟨o',q▸ho',fun j=>of'⟩
  ·exact ⟨o,(k b q).trans e,id⟩
 have tk:=I.tk st
 refine f st ⟨I.st,fun b o e=>(k b fun q=>?_).trans (I.stay b o e),z9 (fun b o j e n=>?_) I.frm,I.sto.mono (fun b hb o e=>(k b fun q=>(I.off b hb).touch (q▸ha)).trans e) tk,I.nd,I.off,fun x' n' v' h1 h2=>?_,nsx,cells⟩
 ·rw [q,I.st.newT a ha] at e;cases e
 ·by_cases q:b=a
  ·exact ⟨o',q▸ho',of'⟩
  ·exact ⟨o,(k b q).trans e,n⟩
 ·rw [wk] at h2
  by_cases q:n'=n
  ·rw [cq q] at h2
   rw [S.inj x' (q▸h1),<-bO h2]
   exact ⟨y,hv,r.step (e8 _) tk⟩
  ·rw [b7 q] at h2
   obtain ⟨y',a1,b1⟩:=I.vars x' n' v' h1 h2
   exact ⟨y',ot x' y' (fun e=>q (bO (h1.symm.trans ((aM (fun x=>c.ρ.lookup x) e).trans S.at_)))) a1,b1.step (e8 _) tk⟩
theorem vc {α β:Type} {l:List (α×β)} {a a':α} {b:β} (n:(l.map (·.2)).Nodup) (h:(a,b)∈l) (h':(a',b)∈l):a=a':=by
 obtain ⟨i,hi⟩:=HN.mp h
 obtain ⟨j,hj⟩:=HN.mp h'
 have e:(l.map (·.2))[i]?=some b:=by rw [FM,hi];rfl
 have e':(l.map (·.2))[j]?=some b:=by rw [FM,hj];rfl
 rw [(List.getElem?_inj (gL.mp e).1 n).mp (e.trans e'.symm),hj] at hi
 cases hi;rfl
theorem gR (I:ay c φ l σ s.heap) {x:Str} {n:Nat} {W:Unit->Shared->Prop} (S:kU c x n) (r:aB c.g.D φ s.heap v y) (h:∀ s',aL c φ s φ s'->ay c φ (bK l n v) σ s'.heap->W () s'):c.wp (storeName c.env x y) W E s:=by
 have kc:∀ {h':Heap} {x' cl w},c.env.cells.lookup x'=some cl->h'.get? cl=s.heap.get? cl->s.heap.IsCell cl w->h'.IsCell cl w:=fun j q n=>ui (c:=c) n fun o e=> .refl (q.trans e)
 rcases S.kind with hk |⟨hk,cl,lk⟩
 ·obtain ⟨m,hm⟩:=I.nsx
  have ne:∀ {x' cl},c.env.cells.lookup x'=some cl->cl≠c.env.locals:=fun lk q=>I.st.cL (q▸ue lk)
  exact wpAny_storeName_local hk hm (fun h' hn hs=>I.store S r (.head _) hs.2 (.inl ⟨hk,_,hn,cq rfl⟩) (fun x' y' n va=>va.imp (fun ⟨k',m',n',e'⟩=>⟨k',_,hn,by rw [b7 n,Px hm n'];exact e'⟩) fun ⟨cl,k',lk,ic⟩=>⟨cl,k',lk,kc lk (hs.2 cl (ne lk)) ic⟩)
   ⟨_,hn⟩ (fun x cl lk=>(I.cells x cl lk).imp fun j=>kc lk (hs.2 cl (ne lk))) (h _)) (by rw [I.st.kind];rfl)
 ·obtain ⟨v₀,hc⟩:=I.cells x cl lk
  have uniq:∀ {x' cl'},c.env.cells.lookup x'=some cl'->x'≠x->cl'≠cl:=fun lk' ne e=>ne (vc I.st.ca (bQ lk') (e▸bQ lk))
  have neL:c.env.locals≠cl:=fun q=>I.st.cL (q▸ue lk)
  have nk:∀ {h':Heap} {m},Heap.SameBut cl s.heap h'->s.heap.Ns c.env.locals m->h'.Ns c.env.locals m:=fun hs n=>zX (c:=c) n fun o e=> .refl ((hs.2 _ neL).trans e)
  exact wpAny_storeName_cell I.st.kind hk lk hc fun h' hn hs=>I.store S r (tk:=s.toks) (.tail _ (ue lk)) hs.2 (.inr ⟨cl,.inl hk,lk,hn⟩) (fun x' y' ne va=>va.imp (fun ⟨k',m',n',e'⟩=>⟨k',m',nk hs n',e'⟩) fun ⟨cl',k',lk',ic⟩=>⟨cl',k',lk',kc lk' (hs.2 cl' (uniq lk' ne)) ic⟩)
   (I.nsx.imp fun j=>nk hs) (fun x' cl' lk'=>by
    by_cases q:cl'=cl
    ·exact ⟨_,q▸hn⟩
    ·exact (I.cells x' cl' lk').imp fun j=>kc lk' (hs.2 cl' q)) (h _)
@[elab_as_elim]
theorem kq.nxtE {C:PySem.Flow->Prop} {f:PySem.Flow} (r:kq c.g.D φ h .nxt f) (k:C .next):C f:=by cases f<;>first |exact k |exact r.elim
@[elab_as_elim]
theorem kq.retE {C:PySem.Flow->Prop} {f:PySem.Flow} (r:kq c.g.D φ h (.ret v) f) (k:∀ y,aB c.g.D φ h v y->C (.ret y)):C f:=by cases f<;>first |exact k _ r |exact r.elim
@[elab_as_elim]
theorem kq.brkE {C:PySem.Flow->Prop} {f:PySem.Flow} (r:kq c.g.D φ h .brk f) (k:C .brk):C f:=by cases f<;>first |exact k |exact r.elim
theorem LD:k9 c [] ae:=fun j j j j j j I f=>yh (f.here I trivial)
theorem TY {st:Stmt} {rest:List Stmt} (h1:fJ c st x) (h2:k9 c rest b):k9 c (st::rest) (sq x b):=fun φ l σ s Q E I f=>iS (h1 φ l σ s _ E I (by
 unfold sq at f
 cases q:x l σ with
 |bad=>rw [q] at f;exact f
 |exc=>rw [q] at f;exact f
 |ok g l₁ σ₁=>
  rw [q] at f
  cases g with
  |nxt=>
   intro φ₁ y s₁ st I₁ r
   refine r.nxtE ?_
   exact h2 _ _ _ _ _ _ I₁ (bh.step st f)
  |brk=>
   intro φ₁ y s₁ st I₁ r
   refine r.brkE ?_
   exact f φ₁ _ s₁ st I₁ trivial
  |ret v=>
   intro φ₁ y s₁ st I₁ r
   refine r.retE fun y r=>?_
   exact f φ₁ _ s₁ st I₁ r))
noncomputable def dJ (e:PySem.Expr):Bool:=!(Nat.ble 8 e.ctorIdx && Nat.ble e.ctorIdx 10)
theorem eE {tg:Option PySem.Expr} {n:Nat} {env:Env} (h:dJ e=true):swapsWith e tg n env=pure false:=by
 cases e<;>first |rfl |cases h
theorem Wy {z:Str} {n:Nat} (pv:dJ e=true) (S:kU c z n) (he:aK c e a):fJ c (.Assign [.Name z pos'] e pos) (set n a):=fun j j j j j j I f=>
 wpAny_Assign_Name (he _ _ _ _ _ _ I (f.bind fun j j φ₁ j j j I₁ r f=>gR I₁ S r fun j st' I'=>f _ _ _ st' I' trivial)) (eE pv)
theorem YB (pv:dJ e=true) (he:aK c e a):fJ c (.Expr e pos) (aE a):=fun j j j j j j I f=>by
 have hi:interactive c.env=false:=by unfold interactive;rw [I.st.kind];rfl
 rw [aS.wp,exec_Expr (hi:=hi) (hs:=eE pv)]
 refine ax (lB (ax (he _ _ _ _ _ _ I (f.bind fun v σ₁ φ₁ s₁ y st I₁ r f=>?_))))
 have fin:=f.here I₁ (y:= .next) trivial
 unfold dropValue
 split
 ·exact aY fin
 ·exact ax (lB (ax (wpAny_runValue (codeAny_builtin entry_let_go (show wpAny _ _ (ret .none) _ _ s₁ from aY (aY fin))))))
 ·exact aY fin
theorem snd_if {b₂:Sx} (ht:ju c e t) (h1:k9 c body b) (h2:k9 c orelse b₂):fJ c (.If e body orelse pos) (am t b b₂):=fun j j j j j j I f=>
 wpAny_If (ht _ _ _ _ _ _ I (f.bind fun r j j j j j I₁ e f=>by
  cases e
  cases r with
  |true=>exact h1 _ _ _ _ _ _ I₁ f
  |false=>exact h2 _ _ _ _ _ _ I₁ f))
theorem WO (he:aK c e a):fJ c (.Return (some e) pos) (al a):=fun j j j j j j I f=>wpAny_Return_some (he _ _ _ _ _ _ I (f.bind fun j j j j j j I₁ r f=>f.here I₁ r))
theorem SA:fJ c (.Return none pos) (al (aN .none)):=fun j j j j j j I f=>wpAny_Return_none (bh.here (f:= .ret (.i .none)) f I (.i .none))
theorem WV:fJ c (.Break pos) brk:=fun j j j j j j I f=>wpAny_Break (bh.here (f:= .brk) f I trivial)
def Oq (c:aS) (op:Operator) (f:V->V->ai->RE V):Prop:=∀ φ l σ s u v x y Q E,ay c φ l σ s.heap->aB c.g.D φ s.heap u x->aB c.g.D φ s.heap v y->bJ c φ l s (f u v σ) Q E->c.wp (inplaceOp op x y) Q E s
theorem XE {z:Str} {n:Nat} {op:Operator} {f:V->V->ai->RE V} (ho:Oq c op f) (S:kU c z n) (hc:(z==("__classdict__" :Str))=false) (he:aK c e a):fJ c (.AugAssign (.Name z pos') op e pos) (nE n f a):=fun φ l σ s Q E I g=>
 wpAny_AugAssign_Name (AK (n:=n) I S.at_ hc (g.bind fun j j j j j j I₀ ru g=>he _ _ _ _ _ _ I₀ (g.bind fun j j j j j st I₁ rv g=>ho _ _ _ _ _ _ _ _ _ _ I₁ (ru.step st.pre (I₀.tk st)) rv
  (g.bind fun j j j j j j I₂ rr g=>gR I₂ S rr fun j st' I'=>g _ _ _ st' I' trivial))))
theorem in_add:Oq c .Add jl:=fun φ l σ s u v x y Q E I ru rv f=>
 f.int ru (fun a t f=>f.int rv (fun b t' f=>PySem.P.iadd_int (f.val I (.i (.int _ _)))) Fin.bad) fun f=>f.str ru (fun a t q f=>f.str rv (fun b t' q' f=>f.gd fun ql f=>PyProof.Rows.iadd_str (fun t' tk=>by
  rw [zN]
  exact f.val I (.i (.str _ _ (dH.app q q' (aI ql))))) (by rw [dz,dz,<-cK];exact aI ql)) Fin.bad) Fin.bad
theorem in_sub:Oq c .Sub dQ:=fun φ l σ s u v x y Q E I ru rv f=>f.int ru (fun a t f=>f.int rv (fun b t' f=>PyProof.Rows.isub_int (f.val I (.i (.int _ _)))) Fin.bad) Fin.bad
end
end
section
section
variable {c:aS} {φ φ₁:a9} {l l':av} {σ σ₁:ai} {s s₁:Shared} {h h':Heap} {v:V} {y:Value} {e eo ek tg:PySem.Expr} {a o k:Ex} {pos pos':Pos} {Q:PySem.Flow->Shared->Prop} {E:Value->Shared->Prop} {ns:List Nat} {xs:List Str} {ts:List PySem.Expr}
def CS (l:av):List (Nat×V)->av:=List.foldl (fun l p=>bK l p.1 p.2) l
theorem Cy {ps:List (Nat×V)} {k:Nat}:bN (CS l ps) k=(ps.reverse.lookup k).or (bN l k):=by
 induction ps generalizing l with
 |nil=>rfl
 |cons p r ih=>
  refine (ih (l:=bK l p.1 p.2)).trans ?_
  rw [wk,zi,List.lookup_append,Option.or_assoc,rg]
  by_cases q:k=p.1
  ·rw [cq q,beq_iff_eq.mpr q];rfl
  ·rw [b7 q,wu.mpr q];rfl
theorem Im {k:Nat} {v:V} {ps:List (Nat×V)} (n:(ps.map (·.1)).Nodup):ps.lookup k=some v↔(k,v)∈ps:=by
 induction ps with
 |nil=>exact ⟨nofun,nofun⟩
 |cons p r ih=>
  have n:=ej.mp n
  rw [rg,List.mem_cons]
  by_cases q:k=p.1
  ·rw [beq_iff_eq.mpr q]
   exact ⟨fun e=> .inl (Prod.ext q (bO e).symm),fun m=>m.elim (fun e=>by rw [<-e]) fun m=>absurd (gI (f:=(·.1)) m) (q▸n.1)⟩
  ·rw [wu.mpr q]
   exact (ih n.2).trans ⟨.inr,fun m=>m.elim (fun e=>absurd (aM (·.1) e) q) id⟩
theorem Pq {ps:List (Nat×V)} (n:(ps.map (·.1)).Nodup) {k:Nat}:bN (CS l ps.reverse) k=bN (CS l ps) k:=by
 rw [Cy,Cy,Id,show ps.lookup k=ps.reverse.lookup k from Option.ext fun v=>(Im n).trans (List.mem_reverse.symm.trans (Im (by rw [List.map_reverse];exact List.pairwise_reverse.mpr (n.imp gi))).symm)]
theorem I9 {vs:List V} (e:vz l ns vs=some l'):l'=CS l (ns.zip vs)/\vs.length=ns.length:=by
 induction ns generalizing l vs with
 |nil=>cases vs<;>cases e;exact ⟨rfl,rfl⟩
 |cons n ns ih=>cases vs with
  |nil=>cases e
  |cons v vs=>exact (ih e).imp id (aM Nat.succ)
inductive xL (c:aS):List PySem.Expr->List Str->List Nat->Prop
 |nil:xL c [] [] []
 |cons {x:Str} {n:Nat} {p:Pos} {ts:List PySem.Expr} {xs:List Str} {ns:List Nat}:kU c x n->xL c ts xs ns->xL c (.Name x p::ts) (x::xs) (n::ns)
def St1 (c:aS) (t:Value->Sem Unit) (x:Str):Prop:=∀ (y:Value) (Q:Unit->Shared->Prop) (E:Value->Shared->Prop) (s:Shared),c.wp (storeName c.env x y) Q E s->c.wp (t y) Q E s
inductive oA (c:aS) (φ:a9) (h:Heap):List (Value->Sem Unit)->List Value->List (Nat×V)->Prop
 |nil:oA c φ h [] [] []
 |cons {t:Value->Sem Unit} {x:Str} {n:Nat} {v:V} {y:Value} {ts:List (Value->Sem Unit)} {ys:List Value} {ps:List (Nat×V)}:St1 c t x->kU c x n->aB c.g.D φ h v y->oA c φ h ts ys ps->oA c φ h (t::ts) (y::ys) ((n,v)::ps)
theorem oA.keep (tk:TK h h') {ts:List (Value->Sem Unit)} {ys:List Value} {ps:List (Nat×V)} (r:oA c φ h ts ys ps):oA c φ h' ts ys ps:=by
 induction r with
 |nil=>exact .nil
 |cons a b d _ ih=>exact .cons a b (d.step (e8 _) tk) ih
theorem oA.app {ts ts':List (Value->Sem Unit)} {ys ys':List Value} {ps ps':List (Nat×V)} (r:oA c φ h ts ys ps) (r':oA c φ h ts' ys' ps'):oA c φ h (ts++ts') (ys++ys') (ps++ps'):=by
 induction r with
 |nil=>exact r'
 |cons a b d _ ih=>exact .cons a b d ih
theorem oA.rev {ts:List (Value->Sem Unit)} {ys:List Value} {ps:List (Nat×V)} (r:oA c φ h ts ys ps):oA c φ h ts.reverse ys.reverse ps.reverse:=by
 induction r with
 |nil=>exact .nil
 |cons a b d _ ih=>rw [zi,zi,zi];exact ih.app (.cons a b d .nil)
theorem CP {W:Unit->Shared->Prop} {ts:List (Value->Sem Unit)} {ys:List Value} {ps:List (Nat×V)} (I:ay c φ l σ s.heap) (r:oA c φ s.heap ts ys ps) (h:∀ s',aL c φ s φ s'->ay c φ (CS l ps) σ s'.heap->W () s'):c.wp (assignInOrder ts ys) W E s:=by
 induction ts generalizing ys ps l s with
 |nil=>cases r;exact assignInOrder_nil (h s aL.refl I)
 |cons t ts ih=>cases r with
  |cons st sc r sl=>exact assignInOrder_cons (st _ _ _ _ (gR I sc r fun s' st' I'=>ih I' (sl.keep (I.tk st')) fun s'' st'' I''=>h s'' (st'.trans st'') I''))
theorem xL.sts (T:xL c ts xs ns) {vs:List V} {ys:List Value} (r:bV c.g.D φ h vs ys) (n:vs.length=ns.length):oA c φ h ((assignEach ts c.env).map (·.2)) ys (ns.zip vs)/\oA c φ h (xs.map fun n=>bindName c.env n) ys (ns.zip vs):=by
 induction T generalizing vs ys with
 |nil=>cases vs with
  |nil=>exact r.nilE ⟨.nil,.nil⟩
  |cons=>cases n
 |cons S _ ih=>cases vs with
  |nil=>cases n
  |cons v vs=>exact r.consE fun y ys a b=>⟨.cons (fun j j j j h=>NU h) S a (ih b (EK n)).1,.cons (fun j j j j h=>bindName_ h) S a (ih b (EK n)).2⟩
theorem xL.len (T:xL c ts xs ns):(assignEach ts c.env).length=ns.length/\xs.length=ns.length/\(assignEach ts c.env).findIdx? (·.1)=none:=by
 induction T with
 |nil=>exact ⟨rfl,rfl,rfl⟩
 |cons _ _ ih=>exact ⟨aM Nat.succ ih.1,aM Nat.succ ih.2.1,(List.findIdx?_cons ..).trans (by rw [ih.2.2];rfl)⟩
theorem vs_map {xs:List I} {ys:List Value} (r:IReps c.g.D h xs ys):bV c.g.D φ h (xs.map .i) ys:=r.ind (P:=fun xs ys=>bV c.g.D φ h (xs.map .i) ys) .nil fun a j=> .cons (.i a)
theorem I7 (r:aB c.g.D φ h v y) (q:yt ns v l=some l'):∃ t vs ys,y= .ref t/\IsTup h t (List.toArray ys)/\bV c.g.D φ h vs ys/\vz l ns vs=some l':=by
 cases v with
 |i x=>cases x with
  |tup xs=>exact r.iE.tupE fun t ys a j b=>⟨t,_,ys,rfl,a,vs_map b,q⟩
  |_=>cases q
 |pr a m=>cases r with |pr ht r1 q'=>exact ⟨_,_,[_,_],rfl,ht,.cons (.i r1) (.cons (.ref q') .nil),q⟩
 |_=>cases q
theorem LX (x:Heap.ExtBut h.objs.size h h'):fR c (fun j=>False) h h':= .all fun b o e=>x b o (Nat.ne_of_lt (FR e)) e
theorem LR {W:Unit->Shared->Prop} {k:Nat} {tp:Pos} (I:ay c φ l σ s.heap) (T:xL c ts xs ns) (r:aB c.g.D φ s.heap v y) (q:yt ns v l=some l') (h:∀ s',aL c φ s φ s'->ay c φ l' σ s'.heap->W () s'):c.wp (assign (.Tuple ts k tp) c.env y) W E s:=by
 obtain ⟨t,vs,ys,rfl,ht,rr,q⟩:=I7 r q
 obtain ⟨rfl,hl⟩:=I9 q
 refine assign_Tuple_tuple I.st.hand ht (by rw [T.len.1,e7,<-rr.len];exact hl.symm) T.len.2.2 fun h' he=>?_
 have g:=LX (c:=c) he
 exact CP (s:={s with heap:=h'}) (I.mono g) ((T.sts rr hl).1.keep (g.tk nofun I.nsx)) fun s' st' I'=>h s' ((aL.to (t:=s.toks) I g nofun (e8 _) fun j=> .inl).trans st') I'
theorem ay.congr (I:ay c φ l σ h) (e:∀ k,bN l' k=bN l k):ay c φ l' σ h:=⟨I.st,I.stay,I.frm,I.sto,I.nd,I.off,fun x n v h1 h2=>I.vars x n v h1 ((e n).symm.trans h2),I.nsx,I.cells⟩
theorem WW {k:Nat} {tp:Pos} (pv:dJ e=true) (T:xL c ts xs ns) (nd:ns.Nodup) (he:aK c e a) (hw:swappedStores [.Tuple ts k tp] e c.env=pure none\/swappedStores [.Tuple ts k tp] e c.env=pure (some xs)):
  fJ c (.Assign [.Tuple ts k tp] e pos) (fu ns a):=fun φ l σ s Q E I f=>by
 have sws:swapsWithSole [.Tuple ts k tp] e pos.line c.env=pure false:=by unfold swapsWithSole;exact eE pv
 have all:∀ {W:Value->Shared->Prop},(∀ l' v σ₁ φ₁ s₁ y,ay c φ₁ l σ₁ s₁.heap->aB c.g.D φ₁ s₁.heap v y->yt ns v l=some l'->(∀ s',aL c φ₁ s₁ φ₁ s'->ay c φ₁ l' σ₁ s'.heap->Q .next s')->W y s₁)->c.wp (eval e c.env) W E s:=fun hk=>
  he _ _ _ _ _ _ I (f.bind fun v σ₁ φ₁ s₁ y j I₁ r f=>by
   cases q:yt ns v l with
   |none=>rw [q] at f;exact f.elim
   |some l'=>rw [q] at f;exact hk _ _ _ _ _ _ I₁ r q fun j st' I'=>f _ _ _ st' I' trivial)
 rcases hw with hw |hw
 ·exact Assign_Tuple (all fun l' v σ₁ φ₁ s₁ y I₁ r q f=>LR I₁ T r q f) sws hw
 ·refine Assign_Tuple_swapped (names:=xs) (all fun l' v σ₁ φ₁ s₁ y I₁ r q f=>?_) sws hw
  obtain ⟨t,vs,ys,rfl,ht,rr,q⟩:=I7 r q
  obtain ⟨rfl,hl⟩:=I9 q
  rw [show xs.length=ys.toArray.size by rw [T.len.2.1,e7,<-rr.len];exact hl.symm]
  refine unpackItems_tuple I₁.st.hand ht fun h' he=>?_
  have g:=LX (c:=c) he
  have z:=((T.sts rr hl).2.keep (g.tk nofun I₁.nsx)).rev
  rw [<-List.map_reverse] at z
  exact CP (s:={s₁ with heap:=h'}) (I₁.mono g) z fun s' st' I'=>f s' ((aL.to (t:=s₁.toks) I₁ g nofun (e8 _) fun j=> .inl).trans st') (I'.congr fun k=>(Pq (by rw [HE (FF hl.symm)];exact nd)).symm)
inductive Tg (c:aS):PySem.Expr->List Nat->Prop
 |one {x:Str} {n:Nat} {p:Pos}:kU c x n->Tg c (.Name x p) [n]
 |many {ts:List PySem.Expr} {xs:List Str} {n m:Nat} {ns:List Nat} {k:Nat} {tp:Pos}:xL c ts xs (n::m::ns)->Tg c (.Tuple ts k tp) (n::m::ns)
theorem asg {W:Unit->Shared->Prop} {x:Mine.I} (T:Tg c tg ns) (I:ay c φ l σ s.heap) (r:aX c.g.D s.heap x y) (q:Af ns x l=some l') (h:∀ s',aL c φ s φ s'->ay c φ l' σ s'.heap->W () s'):c.wp (assign tg c.env y) W E s:=by
 cases T with
 |one S=>cases q;exact NU (gR I S (.i r) h)
 |many T=>exact LR I T (.i r) q h
theorem IReps.set {x:Mine.I} {ys:List Mine.I} {vs:List Value} (r:aX c.g.D h x y) (j:Nat) (t:IReps c.g.D h ys vs):IReps c.g.D h (ys.set j x) (vs.set j y):=
 t.ind (P:=fun ys vs=>∀ j,IReps c.g.D h (ys.set j x) (vs.set j y)) (fun q=> .nil) (fun a t ih j=>j.casesOn (.cons r t) fun j=> .cons a (ih j)) j
theorem gk.mem {k:List Str} {v:Value} {es:List (List Str×Addr×Value)} (n:k∉es.map (·.1)):es.map (PySem.putAt k v)=es:=
 (List.map_congr_left fun p m=>b7 fun e:p.1=k=>n (e▸gI (f:=(·.1)) m)).trans (List.map_id' es)
theorem gk.put {ss:List T} {x:Mine.I} {ad:Addr} (r:aX c.g.D h x y) {kvs:List (Mine.I×Mine.I)} {es:List (List Str×Addr×Value)} (n:(es.map (·.1)).Nodup) (t:gk c.g.D h kvs es):gk c.g.D h (iP kvs (.tup (ss.map .str)) x) (storedH es (ss.map aD) ad y):=by
 induction t with
 |nil=>exact .cons r .nil
 |@cons k v a' z kvs es r' t ih=>
  have n:=ej.mp n
  have ih:=ih n.2
  have ak:atKey ((k.map aD,a',z)::es) (ss.map aD)=bif decide (k.map aD=ss.map aD) then some (a',z) else atKey es (ss.map aD):=by
   unfold atKey
   rw [List.find?_cons]
   cases decide (k.map aD=ss.map aD)<;>rfl
  rw [SQ]
  by_cases e:k=ss
  ·subst e
   rw [jn rfl] at ak
   rw [storedH_old ak,im,gk.mem n.1,vM.mpr rfl,PySem.putAt,cq rfl]
   exact .cons r t
  ·have e2:¬ k.map aD=ss.map aD:=fun z=>e (IM z)
   rw [tq e2] at ak
   rw [GW e]
   cases hc:atKey es (ss.map aD) with
   |none=>
    rw [storedH_new (ak.trans hc)]
    rw [storedH_new hc] at ih
    exact .cons r' ih
   |some p=>
    rw [storedH_old (ak.trans hc),im,PySem.putAt,b7 e2]
    rw [storedH_old hc] at ih
    exact .cons r' ih
theorem gk.len {kvs:List (Mine.I×Mine.I)} {es:List (List Str×Addr×Value)} (r:gk c.g.D h kvs es):kvs.length=es.length:=by
 induction r with
 |nil=>rfl
 |cons _ _ ih=>exact aM Nat.succ ih
theorem Oh {as:List Addr} {a b:Addr} {i j:Nat} (nd:as.Nodup) (hi:as[i]?=some a) (hj:as[j]?=some b) (ne:i≠j):a≠b:=fun e=>ne ((List.getElem?_inj (gL.mp hi).1 nd).mp (hi.trans (e▸hj.symm)))
theorem td.put {pre rest:List Mine.I} {kn kn':List (Mine.I×Mine.I)} {fam tab:Mine.I} {a dx tok kno tg tgd:Addr} {es:List (List Str×Addr×Value)} (R:td c.g h pre rest kn fam tab a dx tok kno tg tgd) (nd:[a,dx,tok,kno,tg,tgd].Nodup)
  (hs:∀ b,b≠kno->h'.get? b=h.get? b) (tk:TK h h') (hd:h'.DictOfH (tupleKind (strKind c.g.p c.g.w)) kno es) (hk:gk c.g.D h' kn' es) (hl:kn'.length<=aJ):td c.g h' pre rest kn' fam tab a dx tok kno tg tgd:=
 have ne:∀ {b j},[a,dx,tok,kno,tg,tgd][j]?=some b->j≠3->∀ o,h.get? b=some o->h'.get? b=some o:=fun e n q=>(hs _ (Oh nd e (j:=3) rfl n)).trans
 ⟨ne (j:=0) rfl nofun _ R.obj,let ⟨t1,fv,tv,e1,e3,e4⟩:=R.attrs;⟨t1,fv,tv,e1.keep (ne (j:=1) rfl nofun),e3.keep tk,e4.keep tk⟩,let ⟨ts,n2,f1,f2,f3⟩:=R.toks;⟨ts,n2,ne (j:=2) rfl nofun _ f1,f2.keep tk,f3⟩,⟨es,hd,hk,hl⟩,ne (j:=4) rfl nofun _ R.tong,R.tongd.keep (ne (j:=5) rfl nofun)⟩
theorem P9 {ov kv:V} {xo xk:Value} (I:ay c φ l σ s.heap) (ro:aB c.g.D φ s.heap ov xo) (rk:aB c.g.D φ s.heap kv xk) (rv:aB c.g.D φ s.heap v y) (f:bh c φ s (xX ov kv v l σ) Q E):c.wp (setItem xo xk y) (fun u=>Q .next) E s:=by
 have gd:∀ {b r} {P:Prop},bh c φ s (Mh b r) Q E->(b=true->bh c φ s r Q E->P)->P:=fun {b r P} f k=>by
  cases b with
  |true=>exact k rfl f
  |false=>exact f.elim
 have put:∀ {n t:Nat} {as:List Addr} {x:aF} {h':Heap},bh c φ s (.ok .nxt l (putAt σ n x)) Q E->φ[n]?=some as->(∀ b o,b∉as->s.heap.get? b=some o->h'.get? b=some o)->(TK s.heap h'->CR c.g h' x as)->Q .next {s with heap:=h',toks:=t}:=fun f q k cr=>I.put q k cr fun u st J=>f _ _ _ st J trivial
 let F:=fun r=>bh c φ s r Q E
 let C:=fun x=>c.wp (setItem x xk y) (fun u=>Q .next) E s
 refine wy (F:=F) f rv (fun i ri f=>?_) False.elim
 refine E7 (F:=F) (C:=C) f I ro (fun n d a A f=>?_) fun f=>Fk (F:=F) (C:=C) f I ro (fun n xs a A f=>?_) fun f=>P5 (F:=F) (C:=C) f I ro (fun n pre rest kn fam tab a dx tok kno tg tgd q R f=>?_) False.elim
 ·refine Db (F:=F) (C:=fun k=>c.wp (setItem (.ref a) k y) (fun u=>Q .next) E s) f rk (fun z t qz f=>gd f fun ql f=>?_) False.elim
  obtain ⟨es,hm,he⟩:=A.ob
  obtain ⟨o0,es0,ep0,ho0,hx0,hd0,hk0,hp0,hn0⟩:=id hm
  exact wpAny_setItem_pairs (knd:=strKind c.g.p c.g.w) (strKind_is c.g.p c.g.w _ t) hm (fun h' hd hs=>put f A.q (fun b o m e=>(hs.2 b fun z=>m (z▸ .head _)).trans e) (fun tk=> .dict hd (cW.put (h:=h') qz (ri.keep tk) hn0 (he.keep tk)) (ba (BG d) (eW ql)))) (by rw [<-he.len,<-cK];exact A.len)
 ·refine Jg (F:=F) (C:=fun k=>c.wp (setItem (.ref a) k y) (fun u=>Q .next) E s) f rk (fun j t f=>gd f fun ql f=>?_) False.elim
  have ql:=eW ql
  obtain ⟨vs,n,ho,rr⟩:=A.ob
  obtain ⟨k',hk⟩:=Bt (f:=fun zs=>zs.setIfInBounds j y) ho
  refine ki_setAt ho (x9 j) (CQ (ba (Nat.le_of_lt ql) A.len)) (Int.ofNat_lt.mpr (by rw [e7,<-rr.length];exact ql)) ?_
  exact put (t:=s.toks) f A.q (fun b o m e=>(yC fun z:b=a=>m (z▸ .head _)).trans e) fun tk=> .list (vs:=vs.set j y) (n:=k') (by rw [<-List.setIfInBounds_toArray];exact hk) (IReps.set (ri.keep tk) j (rr.keep tk)) (by rw [List.length_set];exact A.len)
 ·refine Pe (F:=F) (C:=fun k=>c.wp (setItem (.ref kno) k y) (fun u=>Q .next) E s) f rk (fun xs t vs ht u rs f=>?_) False.elim
  refine Mw (F:=F) f (fun ss e f=>gd f fun ql f=>?_) False.elim
  subst e
  obtain ⟨es,hd,hk,hl⟩:=R.known
  obtain ⟨o0,es0,ep0,ho0,hx0,hd0,hk0,hp0,hn0⟩:=id hd
  exact wpAny_setItem_heap (knd:=tupleKind (strKind c.g.p c.g.w)) (show c.A.units+1< cLine by have:=I.st.units;omega) (Kv ht rs) hd (fun h' hd' hs=>put f q (fun b o m e=>(hs.2 b fun z=>m (by rw [z];exact .tail _ (.tail _ (.tail _ (.head _))))).trans e)
   fun tk=> .rd (R.put (zC I.nd q) hs.2 tk hd' (gk.put (ri.keep tk) hn0 (hk.keep tk)) (ba (BG kn) (eW ql)))) (by rw [<-hk.len,<-cK];exact hl)
theorem R6 (pv:dJ e=true) (he:aK c e a) (ho:aK c eo o) (hk:aK c ek k):fJ c (.Assign [.Subscript eo ek pos'] e pos) (dF o k a):=fun j j j j j j I f=>
 wpAny_Assign_Subscript (he _ _ _ _ _ _ I (f.bind fun j j j j j j I₁ rv f=>ho _ _ _ _ _ _ I₁ (f.bind fun j j j j j st₂ I₂ ro f=>hk _ _ _ _ _ _ I₂ (f.bind fun j j j j j st₃ I₃ rk f=>
  P9 I₃ (ro.step st₃.pre (I₂.tk st₃)) rk (rv.step (st₂.trans st₃).pre (I₁.tk (st₂.trans st₃))) f)))) (eE pv)
end
end
section
structure mi (c:aS) (L:Addr) (outer:List Env):Prop where
 fr:c.frames=c.env::outer
 at_:c.env.frame=some L
section
variable {c:aS} {φ φ₁ φ':a9} {l l':av} {σ σ':ai} {s s₁ s':Shared} {h h':Heap} {L e:Addr} {outer:List Env} {wh:T} {r k:Int} {E:Value->Shared->Prop} {b:Addr} {o:Obj}
theorem As.upd {a:Addr} {f:Obj->Obj} (e:h.get? b=some o) (n:b≠a):As c (h.update a f) b o:= .refl ((oj _ _ (gi n)).trans e)
theorem Lq {oe:Obj} {vs:Array Value} {head:Value} {hadNext:Bool} {Q:Unit->Shared->Prop} (T1:mi c L outer) (stk:c.A.frames=some c.frames) (hl:s.heap.FunFrames c.base c.frames)
  (he:s.heap.get? e=some oe) (hd:oe.data= .fields vs) (hsz:1< vs.size)
  (h:∀ h' T oT ts,h'.get? e=some (oe.mapFields (·.setIfInBounds 1 (.ref T)))->T∉c.fa->h'.get? T=some oT->oT.data= .fields ts->ts[3]?=some (rawInt L)->s.heap.get? T=none->(∀ b o,s.heap.get? b=some o->b≠e->As c h' b o)->Q () {s with heap:=h'}):
  c.wp (do let a <-frameOf c.env;let pl <-entryPlaceOf L hadNext;let b <-EntryCells.newEntry head a .none (rawInt L) .none pl;setField (.ref e) 1 b) Q E s:=by
 have outE:e∉c.fa:=fun m=>by
  obtain ⟨_,o,z,n⟩:=hl.mem m
  rw [he] at z;exact n vs (bO z▸hd)
 refine ax (wpAny_frameOf_fun (outer:=outer) (T1.fr▸stk) (T1.fr▸hl) T1.at_ fun h₁ so=>?_)
 rw [<-T1.fr] at so
 have old:∀ b o,s.heap.get? b=some o->As c h₁ b o:=fun b o z=>by
  obtain ⟨sl,q⟩:=so.2.2 b o z
  exact ⟨sl,q,fun m=>aM Obj.slots (bO (q.symm.trans ((so.2.1 b m).trans z)))⟩
 have atE:h₁.get? e=some oe:=(so.2.1 e outE).trans he
 have fresh:=a0 h₁
 have new:s.heap.get? h₁.objs.size=none:=kJ.mpr fun o z=>(old _ o z).ne fresh
 have ne:h₁.objs.size≠e:=fun q=>by rw [q,he] at new;cases new
 have key:∀ (ob:Obj) (ts:Array Value),ob.data= .fields ts->ts[3]?=some (rawInt L)->c.wp (setField (.ref e) 1 (.ref h₁.objs.size)) Q E {s with heap:=h₁.push ob}:=fun ob ts o1 o2=>by
  have there:=fc h₁ ob
  exact FS (there _ _ atE) hd hsz (h _ h₁.objs.size ob ts (vq _ (there _ _ atE) (Aa (Cb hd _))) (fun m=>let ⟨_,o,z,_⟩:=hl.mem m;nomatch new.symm.trans z)
   ((oj _ _ (gi ne)).trans (fB _ (Aa o1))) o1 o2 new fun b o z nb=>let ⟨sl,q,k⟩:=old b o z;⟨sl,(oj _ _ (gi nb)).trans (there _ _ q),k⟩)
 refine ax (wpAny_entryPlaceOf fun pl hpl=>?_)
 unfold EntryCells.newEntry newFields
 refine ax (zn (key _ _ rfl ?_) (hpl.sizeOk5 _ _ _ _ _))
 rcases hpl with rfl |⟨_,_,_,_,_,_,_,rfl⟩<;>rfl
theorem nh.turn {S:Addr->Prop} {t:Nat} (X:nh c φ s.heap wh r k e) (hS:∀ b,S b->b∈own φ/\d9 c b) (kp:∀ b o,s.heap.get? b=some o->¬ S b->As c h' b o) (p:φ<+:φ') (nw:∀ b∈own φ',b∈own φ\/s.heap.get? b=none)
  (ob:∃ dx vs,PV c.g h' wh r k e dx vs/\dx∈own φ'/\d9 c dx/\dx≠e/\(vs[1]?=some .none\/∃ Tb fl,TI c φ' h' e dx vs Tb fl/\(fl= .none\/∃ L,c.env.frame=some L/\fl=rawInt L))):nh c φ' h' wh r k e/\aL c φ s φ' {s with heap:=h',toks:=t}:=
 ⟨⟨X.nsx.imp fun m n=>zX n fun o z=>kp _ o z fun q=>(hS _ q).2.touch (.head _),fun b o z=>(kp b o (X.stay b o z) fun q=>nomatch (hS b q).2.base.symm.trans z).eq fun m=>(nomatch (X.frm.mem m).1.symm.trans z),
  z9 (fun b o m z nf=>let ⟨_,q,_⟩:=kp b o z fun q=>(hS b q).2.fa m;⟨_,q,nf⟩) X.frm,⟨uk p X.eo.1,X.eo.2⟩,ob⟩,
   ⟨p,nw,fun b o z n j=>kp b o z fun q=>n (hS b q).1,fun b m o z=>let ⟨_,q,_⟩:=kp b o z fun q=>(hS b q).2.touch m;⟨_,q,id⟩,rfl,rfl,rfl⟩⟩
def JW (h:Heap) (e:Addr):Prop:=∃ o vs T,h.get? e=some o/\o.data= .fields vs/\vs[1]?=some (.ref T)
theorem II {T:Addr}:(Value.ref T !=Value.none)=true:=rfl
theorem Eb {W:Unit->Shared->Prop} (T1:mi c L outer) (stk:c.A.frames=some c.frames) (tn:∀ b∈c.touch,s.heap.get? b≠none) (X:nh c φ s.heap wh r k e) (hW:∀ h' φ',JW h' e->nh c φ' h' wh r k e->aL c φ s φ' {s with heap:=h'}->W () {s with heap:=h'}):
  c.wp (noteFrame (.ref e) c.env) W E s:=by
 obtain ⟨dx,vs,O,dx1,dx2,dx3,x11⟩:=X.obj
 obtain ⟨sl,x1⟩:=O.ob
 have new:∀ {S:Addr->Prop} {h₂:Heap} {head:Value} {hadNext:Bool},(∀ b,S b->b∈own φ/\d9 c b)->¬ S dx->(∀ b o,s.heap.get? b=some o->b=e\/¬ S b->h₂.get? b=some o)->(∀ b,h₂.get? b=none->s.heap.get? b=none)->S e->h₂.FunFrames c.base c.frames->
   c.wp (do let a <-frameOf c.env;let pl <-entryPlaceOf L hadNext;let b <-EntryCells.newEntry head a .none (rawInt L) .none pl;setField (.ref e) 1 b) W E {s with heap:=h₂}:=fun {S h₂ head hadNext} hS nx kp nn se ff=>
  Lq (s:={s with heap:=h₂}) T1 stk ff (kp e _ x1 (.inl rfl)) rfl O.sz fun h' Tn oT ts g1 g2 g3 g4 g5 g6 as=>by
   have g6:=nn _ g6
   have kp':∀ b o,s.heap.get? b=some o->¬ S b->As c h' b o:=fun b o z q=>as b o (kp b o z (.inr q)) fun z=>q (z▸se)
   obtain ⟨t0,t1,t2,t3,at_⟩:=O.at_
   have offT:d9 c Tn:=⟨kJ.mpr fun o z=>(nomatch g6.symm.trans (X.stay _ o z)),fun m=>tn _ m g6,g2⟩
   obtain ⟨X',st⟩:=X.turn (t:=s.toks) (φ':=φ++[[Tn]]) hS kp' (j3 _ _) (fun b m=>(eA.mp m).imp id fun q=>(cY.mp q:b=Tn)▸g6)
    ⟨dx,vs.setIfInBounds 1 (.ref Tn),⟨⟨sl,g1⟩,by rw [Array.size_setIfInBounds];exact O.sz,⟨t0,t1,t2,t3,at_.keep fun o z=>(kp' _ o z nx).eq dx2.fa⟩,O.ok⟩,uk (j3 _ _) dx1,dx2,dx3,
     .inr ⟨Tn,_,⟨(Nc O.sz),eA.mpr (.inr (.head _)),offT,fun q=>eT (P:=fun j=>True) g6 ⟨_,q▸x1,trivial⟩,fun q=>(let ⟨_,_,z,_⟩:=at_;eT (P:=fun j=>True) g6 ⟨_,q▸z,trivial⟩),⟨oT,ts,g3,g4,g5⟩⟩,.inr ⟨L,T1.at_,rfl⟩⟩⟩
   exact hW h' _ ⟨_,_,Tn,g1,rfl,(Nc O.sz)⟩ X' st
 unfold noteFrame
 simp only [T1.at_]
 rcases x11 with h1 |⟨Tb,fl,Y,y11⟩
 ·refine ax (f8 x1 rfl h1 ?_)
  rw [b7 (by decide)]
  exact new (S:=(·=e)) (fun b q=>q▸X.eo) dx3 (fun b o z j=>z) (fun j=>id) rfl X.frm
 ·obtain ⟨oT,ts,y8,y9,y10⟩:=Y.ob
  refine ax (f8 x1 rfl Y.at1 ?_)
  rw [cq II]
  refine ax (f8 y8 y9 y10 ?_)
  rcases y11 with rfl |⟨L',q1,rfl⟩
  ·rw [b7 (show ¬ (Value.none==rawInt L)=true from nofun)]
   refine ax (FS y8 y9 (Array.getElem?_eq_some_iff.mp y10).1 ?_)
   have other:∀ b,b≠Tb->(s.heap.update Tb (Obj.mapFields (·.setIfInBounds 3 Value.none))).get? b=s.heap.get? b:=fun b n=>oj _ _ (gi n)
   refine new (S:=fun b=>b=e\/b=Tb) (fun b q=>q.elim (fun q=>q▸X.eo) fun q=>q▸⟨Y.own,Y.off⟩) (fun q=>q.elim dx3 fun q=>Y.nd q.symm) (fun b o z q=>(other b fun z=>q.elim (fun q=>Y.ne (z▸q)) fun q=>q (.inr z)).trans z)
    (fun b z=>(other b fun q=>by rw [q,vq _ y8 (Aa (Cb y9 _))] at z;cases z).symm.trans z) (.inl rfl) (z9 (fun b o m z n=>⟨o,(other b fun q=>Y.off.fa (q▸m)).trans z,n⟩) X.frm)
  ·rw [<-bO (T1.at_.symm.trans q1),cq (ES _)]
   exact aY (hW s.heap φ ⟨_,_,Tb,x1,rfl,Y.at1⟩ X aL.refl)
def Fl (c:aS) (φ:a9) (h:Heap) (w:T) (r k:Int) (e:Addr) (fl:Value):Prop:=∃ dx vs Tb,PV c.g h w r k e dx vs/\dx∈own φ/\d9 c dx/\dx≠e/\TI c φ h e dx vs Tb fl
theorem qc {A:Around} {fr:Option Addr} {W:Unit->Shared->Prop} (X:nh c φ s.heap wh r k e) (tr:JW s.heap e) (hfr:fr=none\/fr=c.env.frame) (hW:∀ h',Fl c φ h' wh r k e (fr.elim .none fun f=>rawInt f)->nh c φ h' wh r k e->aL c φ s φ {s with heap:=h'}->W () {s with heap:=h'}):wpAny c.g.M A (setFlight (.ref e) fr) W E s:=by
 obtain ⟨dx,vs,O,dx1,dx2,dx3,x11⟩:=X.obj
 obtain ⟨sl,x1⟩:=O.ob
 obtain ⟨_,_,T0,z1,z3,z2⟩:=tr
 rw [x1] at z1
 cases z1;cases z3
 rcases x11 with h1 |⟨Tb,fl,Y,y11⟩
 ·rw [h1] at z2;cases z2
 ·obtain ⟨oT,ts,y8,y9,y10⟩:=Y.ob
  unfold setFlight
  refine ax (f8 x1 rfl Y.at1 ?_)
  rw [cq II]
  have hsz:=(Array.getElem?_eq_some_iff.mp y10).1
  have other:∀ (f:Obj->Obj) b,b≠Tb->(s.heap.update Tb f).get? b=s.heap.get? b:=fun f b n=>oj _ _ (gi n)
  obtain ⟨t0,t1,t2,t3,at_⟩:=O.at_
  have ex:=(other (Obj.mapFields (·.setIfInBounds 3 (fr.elim Value.none fun f=>rawInt f))) e (gi Y.ne)).trans x1
  have F:Fl c φ (s.heap.update Tb (Obj.mapFields (·.setIfInBounds 3 (fr.elim Value.none fun f=>rawInt f)))) wh r k e (fr.elim .none fun f=>rawInt f):=
   ⟨dx,vs,Tb,⟨⟨sl,ex⟩,O.sz,⟨t0,t1,t2,t3,at_.keep fun o z=>(other _ dx fun q=>Y.nd q.symm).trans z⟩,O.ok⟩,dx1,dx2,dx3,Y.at1,Y.own,Y.off,Y.ne,Y.nd,_,_,vq _ y8 (Aa (Cb y9 _)),Cb y9 _,(Nc hsz)⟩
  obtain ⟨X',st⟩:=X.turn (t:=s.toks) (φ':=φ) (S:=(·=Tb)) (fun b q=>q▸⟨Y.own,Y.off⟩) (fun b o z n=> .upd z n) (e8 _) (fun j=> .inl)
   (by
    obtain ⟨dx,vs,Tb,a1,a2,a3,a4,a5⟩:=F
    refine ⟨dx,vs,a1,a2,a3,a4,.inr ⟨Tb,_,a5,?_⟩⟩
    cases fr with
    |none=>exact .inl rfl
    |some L=>exact .inr ⟨L,(hfr.resolve_left nofun).symm,rfl⟩)
  exact FS y8 y9 hsz (hW _ F X' st)
noncomputable def Up (c:aS) (E:Value->Shared->Prop):Value->Shared->Prop:=notedBy c.g.M c.A c.env fun e s'=>cameBackBy c.g.M c.A c.env E e s'
theorem aL.tn (x:aL c φ s φ₁ s₁) (t:∀ b∈c.touch,s.heap.get? b≠none):∀ b∈c.touch,s₁.heap.get? b≠none:=fun b m q=>by
 cases z:s.heap.get? b with
 |none=>exact t b m z
 |some o=>
  obtain ⟨o',e,_⟩:=x.tch b m o z
  rw [q] at e;cases e
theorem SG (S:Rq c) (T1:mi c L outer) (tn:∀ b∈c.touch,s.heap.get? b≠none) (f:∀ e φ' s',nh c φ' s'.heap wh r k e->aL c φ s φ' s'->E (.ref e) s') (e:Addr) (φ':a9) (s':Shared) (X:nh c φ' s'.heap wh r k e) (st:aL c φ s φ' s'):Up c E (.ref e) s':=
 Eb T1 S.stack (st.tn tn) X fun h₁ φ₁ tr X₁ st₁=>by
  obtain ⟨o,vs,Tb,z1,z2,z3⟩:=id tr
  refine ax (f8 z1 z2 z3 ?_)
  rw [b7 nofun]
  exact qc (s:={s' with heap:=h₁}) X₁ tr (.inr rfl) fun h₂ j X₂ st₂=>f e _ _ X₂ (st.trans (st₁.trans st₂))
theorem bh.up {rs:RS} {Q:PySem.Flow->Shared->Prop} (f:bh c φ s rs Q E) (I:ay c φ l σ s.heap) (T1:mi c L outer):bh c φ s rs Q (Up c E):=by
 cases rs with
 |bad=>exact f
 |ok=>exact f
 |exc=>exact SG I.st T1 (fun b m q=>eT q (I.there m)) f
theorem bh.loop {rs:RS} {kk:Sx} {Q Q':PySem.Flow->Shared->Prop} (f:bh c φ s (rs.loop kk) Q E) (st:aL c φ s φ₁ s₁) (hn:∀ φ₂ l₂ σ₂ s₂,aL c φ₁ s₁ φ₂ s₂->ay c φ₂ l₂ σ₂ s₂.heap->bh c φ s (kk l₂ σ₂) Q E->Q' .next s₂)
  (hb:∀ s₂,Q .next s₂->Q' .brk s₂) (hr:∀ y s₂,Q (.ret y) s₂->Q' (.ret y) s₂):bh c φ₁ s₁ rs Q' E:=by
 cases rs with
 |bad=>exact f
 |exc=>exact bh.step st f
 |ok g l₁ σ₁=>cases g with
  |nxt=>exact fun φ₂ y s₂ st₂ I₂ r=>r.nxtE (C:=fun y=>Q' y s₂) (hn φ₂ _ _ s₂ st₂ I₂ f)
  |brk=>exact fun φ₂ y s₂ st₂ I₂ r=>r.brkE (C:=fun y=>Q' y s₂) (hb _ (f φ₂ _ s₂ (st.trans st₂) I₂ trivial))
  |ret v=>exact fun φ₂ y s₂ st₂ I₂ r=>r.retE (C:=fun y=>Q' y s₂) fun y r=>hr _ _ (f φ₂ _ s₂ (st.trans st₂) I₂ r)
theorem Pi {e:PySem.Expr} {t:Tx} {body:List Stmt} {b:Sx} {pos:Pos} (T1:mi c L outer) (ht:ju c e t) (hb:k9 c body b):fJ c (.While e body [] pos) (Mine.wh t b):=fun φ l σ s Q E I f=>
 wpAny_While (codeAny_whileLoop (fun n s'=>∃ φ' l' σ',ay c φ' l' σ' s'.heap/\bh c φ' s' (jq t b n l' σ') Q (Up c E)) (fun n s' ⟨φ',l',σ',I',f⟩=>by
  cases n with
  |zero=>exact f.elim
  |succ n=>exact ht _ _ _ _ _ _ I' (bh.bind f fun v j j j j j I₁ e f=>by
    cases e
    cases v with
    |false=>exact yh (f.here I₁ trivial)
    |true=>exact hb _ _ _ _ _ _ I₁ (bh.loop f .refl (fun j j j j st₂ I₂ f=>⟨n,yP n,_,_,_,I₂,bh.step st₂ f⟩) (fun j=>id) fun j j=>id))) fw ⟨φ,l,σ,I,f.up I T1⟩)
end
end
section
structure Mf (g:G) (A:Around) (It:Addr) (S:List Addr) (nx:Nat->ai->Option (Option I)) (St:Nat->Heap->Prop) (Ok:a9->Prop):Prop where
 frame:∀ {i h h'},St i h->(∀ b∈S,∀ o,h.get? b=some o->h'.get? b=some o)->TK h h'->St i h'
 there:∀ {i h b},St i h->b∈S->∃ o,h.get? b=some o/\NT o
 up:∀ {φ φ'},Ok φ->φ<+:φ'->Ok φ'
 item:∀ {i x φ σ} {s:Shared} {Q:Option Value->Shared->Prop} {E:Value->Shared->Prop},Ok φ->SR g s.heap σ φ->nx i σ=some (some x)->St i s.heap->
  (∀ v h' tk,aX g.D h' x v->St (i+1) h'->(∀ b o,b∉S->s.heap.get? b=some o->h'.get? b=some o)->Q (some v) {s with heap:=h',toks:=tk})->wpAny g.M A (pyNext (.ref It)) Q E s
 done:∀ {i φ σ} {s:Shared} {Q:Option Value->Shared->Prop} {E:Value->Shared->Prop},Ok φ->SR g s.heap σ φ->nx i σ=some none->St i s.heap->
  (∀ h' tk,(∀ b o,b∉S->s.heap.get? b=some o->h'.get? b=some o)->Q none {s with heap:=h',toks:=tk})->wpAny g.M A (pyNext (.ref It)) Q E s
 go:∀ {i} {s:Shared} {tg:PySem.Expr} {v:Value} {Q:Unit->Shared->Prop} {E:Value->Shared->Prop},St (i+1) s.heap->
  (∀ h',St (i+1) h'->(∀ b o,b∉S->s.heap.get? b=some o->h'.get? b=some o)->Q () {s with heap:=h'})->wpAny g.M A (letOwnedTupleGo tg (.ref It) v) Q E s
 self:∀ {i} {s:Shared} {Q:Value->Shared->Prop} {E:Value->Shared->Prop},St i s.heap->Q (.ref It) s->wpAny g.M A (pyIter (.ref It)) Q E s
noncomputable def GA (xs:List I) (i:Nat) (_:ai):Option (Option I):=match Nat.ble i xs.length with
 |true=>some xs[i]?
 |false=>none
def Md:uA->Nat->ai->Option (Option I)
 | .xs xs=>GA xs
 | .lst n=>sK n
noncomputable def ky:List String:=["enumerate", "zip", "dict_itemiterator", "dict_reverseitemiterator", "odict_iterator", "itertools.zip_longest", "itertools.pairwise"]
def Bw (c:aS) (hs:Heap) (φ:a9) (h:Heap) (its:uA) (y:Value):Prop:=∃ h0:Heap,(∀ b o,h0.get? b=some o->h.get? b=some o)/\(∀ b,h0.get? b=none->hs.get? b=none)/\∀ (s:Shared) (Q:Value->Shared->Prop) (E:Value->Shared->Prop),s.heap=h->
 (∀ It S St Ok h' tk,(∀ b o,h.get? b=some o->h'.get? b=some o)->(∀ b∈S,h0.get? b=none/\d9 c b/\b∉own φ)->Mf c.g c.A It S (Md its) St Ok->St 0 h'->Ok φ->Q (.ref It) {s with heap:=h',toks:=tk})->c.wp (pyIter y) Q E s
def mo (c:aS) (e:PySem.Expr) (x:Hx):Prop:=∀ φ l σ s Q E,ay c φ l σ s.heap->Fin (Bw c s.heap) c φ l s (x l σ) Q E->c.wp (eval e c.env) Q E s
section
variable {c:aS} {g:G} {A:Around} {φ φ₁ φ':a9} {l l':av} {σ σ':ai} {s s₁ s':Shared} {h h' h0:Heap} {E:Value->Shared->Prop} {It a:Addr} {xs:List I} {vs:List Value} {e e':PySem.Expr} {x y:Ex} {pos np:Pos}
theorem BC {o:Obj} {T:String} {tg:PySem.Expr} {v:Value} {Q:Unit->Shared->Prop} (ho:s.heap.get? It=some o) (hc:o.cls= .type T) (hT:ky.contains T=false) (q:Q () s):wpAny g.M A (letOwnedTupleGo tg (.ref It) v) Q E s:=by
 have key:∀ a,wpAny g.M A (do
    let o <-load It
    match o.cls,o.data with
    | .type n,.fields vs=>
     if ky.contains n && vs[0]?==some (rawInt a) then
      rule "for.unpacks-the-owned-tuple"
      updateField It 0 .none
    |_,_=>pure ():Sem Unit) Q E s:=fun a=>by
  refine ax (wpAny_load ho ?_)
  rw [hc]
  cases o.data with
  |fields vs=>
   dsimp only
   rw [hT]
   exact aY q
  |_=>exact aY q
 unfold letOwnedTupleGo
 cases tg<;>first |exact aY q |(cases v<;>first |exact aY q |exact key _)
theorem wt {i:Nat} {x:Mine.I} (e:GA xs i []=some (some x)):xs[i]?=some x:=by
 unfold GA at e
 cases q:Nat.ble i xs.length with
 |true=>rw [q] at e;exact bO e
 |false=>rw [q] at e;cases e
theorem BB {i:Nat} (e:GA xs i []=some none):i=xs.length:=by
 unfold GA at e
 cases q:Nat.ble i xs.length with
 |true=>rw [q] at e;exact Nat.le_antisymm (aI q) (Bj.mp (bO e))
 |false=>rw [q] at e;cases e
theorem GB {n:Nat} {P:Nat->Value->Prop} {St:Nat->Heap->Prop} {T:String} (W:Walks g.p g.w A It [It] [It] n P St) (hl:xs.length=n) (hP:∀ i x v h,xs[i]?=some x->P i v->aX g.D h x v)
  (hT:∀ i h,St i h->∃ o,h.get? It=some o/\o.cls= .type T) (hk:ky.contains T=false) (nt:Value.type T≠ .type "tuple"):Mf g A It [It] (GA xs) St (fun j=>True) where
 frame st k _:=W.frame _ _ _ st k
 there st hb:=let ⟨o,ho,hc⟩:=hT _ _ st;⟨o,cY.mp hb▸ho,.inl fun q=>nt (hc.symm.trans q)⟩
 up _ _:=trivial
 item _ _ e st hQ:=W.item _ _ _ _ (hl▸(gL.mp (wt e)).1) st fun v h' tk p st' k=>hQ v h' tk (hP _ _ v h' (wt e) p) st' k
 done _ _ e st hQ:=W.done _ _ _ (by rw [<-hl,<-BB e];exact st) hQ
 go st hQ:=let ⟨_,ho,hc⟩:=hT _ _ st;BC ho hc hk (hQ _ st fun j j j e=>e)
 self:=W.self _ _ _ _
theorem hU {b:Addr} {P:Addr->Prop} (p:P a) (m:b∈[a]):P b:=cY.mp m▸p
theorem lz {S:List Addr} (hS:∀ b∈S,∃ o,h.get? b=some o/\NT o) (k:∀ b o,b∉S->h.get? b=some o->h'.get? b=some o):TK h h':=
 TK.of (S:=(·∈S)) (fun b o m e=>let ⟨o',e',n⟩:=hS b m;bO (e'.symm.trans e)▸n) fun b o e n=>⟨_,k b o n e⟩
theorem aL.no (I:ay c φ l σ s.heap) (st:aL c φ s φ' s') (I':ay c φ' l' σ' s'.heap) {b:Addr} (n:s'.heap.get? b=none):s.heap.get? b=none:=
 kJ.mpr fun o e=>by
  by_cases m:b∈own φ
  ·exact (I'.new n).2 (uk st.pre m)
  ·by_cases m2:b∈c.touch
   ·exact (I'.new n).1.touch m2
   ·exact (st.keep b o e m m2).ne n
theorem CY:Value.type "tuple_iterator" ≠ .type "tuple" /\Value.type "list_iterator" ≠ .type "tuple" /\Value.type "str_ascii_iterator" ≠ .type "tuple" /\Value.type "range_iterator" ≠ .type "tuple" :=by decide+kernel
theorem HH:ky.contains "tuple_iterator" =false/\ky.contains "list_iterator" =false/\ky.contains "str_ascii_iterator" =false/\ky.contains "range_iterator" =false:=by decide+kernel
theorem Yi (fr:(∀ b,h.get? b=none->h0.get? b=none)/\d9 c h.objs.size/\h.objs.size∉own φ) (hh:c.A.handled=none) (ht:IsTup h a vs.toArray) (r:IReps c.g.D h xs vs):Bw c h0 φ h (.xs xs) (.ref a):=⟨h,fun j j=>id,fr.1,fun s Q E e hQ=>by
 subst e
 have fr:=And.intro (a0 s.heap) fr.2
 have keep:=fc s.heap {cls:= .type "tuple_iterator",data:= .fields #[.ref a,.int 0 0]}
 have tk:TK s.heap _:=TK.of (S:=fun j=>False) (fun j j q=>q.elim) fun b o e j=>⟨_,keep b o e⟩
 have th:∀ {i h b},Heap.IsTupleIter h s.heap.objs.size a i->b∈[s.heap.objs.size]->∃ o,h.get? b=some o/\NT o:=fun st m=>hU (P:=fun b=>∃ o,Heap.get? _ b=some o/\NT o) (let ⟨o,ho,hc,_⟩:=st;⟨o,ho,(.inl fun q=>CY.1 (hc.symm.trans q))⟩) m
 refine wpAny_pyIter_tuple ht (hQ _ [s.heap.objs.size] (fun i h=>h.IsTupleIter s.heap.objs.size a i/\IsTup h a vs.toArray/\TK s.heap h) (fun j=>True) _ s.toks keep (fun b m=>hU (P:=fun b=>s.heap.get? b=none/\d9 c b/\b∉own φ) fr m) ?_ ⟨⟨_,fB _ rfl,rfl,rfl⟩,tk _ _ ht,tk⟩ trivial)
 exact {
  frame:=fun st k tk=>⟨st.1.at fun o e=>k _ (.head _) o e,tk _ _ st.2.1,fun j j z=>tk _ _ (st.2.2 _ _ z)⟩
  there:=fun st m=>th st.1 m
  up:=fun j j=>trivial
  item:=fun {i x φ σ s' Q E} _ _ e st hQ=>by
   obtain ⟨v,hv,rv⟩:=r.get (wt e)
   refine wpAny_pyNext_tuple_item st.1 st.2.1 (x:=v) (vp.trans hv) fun h' hit sb=>?_
   have k:∀ b o,b∉[s.heap.objs.size]->s'.heap.get? b=some o->h'.get? b=some o:=fun b o hb e=>sb.extBut b o (fun q=>hb (q▸ .head _)) e
   have tk:=lz (fun b m=>th st.1 m) k
   exact hQ v h' s'.toks ((rv.keep st.2.2).keep tk) ⟨hit,tk _ _ st.2.1,fun j j z=>tk _ _ (st.2.2 _ _ z)⟩ k
  done:=fun {i φ σ s' Q E} _ _ e st hQ=>wpAny_pyNext_tuple_end hh st.1 st.2.1 (by rw [BB e,vp,Bj,r.length];exact cR _) fun h' eb=>hQ h' s'.toks fun b o hb e=>eb b o (fun q=>hb (q▸ .head _)) e
  go:=fun st hQ=>let ⟨_,ho,hc,_⟩:=st.1;BC ho hc HH.1 (hQ _ st fun j j j e=>e)
  self:=fun st q=>wpAny_pyIter_tupleiter st.1 q}⟩
theorem Yh {x:T} {t:Tok} (fr:(∀ b,h.get? b=none->h0.get? b=none)/\d9 c h.objs.size/\h.objs.size∉own φ) (hh:c.A.handled=none) (q:dH x):Bw c h0 φ h (.xs (x.map fun c=> .str [c])) (.str (aD x) t):=⟨h,fun j j=>id,fr.1,fun s Q E e hQ=>by
 subst e
 have fr:=And.intro (a0 s.heap) fr.2
 have ha:(aD x).cps.all (·< 128)=true:=by
  rw [List.all_toArray,List.all_eq_true]
  exact fun c m=>jn (q.2 c m)
 refine wpAny_pyIter_ascii ha (hQ _ [s.heap.objs.size] _ (fun j=>True) _ s.toks (fc _ _) (fun b m=>hU (P:=fun b=>s.heap.get? b=none/\d9 c b/\b∉own φ) fr m) (GB (T:= "str_ascii_iterator") (Walks.strAscii hh _ (aD x) t) (cD _) (fun i y v h e p=>?_) (fun i h st=>let ⟨o,ho,hc,_⟩:=st;⟨o,ho,hc⟩) HH.2.2.1 CY.2.2.1) ⟨_,fB _ rfl,rfl,rfl⟩ trivial)
 obtain ⟨c',u,hc,rfl⟩:=p
 have hc':x[i]?=some c':=List.getElem?_toArray.symm.trans hc
 rw [FM,hc'] at e
 cases e
 exact .str [c'] u ⟨by show 1<=aJ;decide,fun z hz=>cY.mp hz▸q.2 _ (yF hc')⟩⟩
theorem Qr {n:Nat} {a:Int} {i:Nat} (h:i< n):(HS n a)[i]?=some (.int (a+i)):=by
 induction n generalizing a i with
 |zero=>exact absurd h (ie _)
 |succ n ih=>cases i with
  |zero=>rw [show (a+((0:Nat):Int))=a from Int.add_zero a];rfl
  |succ i=>exact (ih (a:=a+1) (rt h)).trans (by rw [Int.add_assoc,show (1:Int)+(i:Int)=((i+1:Nat):Int) from Int.add_comm ..])
theorem GO {n:Nat} {a:Int}:(HS n a).length=n:=by
 induction n generalizing a with
 |zero=>rfl
 |succ n ih=>exact aM Nat.succ ih
theorem Yl {r:Addr} {a b:Int} {t u v:Tok} (fr:(∀ b,h.get? b=none->h0.get? b=none)/\d9 c h.objs.size/\h.objs.size∉own φ) (hh:c.A.handled=none) (hr:IsRange h r a b 1 t u v) (ha:ko a=true) (hb:ko b=true):Bw c h0 φ h (.xs (MJ a b)) (.ref r):=⟨h,fun j j=>id,fr.1,fun s Q E e hQ=>by
 subst e
 have fr:=And.intro (a0 s.heap) fr.2
 have ha':a.natAbs< 2 ^ 60:=aI ha
 have hb':b.natAbs< 2 ^ 60:=aI hb
 have hz:Builtin.Range.rangeSize a b 1=((b - a).toNat:Int):=by
  rw [rangeSize_one]
  split<;>omega
 refine wpAny_pyIter_range hr (small_one (by omega) (by omega) (by omega) (by omega)) (hQ _ [s.heap.objs.size] _ (fun j=>True) _ s.toks (fc _ _) (fun b m=>hU (P:=fun b=>s.heap.get? b=none/\d9 c b/\b∉own φ) fr m)
  (GB (T:= "range_iterator") (Walks.range hh _ a 1 (b - a).toNat) GO (fun i y v h e p=>?_) (fun i h st=>⟨_,st,rfl⟩) HH.2.2.2 CY.2.2.2) ?_ trivial)
 ·obtain ⟨t',rfl⟩:=p
  have hi:=(gL.mp e).1
  rw [MJ,GO] at hi
  rw [MJ,Qr hi] at e
  cases e
  rw [Int.mul_one]
  exact .int _ _
 ·show IsRangeIter _ _ _ _ _
  rw [hz,Int.natCast_zero,Int.zero_mul,Int.add_zero,Int.sub_zero]
  exact fB s.heap rfl⟩
theorem Xo {n:Nat} (fr:(∀ b,h.get? b=none->h0.get? b=none)/\d9 c h.objs.size/\h.objs.size∉own φ) (hh:c.A.handled=none) (At:Ms c φ σ h n xs a):Bw c h0 φ h (.lst n) (.ref a):=⟨h,fun u u=>id,fr.1,fun s Q E e hQ=>by
 subst e
 have fr:=And.intro (a0 s.heap) fr.2
 obtain ⟨vs,j,ho,rr⟩:=At.ob
 have th:∀ {i h b},Heap.IsListIter h s.heap.objs.size a i->b∈[s.heap.objs.size]->∃ o,h.get? b=some o/\NT o:=fun st m=>hU (P:=fun b=>∃ o,Heap.get? _ b=some o/\NT o) (let ⟨o,ho,hc,_⟩:=st;⟨o,ho,(.inl fun q=>CY.2.1 (hc.symm.trans q))⟩) m
 have at_:∀ {i φ σ h x},φ[n]?=some [a]->SR c.g h σ φ->sK n i σ=some x->∃ xs vs,h.IsList a (List.toArray vs)/\IReps c.g.D h xs vs/\xs[i]?=x:=fun {i φ σ h x} ok sr e=>by
  unfold sK at e
  cases q:aP σ n with
  |none=>rw [q] at e;cases e
  |some cell=>
   rw [q] at e
   cases cell with
   |list xs=>
    obtain ⟨as',q2,cr⟩:=sr.at q
    rw [ok] at q2
    cases q2
    cases cr with |list ho rr _=>exact ⟨xs,_,dy ho,rr,bO e⟩
   |_=>cases e
 refine wpAny_pyIter_list (dy ho) (hQ _ [s.heap.objs.size] (fun i h=>h.IsListIter s.heap.objs.size a i) (fun φ=>φ[n]?=some [a]) _ s.toks (fc _ _) (fun b m=>hU (P:=fun b=>s.heap.get? b=none/\d9 c b/\b∉own φ) fr m) ?_ ⟨_,fB _ rfl,rfl,rfl⟩ At.q)
 exact {
  frame:=fun st k u=>st.at fun o e=>k _ (.head _) o e
  there:=th
  up:=fun ok p=>iZ p ok
  item:=fun {i x φ σ s' Q E} ok sr e st hQ=>by
   obtain ⟨xs,vs,hl,rr,q⟩:=at_ ok sr e
   obtain ⟨v,hv,rv⟩:=rr.get q
   refine wpAny_pyNext_list_item st hl (x:=v) (vp.trans hv) fun h' hit sb=>?_
   have k:∀ b o,b∉[s.heap.objs.size]->s'.heap.get? b=some o->h'.get? b=some o:=fun b o hb e=>sb.extBut b o (fun q=>hb (q▸ .head _)) e
   exact hQ v h' s'.toks (rv.keep (lz (fun b m=>th st m) k)) hit k
  done:=fun {i φ σ s' Q E} ok sr e st hQ=>by
   obtain ⟨xs,vs,hl,rr,q⟩:=at_ ok sr e
   exact wpAny_pyNext_list_end hh st hl (by rw [vp,Bj,<-rr.length];exact Bj.mp q) fun h' eb=>hQ h' s'.toks fun b o hb e=>eb b o (fun q=>hb (q▸ .head _)) e
  go:=fun st hQ=>let ⟨_,ho,hc,_⟩:=id st;BC ho hc HH.2.1 (hQ _ st fun u u u e=>e)
  self:=fun st q=>wpAny_pyIter_listiter st q}⟩
theorem MM (ha:aK c e x):mo c e (di x):=fun j j j s j j I f=>ha _ _ _ _ _ _ I (f.bind fun j j j s₁ j st I₁ r f=>
 have fr:=And.intro (fun j=>st.no I I₁) (I₁.new (a0 s₁.heap))
 have hh:=I.st.hand
 f.tup r (fun j j j a1 j a3 f=>f.here I₁ (Yi fr hh a1 a3)) fun f=>f.str r (fun j j q f=>f.here I₁ (Yh fr hh q)) fun f=>f.list I₁ r (fun j j j A f=>f.here I₁ (Xo fr hh A)) Fin.bad)
theorem GT {i j:Int} {t u v:Tok} {s₁:Shared} {tks:Nat} {Q:Value->Shared->Prop} (I:ay c φ l σ s.heap) (st:aL c φ s φ₁ s₁) (I₁:ay c φ₁ l σ' s₁.heap) (f:Fin (Bw c s.heap) c φ₁ l s₁ (gd (ko i && ko j) (.ok (.xs (MJ i j)) σ')) Q E):
  Q (.ref s₁.heap.objs.size) {s₁ with heap:=s₁.heap.push {cls:= .type "range",data:= .fields #[.int i t,.int j u,.int 1 v]},toks:=tks}:=f.gd fun q f=>
 have q:=(Bool.and_eq_true _ _).mp q
 have no:∀ {b},(s₁.heap.push {cls:= .type "range",data:= .fields #[.int i t,.int j u,.int 1 v]}).get? b=none->s₁.heap.get? b=none:=fun n=>kJ.mpr fun o e=>by
  rw [fc s₁.heap {cls:= .type "range",data:= .fields #[.int i t,.int j u,.int 1 v]} _ _ e] at n;cases n
 f.grow I₁ (dr _ _) fun w=>Yl ⟨fun w n=>st.no I I₁ (no n),I₁.new (no (a0 _))⟩ I.st.hand (IsRange.new ..) q.1 q.2
theorem Uj (hg:dh c (Str.ofString "range") (.type "range")) (ns:bI e=true) (ha:aK c e x):mo c (.Call (.Name (Str.ofString "range") np) [e] [] pos) (gO (aN (.int (.ofNat 0))) x):=fun φ l σ s Q E I (f:Fin (Bw c s.heap) c φ l s ((x l σ).bind fun y σ=>cG (fun y=>gd (ko 0 && ko y) (.ok (.xs (MJ 0 y)) σ)) .bad y) Q E)=>
 zp (hg s _ _ _ I.stay (sF (first:=[]) (.inr ⟨_,rfl⟩) (.cons ns ha .nil) (kg ns ha I f fun j j j j j st I₁ r f=>f.int r (fun j j f=>call_range_1 (GT (v:=_) I st I₁ f)) Fin.bad)))
theorem Uk (hg:dh c (Str.ofString "range") (.type "range")) (ns:bI e=true) (ns':bI e'=true) (ha:aK c e x) (hb:aK c e' y):mo c (.Call (.Name (Str.ofString "range") np) [e,e'] [] pos) (gO x y):=fun j j j s j j I f=>
 zp (hg s _ _ _ I.stay (sF (first:=[]) (.inr ⟨_,rfl⟩) (.cons ns ha (.cons ns' hb .nil)) (spliced_more (ha _ _ _ _ _ _ I (f.bind fun j j j j j st I₁ ra f=>kg ns' hb I₁ f fun j j j j j st₂ I₂ rb f=>
  f.int (ra.step st₂.pre (I₁.tk st₂)) (fun j j f=>f.int rb (fun j j f=>call_range_2 (GT I (st.trans st₂) I₂ f)) Fin.bad) Fin.bad)) (eO ns))))
theorem ay.iter {S:List Addr} (I:ay c φ l σ h) (ap:∀ b∈S,d9 c b/\b∉own φ) (nt:∀ b∈S,∃ o,h.get? b=some o/\NT o) (k:∀ b o,b∉S->h.get? b=some o->h'.get? b=some o):ay c φ l σ h':=
 have g:fR c (·∈S) h h':= .of (fun m=>(ap _ m).1.touch (.head _)) fun b o e n=> .refl (k b o n e)
 have hS:∀ b,b∈S->Gm c h b:=fun b m=>⟨(ap b m).1,fun o e=>let ⟨_,e',n⟩:=nt b m;bO (e'.symm.trans e)▸n⟩
 I.to g hS (e8 _) (I.sto.mono (fun b m o e=>k b o (fun q=>(ap b q).2 m) e) (g.tk hS I.nsx)) I.nd fun j=> .inl
theorem aL.iter {S:List Addr} {t:Nat} (st:aL c φ s φ' s') (f:∀ b∈S,s.heap.get? b=none/\d9 c b) (k:∀ b o,b∉S->s'.heap.get? b=some o->h'.get? b=some o):aL c φ s φ' {s' with heap:=h',toks:=t}:=
 ⟨st.pre,st.new,fun b o e n1 n2=>let ⟨sl,q,kk⟩:=st.keep b o e n1 n2;⟨sl,k b _ (fun m=>nomatch (f b m).1.symm.trans e) q,kk⟩,
  fun b m o e=>let ⟨o',q,n'⟩:=st.tch b m o e;⟨o',k b _ (fun z=>(f b z).2.touch m) q,n'⟩,st.same⟩
theorem Q4 {S:List Addr} (ap:∀ b∈S,d9 c b/\b∉own φ) (st:aL c φ s φ' s') (nt:∀ b∈S,∃ o,s.heap.get? b=some o/\NT o):(∀ b∈S,d9 c b/\b∉own φ')/\∀ b∈S,∀ o,s.heap.get? b=some o->s'.heap.get? b=some o:=
 ⟨fun b m=>⟨(ap b m).1,fun q=>(st.new b q).elim (ap b m).2 fun z=>eT z (nt b m)⟩,fun b m o e=>(st.keep b o e (ap b m).2 (ap b m).1.touch).eq (ap b m).1.fa⟩
end
end
section
section
variable {α γ S ρ:Type} {R:a9->Heap->α->γ->Prop} {c:aS} {φ φ₁ φ' φ₀:a9} {l l':av} {σ σ':ai} {s s₁ s' s₀:Shared} {h h' h0:Heap} {E:Value->Shared->Prop}
def Wk (bad:ρ) (fin:S->ai->ρ) (stp:I->(S->ai->ρ)->S->ai->ρ) (n i:Nat):uA->S->ai->ρ
 | .xs xs=>pF fin stp (xs.drop i)
 | .lst m=>iu bad fin stp m n i
noncomputable def Wm (n i:Nat):uA->Prop
 | .xs xs=>i+n=xs.length
 | .lst _=>True
def W0:uA->Nat
 | .xs xs=>xs.length
 | .lst _=>fw
theorem wm0 (its:uA):Wm (W0 its) 0 its:=by
 cases its with
 |xs xs=>exact om _
 |lst n=>trivial
theorem wk0 {bad:ρ} {fin:S->ai->ρ} {stp:I->(S->ai->ρ)->S->ai->ρ} (its:uA):Ad bad fin stp its=Wk bad fin stp (W0 its) 0 its:=by cases its<;>rfl
theorem GF {bad:ρ} {fin:S->ai->ρ} {stp:I->(S->ai->ρ)->S->ai->ρ} {its:uA} {n i:Nat} {a:S} {F:ρ->Prop} (f:F (Wk bad fin stp n i its a σ)) (nb:F bad->False) (m:Wm n i its) {P:Prop} (h1:Md its i σ=some none->F (fin a σ)->P)
  (h2:∀ k x,k< n->Wm k (i+1) its->Md its i σ=some (some x)->F (stp x (Wk bad fin stp k (i+1) its) a σ)->P):P:=by
 cases its with
 |xs xs=>
  have m:i+n=xs.length:=m
  have hb:Nat.ble i xs.length=true:=gp (m▸mr i n)
  have nx:∀ y,xs[i]?=y->Md (.xs xs) i σ=some y:=fun y e=>by show GA xs i σ=_;unfold GA;rw [hb,e]
  have f':F (pF fin stp (xs.drop i) a σ):=f
  cases hx:xs[i]? with
  |none=>
   rw [List.drop_eq_nil_iff.mpr (Bj.mp hx)] at f'
   exact h1 (nx _ hx) f'
  |some x=>
   obtain ⟨lt,q⟩:=gL.mp hx
   rw [List.drop_eq_getElem_cons lt,q] at f'
   cases n with
   |zero=>exact absurd (m▸lt) (A8 _)
   |succ n=>exact h2 n x (yP n) (by show i+1+n=xs.length;rw [<-m,mv,lQ 1]) (nx _ hx) f'
 |lst k=>
  cases n with
  |zero=>exact (nb f).elim
  |succ n=>
   have f:F (iu bad fin stp k (n+1) i a σ):=f
   unfold iu at f
   cases hx:sK k i σ with
   |none=>rw [hx] at f;exact (nb f).elim
   |some y=>
    rw [hx] at f
    cases y with
    |none=>exact h1 hx f
    |some x=>exact h2 n x (yP n) trivial hx f
structure LS (c:aS) (φ₀:a9) (s₀:Shared) (S:List Addr) (X:Heap->Prop) (Ok:a9->Prop) (φ:a9) (l:av) (σ:ai) (s:Shared):Prop where
 st:aL c φ₀ s₀ φ s
 I:ay c φ l σ s.heap
 ap:∀ b∈S,d9 c b/\b∉own φ
 x:X s.heap
 ok:Ok φ
structure Fx (S:List Addr) (X:Heap->Prop):Prop where
 frame:∀ {h h'},X h->(∀ b∈S,∀ o,h.get? b=some o->h'.get? b=some o)->TK h h'->X h'
 there:∀ {h b},X h->b∈S->∃ o,h.get? b=some o/\NT o
variable {L:List Addr} {X X':Heap->Prop} {Ok:a9->Prop}
theorem LS.turn {t:Nat} (l1:LS c φ₀ s₀ L X Ok φ l σ s) (F:Fx L X) (fr:∀ b∈L,s₀.heap.get? b=none) (k:∀ b o,b∉L->s.heap.get? b=some o->h'.get? b=some o) (x:X' h'):LS c φ₀ s₀ L X' Ok φ l σ {s with heap:=h',toks:=t}:=
 ⟨l1.st.iter (fun b m=>⟨fr b m,(l1.ap b m).1⟩) k,l1.I.iter l1.ap (fun j=>F.there l1.x) k,l1.ap,x,l1.ok⟩
theorem LS.step (l1:LS c φ₀ s₀ L X Ok φ l σ s) (F:Fx L X) (up:∀ {φ φ'},Ok φ->φ<+:φ'->Ok φ') (st:aL c φ s φ' s') (I':ay c φ' l' σ' s'.heap):LS c φ₀ s₀ L X Ok φ' l' σ' s':=
 let ⟨a,b⟩:=Q4 l1.ap st fun j=>F.there l1.x
 ⟨l1.st.trans st,I',a,F.frame l1.x b (l1.I.tk st),up l1.ok st.pre⟩
theorem Mf.fx {g:G} {A:Around} {It:Addr} {nx:Nat->ai->Option (Option I)} {St:Nat->Heap->Prop} (W:Mf g A It L nx St Ok) (i:Nat):Fx L (St i):=⟨W.frame,W.there⟩
theorem aL.back {h0:Heap} (st:aL c φ s φ₁ s₁) (g:∀ b o,h0.get? b=some o->s₁.heap.get? b=some o) (fr:∀ b,h0.get? b=none->s.heap.get? b=none):aL c φ s φ₁ {s₁ with heap:=h0}:=
 have ge:∀ {b o o'},s.heap.get? b=some o->s₁.heap.get? b=some o'->h0.get? b=some o':=fun {b o o'} e q=>by
  cases z:h0.get? b with
  |none=>rw [fr b z] at e;cases e
  |some o2=>exact aM some (bO ((g b o2 z).symm.trans q))
 ⟨st.pre,st.new,fun b o e n1 n2=>let ⟨sl,q,k⟩:=st.keep b o e n1 n2;⟨sl,ge e q,k⟩,fun b m o e=>let ⟨o',q,n⟩:=st.tch b m o e;⟨o',ge e q,n⟩,st.same⟩
theorem bh.bind0 {r:RE α} {k:α->ai->RS} {Q:γ->Shared->Prop} {QS:PySem.Flow->Shared->Prop} (f:bh c φ s (r.bindS k) QS E) (hk:∀ v σ₁ φ₁ s₁ y,aL c φ s φ₁ s₁->ay c φ₁ l σ₁ s₁.heap->R φ₁ s₁.heap v y->bh c φ s (k v σ₁) QS E->Q y s₁):Fin R c φ l s r Q E:=by
 cases r with
 |bad=>exact f
 |ok v σ₁=>exact fun φ₁ y s₁ st I r=>hk v σ₁ φ₁ s₁ y st I r f
 |exc=>exact f
theorem XT {e tgt:PySem.Expr} {tg:List Nat} {body:List Stmt} {b:Sx} {pos:Pos} {x:Hx} {La:Addr} {outer:List Env} (T1:mi c La outer) (hs:∀ y,foldedSetIterable e c.env y=pure y) (hh:mo c e x) (T:Tg c tgt tg) (hb:k9 c body b):fJ c (.For tgt e body [] pos) (cI x tg b):=fun φ l σ s Q E I f=>
 wpAny_For (hh _ _ _ _ _ _ I (bh.bind0 f fun its σ₁ φ₁ s₁ y st I₁ ⟨h0,g0,no,r⟩ f=>r s₁ _ _ rfl fun It L St Ok h' tk keep ap W st0 ok=>by
  have f:=bh.up f I T1
  rw [wk0] at f
  have fr:∀ b∈L,s.heap.get? b=none:=fun b m=>no b (ap b m).1
  have g1:fR c (fun j=>False) s₁.heap h':= .all keep
  refine codeAny_forLoop_any (fun n s'=>∃ φ' l' σ' i,LS c φ s L (St i) Ok φ' l' σ' s'/\Wm n i its/\bh c φ s (Wk .bad (fun l σ=> .ok .nxt l σ) (gx tg b) n i its l' σ') Q (Up c E)) (fun n s' ⟨φ',l',σ',i,ls,m,f⟩=>?_) (W0 its)
   ⟨φ₁,l,σ₁,0,⟨st.trans (aL.to I₁ g1 (fun j=>False.elim) (e8 _) fun j=> .inl),I₁.mono g1,fun b m=>(ap b m).2,st0,ok⟩,wm0 its,f⟩
  refine GF (F:=fun r=>bh c φ s r Q (Up c E)) f id m (fun e f=>W.done ls.ok ls.I.sto e ls.x fun h' tk k=>?_) fun k x lt m e f=>W.item ls.ok ls.I.sto e ls.x fun v h1 tk rv st1 kk=>?_
  ·have l2:=ls.turn (X':=fun j=>True) (t:=tk) (W.fx i) fr k trivial
   exact yh (f _ .next _ l2.st l2.I trivial)
  ·have l1:=ls.turn (t:=tk) (W.fx i) fr kk st1
   refine W.go (s:={s' with heap:=h1,toks:=tk}) st1 fun h2 st2 k2=>?_
   have l2:=l1.turn (t:=tk) (W.fx (i+1)) fr k2 st2
   unfold gx at f
   cases hbd:Af tg x l' with
   |none=>rw [hbd] at f;exact f.elim
   |some l2'=>
    rw [hbd] at f
    exact asg T l2.I (rv.keep (lz (fun j=>W.there st1) k2)) hbd fun s4 st4 I4=>
     have l3:=l2.step (W.fx (i+1)) W.up st4 I4
     hb _ _ _ _ _ _ I4 (bh.loop f l3.st (fun φ₂ l₂ σ₂ s₂ stb Ib f=>⟨k,lt,φ₂,l₂,σ₂,i+1,l3.step (W.fx (i+1)) W.up stb Ib,m,f⟩) (fun j=>id) fun j j=>id))) hs
end
end
section
def lF (cells:List (Str×Addr)) (names:List (Str×NameKind)) (cl:List (Str×Addr)):Prop:=(cl.map (·.1)).Nodup/\∀ p,p∈cl↔cells.lookup p.1=some p.2/\(p.1,NameKind.free)∈names
theorem clo_go {env:Env} (f:Str×NameKind->List (Str×Addr)->Sem (ForInStep (List (Str×Addr)))) (hf:∀ n k cs,f (n,k) cs=if k== .free then (do let a <-cellOf env n;pure (.yield ((n,a)::cs))) else pure (.yield cs)) {names:List (Str×NameKind)} (h:∀ x∈names,x.2= .free->∃ a,env.cells.lookup x.1=some a)
  (nd:(names.map (·.1)).Nodup) (acc:List (Str×Addr)) (na:(acc.map (·.1)).Nodup) (ap:∀ x∈names,x.1∉acc.map (·.1)):∃ cl,forIn names acc f=pure cl/\(cl.map (·.1)).Nodup/\∀ p,p∈cl↔p∈acc\/(env.cells.lookup p.1=some p.2/\(p.1,NameKind.free)∈names):=by
 induction names generalizing acc with
 |nil=>exact ⟨acc,rfl,na,fun p=>⟨.inl,fun q=>q.elim id fun q=>nomatch q.2⟩⟩
 |cons x r ih=>
  obtain ⟨n,k⟩:=x
  have nd:=ej.mp nd
  rw [List.forIn_cons,hf]
  by_cases q:k= .free
  ·subst q
   obtain ⟨a,ha⟩:=h _ (.head _) rfl
   have hc:cellOf env n=pure a:=by unfold cellOf;rw [ha]
   rw [cq (show (NameKind.free==NameKind.free)=true from rfl),hc]
   obtain ⟨cl,c1,c2,c3⟩:=ih (fun x m=>h x (.tail _ m)) nd.2 ((n,a)::acc) (ej.mpr ⟨ap _ (.head _),na⟩) fun x m q=>(fy.mp q).elim (fun q=>nd.1 (q▸gI (f:=(·.1)) m)) (ap x (.tail _ m))
   refine ⟨cl,c1,c2,fun p=>(c3 p).trans ⟨fun z=>z.elim (fun z=>(fy.mp z).elim (fun z=> .inr ⟨z▸ha,z▸ .head _⟩) .inl) fun z=> .inr ⟨z.1,.tail _ z.2⟩,fun z=>z.elim (fun z=> .inl (.tail _ z)) fun z=>(fy.mp z.2).elim (fun q=> .inl ?_) fun q=> .inr ⟨z.1,q⟩⟩⟩
   have q:=aM (·.1) q
   have e:=z.1
   rw [q,ha] at e
   exact (Prod.ext q (bO e).symm:p=(n,a))▸ .head _
  ·rw [b7 fun z=>q (n9 z)]
   obtain ⟨cl,c1,c2,c3⟩:=ih (fun x m=>h x (.tail _ m)) nd.2 acc na fun x m=>ap x (.tail _ m)
   exact ⟨cl,c1,c2,fun p=>(c3 p).trans (or_congr_right (and_congr_right fun j=>⟨.tail _,fun z=>(fy.mp z).elim (fun z=>absurd (aM (·.2) z).symm q) id⟩))⟩
theorem WM {β:Type} {m:Sem β} {P:β->Prop} (h:∃ x,m=pure x/\P x):∃ x,(m>>=fun x=>pure x)=pure x/\P x:=let ⟨x,e,p⟩:=h;⟨x,by rw [e];rfl,p⟩
theorem aaL {env:Env} {scope:Scope} (h:∀ x∈scope.names,x.2= .free->∃ a,env.cells.lookup x.1=some a) (nd:(scope.names.map (·.1)).Nodup):∃ cl,closureFor scope env=pure cl/\lF env.cells scope.names cl:=
 WM ((clo_go (env:=env) _ (fun n k cs=>by cases hk:k==NameKind.free<;>simp [hk]) h nd [] .nil fun j j=>nofun).imp fun cl q=>⟨q.1,q.2.1,fun p=>(q.2.2 p).trans ⟨fun z=>z.elim nofun id,.inr⟩⟩)
theorem QX {n k:Nat} {l:av}:bN (GQ.clr1 n l) k=if k=n then none else bN l k:=by
 induction l generalizing n k with
 |nil=>cases n<;>exact (ite_self _).symm
 |cons x r ih=>cases n with
  |zero=>cases k<;>rfl
  |succ n=>cases k with
   |zero=>rfl
   |succ k=>exact (ih (n:=n) (k:=k)).trans (by simp only [Nat.succ.injEq];rfl)
theorem B4 {tg:List Nat} {k:Nat} {l:av}:bN (GQ tg l) k=if k∈tg then none else bN l k:=by
 induction tg generalizing l with
 |nil=>exact (b7 (fK)).symm
 |cons n r ih=>
  refine (ih (l:=GQ.clr1 n l)).trans ?_
  rw [QX]
  by_cases q:k∈r
  ·rw [cq q,cq (.tail _ q)]
  ·rw [b7 q]
   by_cases e:k=n
   ·rw [cq e,cq (e▸ .head _)]
   ·rw [b7 e,b7 fun m=>(fy.mp m).elim e q]
theorem wQ {α:Type} (q:Str->Bool) {l:List (Str×α)} {x:Str}:(l.filter fun p=>q p.1).lookup x=if q x=true then l.lookup x else none:=by
 induction l with
 |nil=>exact (ite_self _).symm
 |cons p r ih=>
  rw [List.filter_cons,rg]
  by_cases e:x=p.1
  ·rw [beq_iff_eq.mpr e,<-e]
   by_cases z:q x=true
   ·rw [cq z,cq z,rg,beq_iff_eq.mpr e]
   ·rw [b7 z,ih,b7 z,b7 z]
  ·rw [wu.mpr e]
   by_cases z:q p.1=true
   ·rw [cq z,rg,wu.mpr e];exact ih
   ·rw [b7 z];exact ih
noncomputable def lZ (env:Env):Str×NameKind->Str×NameKind:=fun (n,k)=>if (k==NameKind.free && env.scope.kind== .function && env.kindOf n==some .cell) then (n,NameKind.cell) else (n,k)
theorem qK {env:Env} {names:List (Str×NameKind)} {x:Str}:(names.map (lZ env)).lookup x=(names.lookup x).map fun k=>(lZ env (x,k)).2:=by
 induction names with
 |nil=>rfl
 |cons p r ih=>
  obtain ⟨n,k⟩:=p
  have e:lZ env (n,k)=(n,(lZ env (n,k)).2):=by unfold lZ;dsimp only;split<;>rfl
  rw [im,e,rg,rg]
  by_cases q:x=n
  ·rw [beq_iff_eq.mpr q,q];rfl
  ·rw [wu.mpr q];exact ih
theorem GP {env:Env} {x:Str}:(lZ env (x,.free)).2= .cell\/(lZ env (x,.free)).2= .free:=by
 unfold lZ
 dsimp only
 split
 ·exact .inl rfl
 ·exact .inr rfl
noncomputable def bZ (c:aS) (scope:Scope) (cl:List (Str×Addr)) (C:Addr):aS:={c with env:=compEnvC scope cl C c.env,ρ:=c.ρ.filter fun p=>scope.names.lookup p.1==some .local || scope.names.lookup p.1==some .free}
structure yL (c:aS) (scope:Scope) (tg:List Nat):Prop where
 kind:scope.kind= .function
 nocell:∀ x∈scope.names,x.2≠ .cell
 names:(scope.names.map (·.1)).Nodup
 free:∀ x∈scope.names,x.2= .free->∃ a,c.env.cells.lookup x.1=some a
 locs:∀ x n,c.ρ.lookup x=some n->scope.names.lookup x=some .local->n∈tg
 frees:∀ x n,c.ρ.lookup x=some n->scope.names.lookup x=some .free->n∉tg
 vis:∀ x,scope.names.lookup x=some .free->c.env.kindOf x=some .cell\/c.env.kindOf x=some .free
section
variable {c:aS} {φ φ₁ φ₂ φ':a9} {l l':av} {σ σ' σ₂:ai} {s s₁ s₂ s':Shared} {h h':Heap} {E:Value->Shared->Prop} {scope:Scope} {tg:List Nat} {C:Addr} {cl:List (Str×Addr)} {b:Addr}
theorem wo {α:Type} {x:Str} {v:α} {l:List (Str×α)} (n:(l.map (·.1)).Nodup):l.lookup x=some v↔(x,v)∈l:=⟨bQ,jO n⟩
theorem lF.look (K:lF c.env.cells scope.names cl) (sc:yL c scope tg) {x:Str} {a:Addr}:cl.lookup x=some a↔c.env.cells.lookup x=some a/\scope.names.lookup x=some .free:=
 (wo K.1).trans ((K.2 _).trans (and_congr_right fun j=>(wo sc.names).symm))
theorem Ck (K:lF c.env.cells scope.names cl) (m:b∈(bZ c scope cl C).touch):b=C\/∃ x,c.env.cells.lookup x=some b/\(x,NameKind.free)∈scope.names:=(fy.mp m).imp id fun m=>let ⟨p,hp,e⟩:=cZ.mp m;⟨p.1,e▸(K.2 p).mp hp⟩
theorem JE (K:lF c.env.cells scope.names cl) (n:b≠C) (nt:b∉c.touch):b∉(bZ c scope cl C).touch:=fun m=>(Ck K m).elim n fun ⟨_,q,_⟩=>nt (.tail _ (ue q))
theorem ay.enterC (I:ay c φ l σ h) (sc:yL c scope tg) (K:lF c.env.cells scope.names cl) (oC:d9 c C/\C∉own φ) (ns:∃ m,h.Ns C m):ay (bZ c scope cl C) φ (GQ tg l) σ h:=by
 have ct:∀ {p},p∈cl->p.2∈c.touch:=fun m=> .tail _ (ue ((K.2 _).mp m).1)
 refine ⟨⟨K.1,?_,fun b m=>(Ck K m).elim (fun q=>q▸oC.1.base) fun ⟨_,q,_⟩=>I.st.newT b (.tail _ (ue q)),fun m=>?_,I.st.hand,I.st.room,I.st.units,I.st.stack,sc.kind,I.st.nolim⟩,I.stay,I.frm,I.sto,I.nd,fun b m=>⟨(I.off b m).base,JE K (fun q=>oC.2 (q▸m)) (I.off b m).touch,(I.off b m).fa⟩,fun x n v h1 h2=>?_,ns,fun x a e=>I.cells x a ((K.look sc).mp e).1⟩
 ·have:∀ r:List (Str×Addr),(r.map (·.1)).Nodup->(∀ p∈r,p∈cl)->(r.map (·.2)).Nodup:=fun r=>by
   induction r with
   |nil=>exact fun j j=> .nil
   |cons p r ih=>
    intro n m
    have n:=ej.mp n
    refine ej.mpr ⟨fun q=>?_,ih n.2 fun p hp=>m p (.tail _ hp)⟩
    obtain ⟨p',hp',e⟩:=cZ.mp q
    have e:p'.2=p.2:=e
    have q:=bQ ((K.2 p').mp (m p' (.tail _ hp'))).1
    rw [e] at q
    exact n.1 (show p.1∈r.map (·.1) from vc I.st.ca q (bQ ((K.2 p).mp (m p (.head _))).1)▸gI (f:=(·.1)) hp')
  exact this cl K.1 fun j=>id
 ·obtain ⟨p,hp,e⟩:=cZ.mp m
  have e:p.2=C:=e
  exact oC.1.touch (e▸ct hp)
 ·rw [show (bZ c scope cl C).ρ.lookup x=_ from wQ (fun x=>scope.names.lookup x==some .local || scope.names.lookup x==some .free)] at h1
  rw [B4] at h2
  by_cases q1:(scope.names.lookup x==some .local || scope.names.lookup x==some .free)=true
  ·rw [cq q1] at h1
   by_cases hn:n∈tg
   ·rw [cq hn] at h2;cases h2
   ·rw [b7 hn] at h2
    have hfree:scope.names.lookup x=some .free:=((Bool.or_eq_true _ _).mp q1).elim (fun z=>absurd (sc.locs x n h1 (n9 z)) hn) n9
    obtain ⟨y,a,b⟩:=I.vars x n v h1 h2
    refine ⟨y,.inr ?_,b⟩
    rcases a with ⟨a,_⟩ |⟨cl,a,lk,ic⟩
    ·rcases sc.vis x hfree with z |z<;>rw [a] at z<;>cases z
    ·refine ⟨cl,?_,(K.look sc).mpr ⟨lk,hfree⟩,ic⟩
     show (relabel scope c.env).names.lookup x=_\/(relabel scope c.env).names.lookup x=_
     rw [show (relabel scope c.env).names.lookup x=_ from qK,hfree,Option.map_some]
     exact GP.imp (aM some) (aM some)
  ·rw [b7 q1] at h1;cases h1
theorem aL.comp {s₀:Shared} (K:lF c.env.cells scope.names cl) (ap:∀ b∈own φ₁,b∉c.touch) (fC:s₀.heap.get? C=none) (st:aL (bZ c scope cl C) φ₁ s₀ φ₂ s₂):aL c φ₁ s₀ φ₂ s₂:=
 have ne:∀ {b o},s₀.heap.get? b=some o->b≠C:=fun e q=>by rw [q,fC] at e;cases e
 ⟨st.pre,st.new,fun b o e n1 n2=>st.keep b o e n1 (JE K (ne e) n2),fun b m o e=>by
  by_cases q:b∈(bZ c scope cl C).touch
  ·exact st.tch b q o e
  ·obtain ⟨sl,q2,_⟩:=st.keep b o e (fun z=>ap b z m) q
   exact ⟨_,q2,id⟩,st.same⟩
theorem ay.backC {s₀:Shared} (I:ay c φ₁ l σ h) (sc:yL c scope tg) (K:lF c.env.cells scope.names cl) (k0:∀ b∈c.touch,∀ o,h.get? b=some o->s₀.heap.get? b=some o) (fC:s₀.heap.get? C=none) (st:aL (bZ c scope cl C) φ₁ s₀ φ₂ s₂) (tk:TK h s₂.heap)
  (I':ay (bZ c scope cl C) φ₂ (GQ tg l) σ₂ s₂.heap):ay c φ₂ l σ₂ s₂.heap:=by
 have kp:∀ b∈c.touch,(∀ x,c.env.cells.lookup x=some b->scope.names.lookup x≠some .free)->∀ o,h.get? b=some o->As c s₂.heap b o:=fun b m nf o e=>st.keep b o (k0 b m o e) (fun z=>(I.off b z).touch m) fun q=>(Ck K q).elim (fun q=>by
  have:=k0 b m o e
  rw [q,fC] at this;cases this) fun ⟨x,lk,q⟩=>nf x lk ((wo sc.names).mpr q)
 have kL:=kp _ (.head _) fun x lk=>absurd (ue lk) I.st.cL
 have kC:∀ {x a},c.env.cells.lookup x=some a->scope.names.lookup x≠some .free->∀ o,h.get? a=some o->As c s₂.heap a o:=fun {x a} lk nf=>kp a (.tail _ (ue lk)) fun x' lk'=>vc I.st.ca (bQ lk) (bQ lk')▸nf
 refine ⟨I.st,I'.stay,I'.frm,I'.sto,I'.nd,fun b m=>⟨(I'.off b m).base,fun q=>?_,(I'.off b m).fa⟩,fun x n v h1 h2=>?_,I.nsx.imp fun j q=>zX q kL,fun x a e=>?_⟩
 ·obtain ⟨o,e,_⟩:=I.there q
  exact (st.new b m).elim (fun z=>(I.off b z).touch q) fun z=>nomatch z.symm.trans (k0 b q o e)
 ·by_cases hf:scope.names.lookup x=some .free
  ·have h1':(bZ c scope cl C).ρ.lookup x=some n:=(wQ (fun x=>scope.names.lookup x==some .local || scope.names.lookup x==some .free)).trans ((cq (by rw [hf];rfl)).trans h1)
   obtain ⟨y,a,b⟩:=I'.vars x n v h1' (by rw [B4,b7 (sc.frees x n h1 hf)];exact h2)
   refine ⟨y,?_,b⟩
   rcases a with ⟨a,_⟩ |⟨cl,a,lk,ic⟩
   ·have a:(relabel scope c.env).names.lookup x=some .local:=a
    rw [show (relabel scope c.env).names.lookup x=_ from qK,hf,Option.map_some] at a
    rcases GP (env:=c.env) (x:=x) with z |z<;>rw [z] at a<;>cases a
   ·exact .inr ⟨cl,sc.vis x hf,((K.look sc).mp lk).1,ic⟩
  ·obtain ⟨y,a,b⟩:=I.vars x n v h1 h2
   exact ⟨y,a.imp (fun ⟨a,m,q,e⟩=>⟨a,m,zX q kL,e⟩) fun ⟨cl,a,lk,ic⟩=>⟨cl,a,lk,ui ic (kC lk hf)⟩,b.step st.pre tk⟩
 ·by_cases hf:scope.names.lookup x=some .free
  ·exact I'.cells x a ((K.look sc).mpr ⟨e,hf⟩)
  ·exact (I.cells x a e).imp fun j q=>ui q (kC e hf)
end
end
section
section
variable {prog:Program} {w:World} {A:Around} {R:Result->Shared->Prop} {s:Shared}
theorem vQ {elt target iter:PySem.Expr} {am:List PySem.Expr} {scope:Scope} {pos:Pos} {it acc:Value} {env:Env} (I:Nat->Shared->Prop)
  (turn:∀ n s (E:Value->Shared->Prop),I n s->wpAny (model prog w) A (pyNext it) (fun r s₁=>match r with
   |none=>R (.ok .next) s₁
   |some v=>wpAny (model prog w) A (letOwnedTupleGo target it v) (fun j s₁'=>wpAny (model prog w) A (assign target env v) (fun j s₂=>
     wpAny (model prog w) A (forIn am true fun c r=>if r=true then do let ok <-isTrue c env (eval c env);pure (ForInStep.yield ok) else pure (ForInStep.yield r)) (fun ok s₃=>
      if ok=true then wpAny (model prog w) A (eval elt env) (fun x s₄=>wpAny (model prog w) A (PySem.call (.builtin "list.append") [acc,x]) (fun j s₅=>∃ m,m< n/\I m s₅) E s₄) E s₃
      else ∃ m,m< n/\I m s₃) E s₂) E s₁') E s₁) E s)
  (n:Nat) (h:I n s):codeAny (model prog w) A (.compLoop (.ListComp elt [⟨target,iter,am,0⟩] scope pos) 0 it acc env) R s:=by
 refine codeAny_loop rfl I (fun n s hI=>?_) n h
 show wpAny _ A ((compTurn (.ListComp elt [⟨target,iter,am,0⟩] scope pos) 0 it acc env).onRaise (fun x=>do noteFrame x env;theTreesLotGoes x)) _ _ s
 refine wpAny_noted ?_
 rw [compTurn_list]
 refine ax (lB (ax (cQ (turn n s _ hI) (fun r s₁ h₁=>?_) fun j j h'=>h')))
 cases r with
 |none=>exact aY h₁
 |some v=>
  refine ax (cQ h₁ (fun j s₁' h₁'=>?_) fun j j h'=>h')
  refine ax (cQ h₁' (fun j s₂ h₂=>ax (cQ h₂ (fun ok s₃ h₃=>?_) fun j j h'=>h')) fun j j h'=>h')
  cases ok with
  |false=>exact aY ⟨rfl,h₃⟩
  |true=>exact ax (ax (cQ h₃ (fun x s₄ h₄=>ax (cQ h₄ (fun j s₅ h₅=>aY (aY ⟨rfl,h₅⟩)) fun j j h'=>h')) fun j j h'=>h'))
end
def kz (c:aS) (am:List PySem.Expr) (ct:Tx):Prop:=∀ φ l σ s Q E,ay c φ l σ s.heap->gz c φ l s (ct l σ) Q E->c.wp (forIn am true fun e r=>if r=true then do let ok <-isTrue e c.env (eval e c.env);pure (ForInStep.yield ok) else pure (ForInStep.yield r)) Q E s
section
variable {α β γ:Type} {R:a9->Heap->α->γ->Prop} {c c':aS} {φ φ₁ φ₂ φ':a9} {l l' l0:av} {σ σ':ai} {s s₁ s₂ s':Shared} {h h':Heap} {E:Value->Shared->Prop} {scope:Scope} {tg:List Nat} {e elt tgt iter:PySem.Expr} {am:List PySem.Expr} {pos p pos':Pos} {ct:Tx} {ex:Ex} {x:Hx}
theorem OI:kz c [] lL:=fun j j j j j j I f=>wpAny_tests_nil (f.here I rfl)
theorem PS (h:ju c e ct):kz c [e] ct:=fun φ l σ s Q E I f=>wpAny_tests_one (h φ l σ s Q E I f)
theorem P0 {ns:List Nat} {vs:List V} (e:vz l ns vs=some l') {n:Nat} (hn:n∉ns):bN l' n=bN l n:=by
 induction ns generalizing l vs with
 |nil=>cases vs<;>cases e;rfl
 |cons k ns ih=>cases vs with
  |nil=>cases e
  |cons v vs=>exact (ih (l:=bK l k v) e fun m=>hn (.tail _ m)).trans (by rw [wk,b7 fun q:n=_=>hn (q▸ .head _)])
theorem Qa {x:Mine.I} (T:Tg c tgt tg) (e:Af tg x l=some l') {n:Nat} (hn:n∉tg):bN l' n=bN l n:=by
 cases T with
 |one=>cases e;rw [wk,b7 fun q:n=_=>hn (q▸ .head _)]
 |many=>cases x with
  |tup xs=>exact P0 (show vz l _ _=some l' from e) hn
  |_=>cases e
theorem ay.weak (I:ay c φ l σ h) (e:∀ n v,bN l' n=some v->bN l n=some v):ay c φ l' σ h:=⟨I.st,I.stay,I.frm,I.sto,I.nd,I.off,fun x n v h1 h2=>I.vars x n v h1 (e n v h2),I.nsx,I.cells⟩
theorem MX {x:RE α} {k:α->ai->RE β} {r:β} {σ:ai} (e:xZ x k= .ok r σ):∃ a σ',x= .ok a σ'/\k a σ'= .ok r σ:=by
 cases x with
 |ok a σ'=>exact ⟨a,σ',rfl,e⟩
 |_=>cases e
def lc (g:G) (Dl:Addr) (acc:List Mine.I) (h:Heap):Prop:=∃ (vs:List Value) (k:Nat),h.get? Dl=some (listOf vs.toArray k)/\IReps g.D h acc vs/\acc.length<=aJ
theorem Fx.acc {S:List Addr} {X:Heap->Prop} {Dl:Addr} {acc:List Mine.I} {g:G} (F:Fx S X):Fx (Dl::S) fun h=>X h/\lc g Dl acc h where
 frame x k tk:=⟨F.frame x.1 (fun b m=>k b (.tail _ m)) tk,let ⟨vs,j,a,b,d⟩:=x.2;⟨vs,j,k _ (.head _) _ a,b.keep tk,d⟩⟩
 there x m:=(fy.mp m).elim (fun q=>let ⟨_,_,a,_⟩:=x.2;⟨_,q▸a,.inl sQ.2⟩) (F.there x.1)
theorem lc.keep {Dl:Addr} {acc:List Mine.I} {g:G} (x:lc g Dl acc h) (k:∀ o,h.get? Dl=some o->h'.get? Dl=some o) (tk:TK h h'):lc g Dl acc h':=let ⟨vs,j,a,b,d⟩:=x;⟨vs,j,k _ a,b.keep tk,d⟩
theorem Pu {It Dl:Addr} {S:List Addr} {St:Nat->Heap->Prop} {Ok:a9->Prop} {R:Result->Shared->Prop} {its:uA} {ys:List Mine.I} {σ₂:ai} {hb:Heap}
  (W:Mf c.g c.A It S (Md its) St Ok) (T:Tg c tgt tg) (ht:kz c am ct) (he:aK c elt ex) (clean:∀ n∈tg,bN l0 n=none) (ls:LS c φ s (Dl::S) (fun h=>(St 0 h/\TK hb h)/\lc c.g Dl [] h) Ok φ₁ l0 σ' s₁) (fr:∀ b∈Dl::S,s.heap.get? b=none) (nD:Dl∉S)
  (hr:Ad .bad .ok (gG tg ct ex l0) its [] σ'= .ok ys σ₂) (hR:∀ φ2 s2,LS c φ s (Dl::S) (fun h=>TK hb h/\lc c.g Dl ys h) Ok φ2 l0 σ₂ s2->R (.ok .next) s2):
  codeAny c.g.M c.A (.compLoop (.ListComp elt [⟨tgt,iter,am,0⟩] scope pos) 0 (.ref It) (.ref Dl) c.env) R s₁:=by
 rw [wk0] at hr
 have fx:∀ i,Fx S fun h=>St i h/\TK hb h:=fun i=>⟨fun x k tk=>⟨W.frame x.1 k tk,fun w w z=>tk _ _ (x.2 _ _ z)⟩,fun x m=>W.there x.1 m⟩
 have fa:∀ i acc,Fx (Dl::S) fun h=>(St i h/\TK hb h)/\lc c.g Dl acc h:=fun i acc=>(fx i).acc
 have turn:∀ {φ' l σ} {s':Shared} {i acc} {h':Heap} {Y:Heap->Prop} (t:Nat),LS c φ s (Dl::S) (fun h=>(St i h/\TK hb h)/\lc c.g Dl acc h) Ok φ' l σ s'->(∀ b o,b∉S->s'.heap.get? b=some o->h'.get? b=some o)->Y h'->
   LS c φ s (Dl::S) (fun h=>(Y h/\TK hb h)/\lc c.g Dl acc h) Ok φ' l σ {s' with heap:=h',toks:=t}:=fun t ls k y=>
  have tk:=lz (fun b m=>W.there ls.x.1.1 m) k
  ls.turn (fa _ _) fr (fun b o m=>k b o fun q=>m (.tail _ q)) ⟨⟨y,fun w w z=>tk _ _ (ls.x.1.2 _ _ z)⟩,ls.x.2.keep (fun o=>k _ o nD) tk⟩
 refine vQ (fun n s'=>∃ φ' σ' i acc,LS c φ s (Dl::S) (fun h=>(St i h/\TK hb h)/\lc c.g Dl acc h) Ok φ' l0 σ' s'/\Wm n i its/\Wk .bad .ok (gG tg ct ex l0) n i its acc σ'= .ok ys σ₂) (fun n s' E ⟨φ',σ',i,acc,ls,m,f⟩=>?_) (W0 its)
  ⟨φ₁,σ',0,[],ls,wm0 its,hr⟩
 refine GF (F:=fun r=>r=RE.ok ys σ₂) (bad:=RE.bad) (fin:=RE.ok) (stp:=gG tg ct ex l0) (a:=acc) f nofun m (fun e f=>W.done ls.ok ls.I.sto e ls.x.1.1 fun h' tk k=>?_) fun k x lt m e f=>W.item ls.ok ls.I.sto e ls.x.1.1 fun v h1 tk rv st1 kk=>?_
 ·cases f
  have l1:=turn (Y:=fun w=>True) tk ls k trivial
  exact hR _ _ ⟨l1.st,l1.I,l1.ap,⟨l1.x.1.2,l1.x.2⟩,l1.ok⟩
 ·have l1:=turn tk ls kk st1
  refine W.go (s:={s' with heap:=h1,toks:=tk}) st1 fun h2 st2 k2=>?_
  have l2:=turn tk l1 k2 st2
  rw [gG] at f
  cases hbd:Af tg x l0 with
  |none=>rw [hbd] at f;cases f
  |some l2'=>
   rw [hbd] at f
   obtain ⟨b,σ4,z1,f⟩:=MX f
   have weak:∀ n v,bN l0 n=some v->bN l2' n=some v:=fun n v e=>(Qa T hbd fun m=>nomatch (clean n m).symm.trans e).trans e
   refine asg T l2.I (rv.keep (lz (fun w=>W.there st1) k2)) hbd fun s4 st4 I4=>?_
   have l3:=l2.step (fa _ _) W.up st4 I4
   refine ht _ _ _ _ _ _ I4 ?_
   rw [z1]
   intro φ5 y5 s5 st5 I5 e5
   cases e5
   have l4:=l3.step (fa _ _) W.up st5 I5
   cases b with
   |false=>exact ⟨k,lt,_,_,i+1,acc,⟨l4.st,l4.I.weak weak,l4.ap,l4.x,l4.ok⟩,m,f⟩
   |true=>
    obtain ⟨v',σ6,z3,f⟩:=MX f
    refine he _ _ _ _ _ _ I5 ?_
    rw [z3]
    intro φ6 y6 s6 st6 I6 r6
    have l5:=l4.step (fa _ _) W.up st6 I6
    refine wy (F:=fun r=>r=RE.ok ys σ₂) (n:=RE.bad) (u:=v') f r6 (fun iy ry f=>?_) nofun
    obtain ⟨ql,f⟩:Nat.blt acc.length aJ=true/\Wk .bad .ok (gG tg ct ex l0) k (i+1) its (acc++[iy]) σ6= .ok ys σ₂:=by
     cases q:Nat.blt acc.length aJ with
     |true=>rw [q] at f;exact ⟨rfl,f⟩
     |false=>rw [q] at f;cases f
    obtain ⟨vs,j,hD,rr,hl⟩:=l5.x.2
    refine wpAny_list_append_plain ⟨_,hD⟩ (fun h7 ⟨k7,hD7⟩ hs7=>?_) (by rw [<-cK,e7,<-rr.length];exact hl)
    have k7':∀ b o,b∉[Dl]->s6.heap.get? b=some o->h7.get? b=some o:=fun b o m e=>hs7.extBut b o (fun q=>m (q▸ .head _)) e
    have tk:=lz (fun b m=>hU (P:=fun b=>∃ o,s6.heap.get? b=some o/\NT o) ⟨_,hD,.inl sQ.2⟩ m) k7'
    have l6:=l5.turn (t:=s6.toks) (fa _ _) fr (fun b o m=>k7' b o fun q=>m (cY.mp q▸ .head _)) (X':=fun h=>(St (i+1) h/\TK hb h)/\lc c.g Dl (acc++[iy]) h)
     ⟨⟨W.frame l5.x.1.1 (fun b m o=>k7' b o fun q=>nD (cY.mp q▸m)) tk,fun w w z=>tk _ _ (l5.x.1.2 _ _ z)⟩,vs++[y6],k7,by rw [<-List.push_toArray];exact hD7,(rr.keep tk).snoc (ry.keep tk),by rw [bd];exact eW ql⟩
    exact ⟨k,lt,_,_,i+1,_,⟨l6.st,l6.I.weak weak,l6.ap,l6.x,l6.ok⟩,m,f⟩
end
end
section
section
variable {α β γ δ:Type} {R:a9->Heap->α->γ->Prop} {R':a9->Heap->β->δ->Prop} {c c':aS} {φ φ₁ φ₂ φ':a9} {l l' l0:av} {σ σ':ai} {s s₁ s₂ s':Shared} {h h':Heap} {E:Value->Shared->Prop} {scope:Scope} {tg:List Nat} {e elt tgt iter:PySem.Expr} {am:List PySem.Expr} {pos p pos' pos2:Pos} {ct:Tx} {ex:Ex} {x:Hx} {a:Addr}
structure TM (c:aS) (φ:a9) (s:Shared) (E:Value->Shared->Prop) (F:RE β->Prop):Prop where
 bad:F .bad->False
 exc:∀ {w r k},F (.exc w r k)->∀ e φ' s',nh c φ' s'.heap w r k e->aL c φ s φ' s'->E (.ref e) s'
theorem TM.bind {F:RE β->Prop} {r:RE α} {k:α->ai->RE β} {Q:γ->Shared->Prop} (en:TM c φ s E F) (f:F (r.bind k)) (hk:∀ v σ₁ φ₁ s₁ y,aL c φ s φ₁ s₁->ay c φ₁ l σ₁ s₁.heap->R φ₁ s₁.heap v y->F (k v σ₁)->Q y s₁):Fin R c φ l s r Q E:=by
 cases r with
 |bad=>exact en.bad f
 |ok v σ₁=>exact fun φ₁ y s₁ st I r=>hk v σ₁ φ₁ s₁ y st I r f
 |exc=>exact en.exc f
theorem ay.adopt {x:aF} (I:ay c φ l σ h) (o:d9 c a/\a∉own φ) (cr:CR c.g h x [a]):ay c (φ++[[a]]) l (σ++[x]) h:=
 I.to (fR.all fun j j=>id) (fun j=>False.elim) (j3 _ _) (I.sto.snoc cr) (ut I.nd (ej.mpr ⟨nofun,.nil⟩) fun b m=>(cY.mp m:b=a)▸o.2) fun b m=>(eA.mp m).imp id fun m=>(cY.mp m:b=a)▸o.1
theorem aL.adopt (st:aL c φ s φ' s') (n:s.heap.get? a=none):aL c φ s (φ'++[[a]]) s':=⟨st.pre.trans (j3 _ _),fun b m=>(eA.mp m).elim (st.new b) fun m=> .inr ((cY.mp m:b=a)▸n),st.keep,st.tch,st.same⟩
theorem GM {use:Option (Value->Sem Unit)} {Q:Value->Shared->Prop} {F:RE V->Prop} (en:TM c φ s E F) (sc:yL c scope tg) (hs:∀ y,foldedSetIterable iter c.env y=pure y) (hh:mo c iter x) (ha:∀ cl C,lF c.env.cells scope.names cl->Tg (bZ c scope cl C) tgt tg)
  (ht:∀ cl C,lF c.env.cells scope.names cl->kz (bZ c scope cl C) am ct) (he:∀ cl C,lF c.env.cells scope.names cl->aK (bZ c scope cl C) elt ex) (I:ay c φ l σ s.heap) (f:F (eG x tg ct ex l σ))
  (hfin:∀ φ3 v σ3 s2 Dl C,F (.ok v σ3)->aL c φ s φ3 s2->ay c φ3 l σ3 s2.heap->aB c.g.D φ3 s2.heap v (.ref Dl)->d9 c C/\C∉own φ3->s.heap.get? C=none->(∃ m,s2.heap.Ns C m)->compPost c.g.M c.A E use Q (.ref Dl) C (.ok .next) s2):
  c.wp (comprehension (.ListComp elt [⟨tgt,iter,am,0⟩] scope pos) scope c.env p (newList []) false (eval iter c.env) use) Q E s:=by
 obtain ⟨cl,hcl,K⟩:=aaL sc.free sc.names
 refine wpAny_comprehension_free rfl hs hcl sc.kind (fun y hy hl=>jO sc.names (hl▸hy)) (hh _ _ _ _ _ _ I (en.bind f fun its σ₁ φ₁ s₁ y st I₁ ⟨h0,g0,no,r⟩ f=>r s₁ _ _ rfl fun It S St Ok h' tk keep ap W st0 ok=>?_))
 cases hw:Ad .bad .ok (gG tg ct ex (GQ tg l)) its [] σ₁ with
 |bad=>rw [hw] at f;exact (en.bad f).elim
 |exc=>rw [hw] at f;exact (en.bad f).elim
 |ok ys σ2=>
  rw [hw] at f
  refine zn (wpAny_newFunctionEnv sc.nocell (fun u=>nofun) (fun h₁ hns0 hsb₁=>?_) sc.kind)
  dsimp only at hns0 hsb₁ ⊢
  generalize hH2:h'.push {cls:= .type "list",dict:=none,data:= .seq ([]:List Value).toArray}=H2 at hns0 hsb₁ ⊢
  have hC:H2.objs.size=h'.objs.size+1:=by rw [<-hH2,Heap.size_push]
  have nC:h'.get? H2.objs.size=none:=BE (by rw [hC];exact iD _)
  have nD:=a0 h'
  have nDC:h'.objs.size≠H2.objs.size:=by rw [hC];exact Nat.ne_of_lt (yP _)
  have g2:∀ b o,h'.get? b=some o->h₁.get? b=some o:=fun b o e=>hsb₁.extBut b o (fun q=>by rw [q,nC] at e;cases e) (eB _ (hH2▸eB _ e))
  have hacc:h₁.get? h'.objs.size=some (listOf #[] 0):=hsb₁.extBut _ _ nDC (eB _ (hH2▸fB _ rfl))
  have g1:∀ b o,s₁.heap.get? b=some o->h₁.get? b=some o:=fun b o e=>g2 b o (keep b o e)
  have no1:∀ {b},h'.get? b=none->s₁.heap.get? b=none:=fun n=>kJ.mpr fun o e=>nomatch n.symm.trans (keep _ o e)
  have Cp:∀ {b},s₁.heap.get? b=none->h0.get? b=none:=fun n=>kJ.mpr fun o e=>nomatch n.symm.trans (g0 _ o e)
  have oC:=I₁.new (no1 nC)
  have oD:=I₁.new (no1 nD)
  have fC:=Cp (no1 nC)
  have I₂:=I₁.mono (h':=h₁) (.all g1)
  have k0:∀ b∈c.touch,∀ o,h₁.get? b=some o->h0.get? b=some o:=fun b m o e=>by
   cases z:h0.get? b with
   |none=>exact (eT (no b z) (I.there m)).elim
   |some o'=>exact aM some (bO ((g1 b o' (g0 b o' z)).symm.trans e))
  have tk0:TK h' h₁:=TK.of (S:=fun u=>False) (fun u u q=>q.elim) fun b o e u=>⟨_,g2 b o e⟩
  have there:∀ b∈S,h'.get? b≠none:=fun b m q=>eT q (W.there st0 m)
  have loop:codeAny c.g.M c.A (.compLoop (.ListComp elt [⟨tgt,iter,am,0⟩] scope pos) 0 (.ref It) (.ref h'.objs.size) (bZ c scope cl H2.objs.size).env) (compPost c.g.M c.A E use Q (.ref h'.objs.size) H2.objs.size) {s₁ with heap:=h₁,toks:=tk+([]:List (Str×Value)).length}:=by
   refine Pu (c:=bZ c scope cl H2.objs.size) (s:={s₁ with heap:=h0}) (s₁:={s₁ with heap:=h₁,toks:=_}) (hb:=h₁) (S:=S) W (ha _ _ K) (ht _ _ K) (he _ _ K) (fun n m=>by rw [B4,cq m]) ⟨.of (e8 _) (fun u=> .inl) (fun b o e u u=>g1 b o (g0 b o e)) fun b u o e=>⟨o,g1 b o (g0 b o e),id⟩,I₂.enterC sc K oC ⟨_,hns0⟩,fun b m=>?_,⟨⟨W.frame st0 (fun b u=>g2 b) tk0,TK.refl⟩,[],0,hacc,.nil,dI _⟩,ok⟩
    (fun b m=>(fy.mp m).elim (fun q=>q▸Cp (no1 nD)) fun m=>(ap b m).1) (fun m=>there _ m nD) hw fun φ2 s2 ls=>?_
   ·have oS:d9 c b/\b∉own φ₁:=(fy.mp m).elim (fun q=>q▸oD) fun m=>(ap b m).2
    exact ⟨⟨oS.1.base,JE K ((fy.mp m).elim (fun q=>q▸nDC) fun m q=>there b m (q▸nC)) oS.1.touch,oS.1.fa⟩,oS.2⟩
   ·have J:=I₂.backC sc K k0 fC ls.st ls.x.1 ls.I
    obtain ⟨vs,j,hD,rr,hl⟩:=ls.x.2
    have st3:=(st.back g0 no).trans (aL.comp K (fun b m=>(I₁.off b m).touch) fC ls.st)
    refine hfin _ _ _ s2 _ _ f (st3.adopt (no _ (Cp (no1 nD)))) (J.adopt ⟨oD.1,(ls.ap _ (.head _)).2⟩ (.list hD rr hl)) (.ref (as:=[]) ?_) ⟨oC.1,fun q=>(eA.mp q).elim (fun q=>(ls.I.off _ q).touch (.head _)) fun q=>nDC (cY.mp q).symm⟩ (no _ fC) ls.I.nsx
    rw [J.sto.len,wz (cR _),wr];rfl
  exact codeAny_compStart_list loop (W.self (i:=0) (W.frame st0 (fun b u=>g2 b) tk0) loop)
theorem VY {t:Nat} {C:Addr} {v:V} {y:Value} (st:aL c φ s φ' s') (I:ay c φ' l σ' s'.heap) (r:aB c.g.D φ' s'.heap v y) (oC:d9 c C/\C∉own φ') (fC:s.heap.get? C=none) {m:Str->Option Value} (ns:s'.heap.Ns C m) (sb:Heap.SameBut C s'.heap h'):
  aL c φ s φ' {s' with heap:=h',toks:=t}/\ay c φ' l σ' h'/\aB c.g.D φ' h' v y:=by
 have k:∀ b o,b∉[C]->s'.heap.get? b=some o->h'.get? b=some o:=fun b o n e=>(sb.2 b fun q=>n (q▸ .head _)).trans e
 have nt:∀ b∈[C],∃ o,s'.heap.get? b=some o/\NT o:=fun b m=>hU (P:=fun b=>∃ o,s'.heap.get? b=some o/\NT o) (let ⟨o,e,_,n⟩:=nA ns;⟨o,e,.inr n⟩) m
 exact ⟨st.iter (fun b m=>hU (P:=fun b=>s.heap.get? b=none/\d9 c b) ⟨fC,oC.1⟩ m) k,I.iter (fun b m=>hU (P:=fun b=>d9 c b/\b∉own φ') oC m) nt k,r.step (e8 _) (lz nt k)⟩
theorem Kz (sc:yL c scope tg) (hs:∀ y,foldedSetIterable iter c.env y=pure y) (hh:mo c iter x) (ha:∀ cl C,lF c.env.cells scope.names cl->Tg (bZ c scope cl C) tgt tg)
  (ht:∀ cl C,lF c.env.cells scope.names cl->kz (bZ c scope cl C) am ct) (he:∀ cl C,lF c.env.cells scope.names cl->aK (bZ c scope cl C) elt ex):aK c (.ListComp elt [⟨tgt,iter,am,0⟩] scope pos) (eG x tg ct ex):=fun φ l σ s Q E I f=>by
 rw [aS.wp,eval_ListComp]
 refine GM (F:=fun r=>bJ c φ l s r Q E) ⟨id,id⟩ sc hs hh ha ht he I f fun φ3 v σ3 s2 Dl C f st J r oC fC ⟨m,ns⟩=>⟨m,ns,fun h' sb=>?_⟩
 obtain ⟨a,b,d⟩:=VY (t:=s2.toks) st J r oC fC ns sb
 exact f _ _ _ a b d
theorem Rt {z:Str} {n:Nat} (S:kU c z n) (sc:yL c scope tg) (hs:∀ y,foldedSetIterable iter c.env y=pure y) (hh:mo c iter x) (ha:∀ cl C,lF c.env.cells scope.names cl->Tg (bZ c scope cl C) tgt tg)
  (ht:∀ cl C,lF c.env.cells scope.names cl->kz (bZ c scope cl C) am ct) (he:∀ cl C,lF c.env.cells scope.names cl->aK (bZ c scope cl C) elt ex):
  fJ c (.Assign [.Name z pos'] (.ListComp elt [⟨tgt,iter,am,0⟩] scope pos2) pos) (set n (eG x tg ct ex)):=fun φ l σ s Q E I f=>by
 obtain ⟨b,hb⟩:∃ b,swapsWith (.ListComp elt [⟨tgt,iter,am,0⟩] scope pos2) (some (.Name z pos')) pos.line c.env=pure b:=⟨_,rfl⟩
 cases b with
 |false=>exact wpAny_Assign_Name (Kz sc hs hh ha ht he _ _ _ _ _ _ I (f.bind fun j j j j j j I₁ r f=>gR I₁ S r fun j st' I'=>f _ _ _ st' I' trivial)) hb
 |true=>
  rw [aS.wp,exec_Assign_Name_used _ _ _ _ hb]
  refine ax (lB (ax ?_))
  show wpAny _ c.A (do let _ <-comprehension (.ListComp elt [⟨tgt,iter,am,0⟩] scope pos2) scope c.env _ (newList []) false (eval iter c.env) (some (assign (.Name z pos') c.env))) _ _ s
  refine ax (cQ (GM (Q:=fun j=>Q .next) (F:=fun r=>bh c φ s (r.bindS fun v σ=> .ok .nxt (bK l n v) σ) Q E) (use:=some (assign (.Name z pos') c.env)) ⟨id,id⟩ sc hs hh ha ht he I f fun φ3 v σ3 s2 Dl C f st J r oC fC ⟨m,ns⟩=>?_) (fun j s' hq=>aY (aY hq)) fun j j e=>e)
  show wpAny _ c.A (assign (.Name z pos') c.env (.ref Dl)) _ _ s2
  refine NU (gR J S r fun s' st' I'=>?_)
  have ns':=zX ns (st'.keep C · · oC.2 oC.1.touch)
  refine ⟨m,ns',fun h' sb=>?_⟩
  obtain ⟨a,b,_⟩:=VY (v:= .i .none) (t:=s'.toks) (st.trans st') I' (.i .none) oC fC ns' sb
  exact f _ .next _ a b trivial
end
end
section
theorem LJ {acc:List Nat} {n:Nat}:acc.any (Nat.beq n)=true↔n∈acc:=List.any_eq_true.trans ⟨fun ⟨_,h,e⟩=>kj e▸h,fun h=>⟨n,h,Nat.beq_refl n⟩⟩
theorem WJ {acc:List Nat} {n:Nat} (h:acc.Nodup):(Fa acc n).Nodup/\∀ m,m∈acc\/m=n->m∈Fa acc n:=by
 unfold Fa
 cases q:acc.any (Nat.beq n) with
 |true=>exact ⟨h,fun m z=>z.elim id fun z=>(z▸LJ.mp q:m∈acc)⟩
 |false=>exact ⟨C0.mpr ⟨h,ej.mpr ⟨nofun,.nil⟩,fun a ha b hb e=>by
   rw [LJ.mpr ((e.trans (cY.mp hb))▸ha)] at q;cases q⟩,fun m z=>jv.mpr (z.imp id fun z=>List.mem_singleton.mpr z)⟩
theorem MU {l acc:List Nat} (h:acc.Nodup):(l.foldl Fa acc).Nodup/\∀ m,m∈acc\/m∈l->m∈l.foldl Fa acc:=by
 induction l generalizing acc with
 |nil=>exact ⟨h,fun m z=>z.elim id fun q=>nomatch q⟩
 |cons n l ih=>
  obtain ⟨a,b⟩:=WJ (n:=n) h
  exact ⟨(ih a).1,fun m z=>(ih a).2 m (z.elim (fun z=> .inl (b m (.inl z))) fun z=>(fy.mp z).elim (fun z=> .inl (b m (.inr z))) .inr)⟩
theorem NE {vs:List V} {v:V} {n:Nat} (h:v∈vs) (e:v.refn=some n):n∈bz vs []:=(MU .nil).2 n (.inr (List.mem_filterMap.mpr ⟨v,h,e⟩))
theorem GX {rs:List Nat} {n:Nat} (h:n∈rs):rs[eP rs n]?=some n:=by
 induction rs with
 |nil=>cases h
 |cons a r ih=>
  unfold eP
  cases q:Nat.beq a n with
  |true=>exact aM some (kj q)
  |false=>exact ih ((fy.mp h).resolve_left fun e=>by rw [e,Nat.beq_refl] at q;cases q)
noncomputable def sel (φ:a9) (rs:List Nat):a9:=rs.map fun n=>φ.getD n []
theorem Ga {φ:a9} {n:Nat} {as:List Addr} (e:φ[n]?=some as):φ.getD n []=as:=by rw [OC,e];rfl
theorem BZ {φ:a9} {n:Nat} {b:Addr} (m:b∈φ.getD n []):∃ as,φ[n]?=some as/\b∈as:=by
 rw [OC] at m
 cases q:φ[n]? with
 |none=>rw [q] at m;cases m
 |some as=>exact ⟨as,rfl,by rw [q] at m;exact m⟩
theorem Gc {φ:a9} {rs:List Nat} {i n:Nat} {as:List Addr} (h:rs[i]?=some n) (e:φ[n]?=some as):(sel φ rs)[i]?=some as:=by
 unfold sel
 rw [FM,h,Option.map_some,Ga e]
section
variable {g:G} {D:fj} {φ φ₁ φ':a9} {σ σ':ai} {h h':Heap} {rs:List Nat} {cs:ai} {b:Addr}
theorem A9 (S:SR g h σ φ) (e:b6 σ rs=some cs):SR g h cs (sel φ rs)/\∀ n∈rs,∃ x,aP σ n=some x:=by
 induction rs generalizing cs with
 |nil=>cases e;exact ⟨.nil,nofun⟩
 |cons a r ih=>
  unfold b6 at e
  cases e1:aP σ a with
  |none=>rw [e1] at e;cases e
  |some x=>cases e2:b6 σ r with
   |none=>rw [e1,e2] at e;cases e
   |some ys=>
    rw [e1,e2] at e
    cases e
    obtain ⟨as,q,cr⟩:=S.at e1
    obtain ⟨a1,a2⟩:=ih e2
    exact ⟨.cons (show CR g h x (φ.getD a []) from (Ga q).symm▸cr) a1,fun n m=>(fy.mp m).elim (fun z=>⟨x,z▸e1⟩) (a2 n)⟩
theorem aB.sel {v:V} {y:Value} (r:aB D φ h v y) (m:∀ n,v.refn=some n->n∈rs):aB D (Mine.sel φ rs) h (gH (eP rs) v) y:=by
 have k:∀ {n as},n∈rs->φ[n]?=some as->(Mine.sel φ rs)[eP rs n]?=some as:=fun m=>Gc (GX m)
 cases r with
 |i a=>exact .i a
 |ref e=>exact .ref (k (m _ rfl) e)
 |tng e=>exact .tng (k (m _ rfl) e)
 |tks e=>exact .tks (k (m _ rfl) e)
 |kno e=>exact .kno (k (m _ rfl) e)
 |pr a b e=>exact .pr a b (k (m _ rfl) e)
theorem bV.sel {vs:List V} {ys:List Value} (r:bV D φ h vs ys) (m:∀ v∈vs,∀ n,v.refn=some n->n∈rs):bV D (Mine.sel φ rs) h (vs.map (gH (eP rs))) ys:=by
 induction r with
 |nil=>exact .nil
 |cons a _ ih=>exact .cons (a.sel (m _ (.head _))) (ih fun v hv=>m v (.tail _ hv))
theorem Mz (m:b∈own (sel φ rs)):∃ n as,n∈rs/\φ[n]?=some as/\b∈as:=by
 obtain ⟨as,h1,h2⟩:=D5.mp m
 obtain ⟨n,h3,rfl⟩:=cZ.mp h1
 obtain ⟨as,q,m⟩:=BZ h2
 exact ⟨n,as,h3,q,m⟩
theorem gv (m:b∈own (sel φ rs)):b∈own φ:=let ⟨_,_,_,q,m⟩:=Mz m;hZ q m
theorem FP {n m:Nat} {as bs:List Addr} (nd:(own φ).Nodup) (hn:φ[n]?=some as) (hm:φ[m]?=some bs) (an:b∈as) (bm:b∈bs):n=m:=by
 have key:∀ {n m:Nat} {as bs:List Addr},n< m->φ[n]?=some as->φ[m]?=some bs->b∈as->b∈bs->False:=fun {n m as bs} lt q q2 ha hb=>by
  obtain ⟨l1,e1⟩:=gL.mp q
  obtain ⟨l2,e2⟩:=gL.mp q2
  have:=List.pairwise_iff_getElem.mp (List.pairwise_flatten.mp nd).2 n m l1 l2 lt
  rw [e1,e2] at this
  exact this b ha b hb rfl
 rcases Nat.lt_trichotomy n m with lt |e |lt
 ·exact (key lt hn hm an bm).elim
 ·exact e
 ·exact (key lt hm hn bm an).elim
theorem Po (nd:(own φ).Nodup) (nr:rs.Nodup):(own (sel φ rs)).Nodup:=by
 refine List.pairwise_flatten.mpr ⟨fun as m=>?_,List.pairwise_map.mpr (nr.imp fun ne x hx y hy e=>?_)⟩
 ·obtain ⟨n,_,rfl⟩:=cZ.mp m
  cases q:φ[n]? with
  |none=>rw [OC,q];exact .nil
  |some as=>rw [Ga q];exact zC nd q
 ·obtain ⟨_,q1,m1⟩:=BZ hx
  obtain ⟨_,q2,m2⟩:=BZ hy
  exact ne (FP nd q1 q2 m1 (e▸m2))
theorem Ld {m:Nat} {x:aF} (nr:rs.Nodup) (lt:∀ n∈rs,n< σ.length) (le:rs.length<=cs.length) (e:(cT σ rs cs)[m]?=some x):(m∈rs/\cs[eP rs m]?=some x)\/(m∉rs/\σ[m]?=some x):=by
 induction rs generalizing σ cs with
 |nil=>cases cs<;>exact .inr ⟨nofun,e⟩
 |cons n r ih=>cases cs with
  |nil=>cases le
  |cons c cs=>
   have nr:=ej.mp nr
   rcases ih (σ:=σ.set n c) nr.2 (fun k hk=>by rw [List.length_set];exact lt k (.tail _ hk)) (Nat.le_of_succ_le_succ le) e with ⟨a,b⟩ |⟨a,b⟩
   ·refine .inl ⟨.tail _ a,?_⟩
    rw [eP,show Nat.beq n m=false from Ct.mpr fun q=>nr.1 (kj q▸a)]
    exact b
   ·rw [List.getElem?_set] at b
    by_cases q:n=m
    ·rw [cq q,cq (lt n (.head _))] at b
     refine .inl ⟨q▸ .head _,?_⟩
     rw [eP,q,Nat.beq_refl]
     exact b
    ·rw [b7 q] at b
     exact .inr ⟨fun z=>(fy.mp z).elim (fun z=>q z.symm) a,b⟩
theorem Ll:(cT σ rs cs).length=σ.length:=by
 induction rs generalizing σ cs with
 |nil=>cases cs<;>rfl
 |cons n r ih=>cases cs with
  |nil=>rfl
  |cons c cs=>exact (ih (σ:=σ.set n c) (cs:=cs)).trans (List.length_set ..)
theorem SR.of_get (e:σ.length=φ.length) (k:∀ (n:Nat) x as,σ[n]?=some x->φ[n]?=some as->CR g h x as):SR g h σ φ:=by
 induction σ generalizing φ with
 |nil=>cases φ with
  |nil=>exact .nil
  |cons=>cases e
 |cons x σ ih=>cases φ with
  |nil=>cases e
  |cons as φ=>exact .cons (k 0 x as rfl rfl) (ih (EK e) fun n=>k (n+1))
theorem SR.back (S:SR g h σ φ) (S':SR g h' cs φ') (p:sel φ rs<+:φ') (nr:rs.Nodup) (at_:∀ n∈rs,∃ x,aP σ n=some x) (nd:(own φ).Nodup) (k:∀ b o,b∈own φ->b∉own (sel φ rs)->h.get? b=some o->h'.get? b=some o) (t:TK h h'):SR g h' (cT σ rs cs) φ:=
 SR.of_get (Ll.trans S.len) fun n x as e1 e2=>(Ld nr (fun n m=>let ⟨_,q⟩:=at_ n m;(gL.mp q).1) (by rw [S'.len];have:=p.length_le;unfold sel at this;rwa [cD] at this) e1).elim (fun ⟨m,e⟩=>by
  obtain ⟨as',q,cr⟩:=S'.at e
  rw [iZ p (Gc (GX m) e2)] at q
  cases q
  exact cr) fun ⟨m,e⟩=>by
  obtain ⟨as',q,cr⟩:=S.at e
  rw [e2] at q;cases q
  exact cr.mono (fun b hb o e=>k b o (hZ e2 hb) (fun z=>let ⟨n',as',m',q',b'⟩:=Mz z;m (FP nd q' e2 b' hb▸m')) e) t
end
end
section
structure Sub (c c':aS) (s s₁:Shared):Prop where
 g:c'.g=c.g
 base:c'.base=c.base
 fr:c'.frames=c'.env::c.frames
 fresh:∀ b∈c'.touch,s.heap.get? b=none
 frame:c'.env.frame=some c'.env.locals
 keep:∀ b o,s.heap.get? b=some o->s₁.heap.get? b=some o
 same:s₁.gens=s.gens/\s₁.drawn=s.drawn/\s₁.os=s.os
section
variable {c c':aS} {φ φ' φ'' ψ:a9} {l l':av} {σ σ' σ'':ai} {s s₁ s':Shared} {h h':Heap} {rs:List Nat} {cs:ai} {b:Addr} {o:Obj} {v:V} {y:Value} {Q E:Value->Shared->Prop}
theorem Sub.fa (S:Sub c c' s s₁):b∈c'.fa↔b=c'.env.locals\/b∈c.fa:=by
 unfold aS.fa
 rw [S.fr,List.filterMap_cons,S.frame]
 exact List.mem_cons
theorem Sub.no (S:Sub c c' s s₁) (e:s₁.heap.get? b=none):s.heap.get? b=none:=kJ.mpr fun o q=>nomatch e.symm.trans (S.keep b o q)
theorem Sub.off (S:Sub c c' s s₁) (m:b∉c.touch) (x:d9 c' b):d9 c b:=⟨S.base▸x.base,m,fun q=>x.fa (S.fa.mpr (.inr q))⟩
theorem Sub.chg (S:Sub c c' s s₁) (I:ay c φ l σ s.heap) (St:aL c' (sel φ rs) s₁ φ'' s'):fR c (·∈own (sel φ rs)) s.heap s'.heap:=
 .of (fun m=>(I.off _ (gv m)).touch (.head _)) fun b o e n=>
  have nt:b∉c'.touch:=fun m=>nomatch (S.fresh b m).symm.trans e
  let ⟨sl,q,k⟩:=St.keep b o (S.keep b o e) n nt
  ⟨sl,q,fun m=>k fun z=>(S.fa.mp z).elim (fun z=>nt (z▸ .head _)) m⟩
theorem Sub.step (S:Sub c c' s s₁) (I:ay c φ l σ s.heap) (St:aL c' (sel φ rs) s₁ φ'' s') (p:φ<+:ψ) (m:∀ b∈own ψ,b∈own φ\/b∈own φ''):aL c φ s ψ s':=
 have x:aL c φ s ψ {s with heap:=s'.heap,toks:=s'.toks}:=aL.to I (S.chg I St) (fun b=>gv) p fun b hb=>(m b hb).elim .inl fun q=>(St.new b q).imp gv S.no
 ⟨x.pre,x.new,x.keep,x.tch,St.same.1.trans S.same.1,St.same.2.1.trans S.same.2.1,St.same.2.2.trans S.same.2.2⟩
theorem Sub.tk (S:Sub c c' s s₁) (I:ay c φ l σ s.heap) (St:aL c' (sel φ rs) s₁ φ'' s'):TK s.heap s'.heap:=(S.chg I St).tk (fun j m=>I.free (gv m)) I.nsx
theorem Sub.sto (S:Sub c c' s s₁) (I:ay c φ l σ s.heap) (nr:rs.Nodup) (hcs:b6 σ rs=some cs) (St:aL c' (sel φ rs) s₁ φ'' s') (I':ay c' φ'' l' σ'' s'.heap):SR c.g s'.heap (cT σ rs σ'') φ:=
 I.sto.back (S.g▸I'.sto) St.pre nr (A9 I.sto hcs).2 I.nd (fun b o m n e=>((S.chg I St).k b o e n fun q=>(I.off b m).touch (q▸ .head _)).eq (I.off b m).fa) (S.tk I St)
theorem Sub.inv (S:Sub c c' s s₁) (I:ay c φ l σ s.heap) (nr:rs.Nodup) (hcs:b6 σ rs=some cs) (St:aL c' (sel φ rs) s₁ φ'' s') (I':ay c' φ'' l' σ'' s'.heap):ay c φ l (cT σ rs σ'') s'.heap:=
 I.to (S.chg I St) (fun j m=>I.free (gv m)) (e8 _) (S.sto I nr hcs St I') I.nd fun j=> .inl
theorem Sub.out (S:Sub c c' s s₁) (I:ay c φ l σ s.heap) (St:aL c' (sel φ rs) s₁ φ'' s') (m:b∈own φ''):b∉c.touch:=fun q=>(St.new b m).elim (fun z=>(I.off b (gv z)).touch q) fun z=>eT (S.no z) (I.there q)
theorem Mq:(sel φ rs).length=rs.length:=cD _
theorem Sub.more {n:Nat} {as:List Addr} {x:aF} (S:Sub c c' s s₁) (I:ay c φ l σ s.heap) (nr:rs.Nodup) (hcs:b6 σ rs=some cs) (St:aL c' (sel φ rs) s₁ φ'' s') (I':ay c' φ'' l' σ'' s'.heap) (e:φ''[n]?=some as) (hn:rs.length<=n) (ex:aP σ'' n=some x):
  ay c (φ++[as]) l (cT σ rs σ''++[x]) s'.heap/\aL c φ s (φ++[as]) s':=by
 have ao:∀ b∈as,b∈own φ'':=fun b m=>hZ e m
 have fresh:∀ b∈as,s.heap.get? b=none:=fun b m=>(St.new b (ao b m)).elim (fun q=>by
  obtain ⟨as',h1,h2⟩:=D5.mp q
  obtain ⟨k,hk⟩:=HN.mp h1
  have:=FP I'.nd e (iZ St.pre hk) m h2
  have lt:=(gL.mp hk).1
  rw [Mq] at lt
  omega) S.no
 have no:∀ b∈as,d9 c b/\b∉own φ:=fun b m=>I.new (fresh b m)
 exact ⟨I.to (S.chg I St) (fun j m=>I.free (gv m)) (j3 _ _) ((S.sto I nr hcs St I').snoc (S.g▸I'.at e ex)) (ut I.nd (zC I'.nd e) fun b m=>(no b m).2) fun b m=>(eA.mp m).imp id fun m=>(no b m).1,
  S.step I St (j3 _ _) fun b m=>(eA.mp m).imp id (ao b)⟩
theorem zQ (S:Sub c c' s s₁) (I:ay c φ l σ s.heap) (nr:rs.Nodup) (hcs:b6 σ rs=some cs) (St:aL c' (sel φ rs) s₁ φ'' s') (I':ay c' φ'' l' σ'' s'.heap) (r:aB c.g.D φ'' s'.heap v y) (f:bJ c φ l s (Ii σ rs σ'' v) Q E):Q y s':=by
 have J:=S.inv I nr hcs St I'
 have st0:aL c φ s φ s':=S.step I St (e8 _) fun b m=> .inl m
 have low:∀ {n m:Nat} {as:List Addr},rs[n]?=some m->φ''[n]?=some as->φ[m]?=some as:=fun {n m as} h1 h2=>by
  obtain ⟨x,q⟩:=(A9 I.sto hcs).2 _ (yF h1)
  obtain ⟨as',q',_⟩:=I.sto.at q
  rw [iZ St.pre (Gc (φ:=φ) h1 q')] at h2
  cases h2;exact q'
 have key:∀ {n:Nat} {as:List Addr} {k:Nat->V},bJ c φ l s (sj σ rs σ'' n k) Q E->φ''[n]?=some as->(∀ ψ m,ψ[m]?=some as->aB c.g.D ψ s'.heap (k m) y)->Q y s':=fun {n as k} f e hk=>by
  unfold sj at f
  cases q:rs[n]? with
  |some m=>rw [q] at f;exact f φ _ s' st0 J (hk _ _ (low q e))
  |none=>cases q2:aP σ'' n with
   |none=>rw [q,q2] at f;exact f.bad
   |some x=>
    rw [q,q2] at f
    obtain ⟨a,b⟩:=S.more I nr hcs St I' e (Bj.mp q) q2
    exact f _ _ s' b a (hk _ _ (by rw [I.sto.len,wz (cR _),wr];rfl))
 cases v with
 |i x=>exact f φ y s' st0 J (.i r.iE)
 |ref n=>cases r with |ref e=>exact key f e fun j j q=> .ref q
 |pr xx n=>cases r with |pr h1 h2 e=>exact key f e fun j j q=> .pr h1 h2 q
 |sub k n=>exact f.bad
theorem nh.out {w:T} {r k:Int} {e:Addr} (S:Sub c c' s s₁) (I:ay c φ l σ s.heap) (St:aL c' (sel φ rs) s₁ φ'' s') (X:nh c' φ'' s'.heap w r k e) (F:Fl c' φ'' s'.heap w r k e .none):nh c (φ++φ''.drop rs.length) s'.heap w r k e/\aL c φ s (φ++φ''.drop rs.length) s':=by
 have ow:∀ {b},b∈own φ''->b∈own (φ++φ''.drop rs.length):=fun {b} m=>by
  obtain ⟨z,rfl⟩:=St.pre
  rw [<-Mq (φ:=φ),List.drop_left,l9]
  rw [l9] at m
  exact jv.mpr ((jv.mp m).imp gv id)
 have frm:=X.frm
 rw [S.fr,S.base] at frm
 obtain ⟨dx,vs,Tb,a1,a2,a3,a4,a5⟩:=F
 refine ⟨⟨I.nsx.imp (S.chg I St).n,S.base▸X.stay,frm.2.2,⟨ow X.eo.1,S.off (S.out I St X.eo.1) X.eo.2⟩,dx,vs,S.g▸a1,ow a2,S.off (S.out I St a2) a3,a4,.inr ⟨Tb,.none,⟨a5.at1,ow a5.own,S.off (S.out I St a5.own) a5.off,a5.ne,a5.nd,a5.ob⟩,.inl rfl⟩⟩,S.step I St (j3 _ _) fun b m=>?_⟩
 rw [l9] at m
 exact (jv.mp m).imp id fun m=>let ⟨as,h1,h2⟩:=D5.mp m;D5.mpr ⟨as,List.mem_of_mem_drop h1,h2⟩
end
end
section
noncomputable def Cur (α:Type _) (n:Nat):Type _:=@Nat.rec (fun j=>Type _) α (fun j r=>Value->r) n
def GJ {α:Type _} (n:Nat):(List Value->α)->Cur α n:=@Nat.rec (fun n=>(List Value->α)->Cur α n) (fun f=>f []) (fun j r f y=>r fun ys=>f (y::ys)) n
theorem Mx {α:Type _} {n:Nat} {f g:List Value->α} (h:GJ n f=GJ n g) {ys:List Value} (e:ys.length=n):f ys=g ys:=by
 induction n generalizing f g ys with
 |zero=>exact List.length_eq_zero_iff.mp e▸h
 |succ n ih=>cases ys with
  |nil=>cases e
  |cons y ys=>exact ih (f:=fun ys=>f (y::ys)) (g:=fun ys=>g (y::ys)) (congrFun h y) (EK e)
abbrev ML (fd:FuncData) (ns:List Str) (n:Nat):Prop:=GJ n (fun ys=>bindArgs fd ⟨ys,[]⟩)=GJ n fun ys=>pure (ns.zip ys)
theorem BK {kindOf:Str->Option NameKind} {x:Str} {binds:List (Str×Value)} {m:Str->Option Value} (nd:(binds.map (·.1)).Nodup):(x∉binds.map (·.1)->bindL kindOf binds m x=m x)/\(∀ y,(x,y)∈binds->kindOf x=some .local->bindL kindOf binds m x=some y):=by
 induction binds generalizing m with
 |nil=>exact ⟨fun j=>rfl,fun j m=>(fK m).elim⟩
 |cons p r ih=>
  obtain ⟨n,v⟩:=p
  have nd:=ej.mp nd
  unfold bindL
  refine ⟨fun h=>((ih nd.2).1 fun q=>h (.tail _ q)).trans ?_,fun y h hk=>(fy.mp h).elim (fun e=>?_) fun h=>(ih nd.2).2 y h hk⟩
  ·split
   ·exact b7 fun q:x=n=>h (q▸ .head _)
   ·rfl
  ·cases e
   exact ((ih nd.2).1 nd.1).trans (by rw [cq hk];exact cq rfl)
theorem Sr {kindOf:Str->Option NameKind} {x:Str} {binds:List (Str×Value)} {m:Str->Option Value} (nd:(binds.map (·.1)).Nodup):(x∉binds.map (·.1)->bindC kindOf binds m x=m x)/\(∀ y,(x,y)∈binds->kindOf x=some .cell->bindC kindOf binds m x=some y):=by
 induction binds generalizing m with
 |nil=>exact ⟨fun j=>rfl,fun j m=>(fK m).elim⟩
 |cons p r ih=>
  obtain ⟨n,v⟩:=p
  have nd:=ej.mp nd
  unfold bindC
  refine ⟨fun h=>((ih nd.2).1 fun q=>h (.tail _ q)).trans ?_,fun y h hk=>(fy.mp h).elim (fun e=>?_) fun h=>(ih nd.2).2 y h hk⟩
  ·split
   ·rfl
   ·exact b7 fun q:x=n=>h (q▸ .head _)
  ·cases e
   exact ((ih nd.2).1 nd.1).trans (by rw [b7 (by rw [hk];decide)];exact cq rfl)
theorem Te {names:List (Str×NameKind)} {n:Nat} {acc:List (Str×Addr)} (h1:(names.map (·.1)).Nodup) (h2:(acc.map (·.1)).Nodup) (h3:∀ x∈names,x.1∉acc.map (·.1)):
  ((cellsFrom n names acc).map (·.1)).Nodup/\∀ x,x∈acc.map (·.1)\/(x,NameKind.cell)∈names->x∈(cellsFrom n names acc).map (·.1):=by
 induction names generalizing n acc with
 |nil=>exact ⟨h2,fun x z=>z.elim id fun q=>nomatch q⟩
 |cons p r ih=>
  obtain ⟨x,k⟩:=p
  have h1:=ej.mp h1
  unfold cellsFrom
  by_cases q:k= .cell
  ·subst q
   rw [cq (by decide)]
   obtain ⟨a,b⟩:=ih (n:=n+1) (acc:=(x,n)::acc) h1.2 (ej.mpr ⟨h3 _ (.head _),h2⟩) fun y hy q=>(fy.mp q).elim (fun q=>h1.1 (q▸gI (f:=(·.1)) hy)) (h3 y (.tail _ hy))
   exact ⟨a,fun y z=>b y (z.elim (fun z=> .inl (.tail _ z)) fun z=>(fy.mp z).elim (fun z=> .inl (List.mem_cons.mpr (.inl (aM Prod.fst z)))) .inr)⟩
  ·rw [b7 fun z=>q (n9 z)]
   obtain ⟨a,b⟩:=ih (n:=n) h1.2 h2 fun y hy=>h3 y (.tail _ hy)
   exact ⟨a,fun y z=>b y (z.imp id fun z=>(fy.mp z).resolve_left fun z=>q (aM Prod.snd z).symm)⟩
section
variable {c c':aS} {φ φ' φ'' ψ:a9} {l l':av} {σ σ' σ'':ai} {s s₁ s':Shared} {h h':Heap} {rs:List Nat} {cs:ai} {v:V} {Q E:Value->Shared->Prop} {fd:FuncData} {a:Addr} {ρ:List (Str×Nat)} {ns:List Str} {vs:List V} {ys:List Value} {body:List Stmt} {k:Nat} {base:Heap} {ps:List (Option I)} {l0:av}
theorem bV.get {D:fj} {n:Nat} (r:bV D φ h vs ys) (e:vs[n]?=some v):∃ y,ys[n]?=some y/\aB D φ h v y:=by
 induction r generalizing n with
 |nil=>cases e
 |cons a _ ih=>cases n with
  |zero=>cases e;exact ⟨_,rfl,a⟩
  |succ n=>exact ih e
theorem SN {n:Nat} (e:bN (vs.map some) n=some v):vs[n]?=some v:=by
 induction vs generalizing n with
 |nil=>cases e
 |cons x vs ih=>cases n with
  |zero=>exact e
  |succ n=>exact ih e
theorem xF {names:List (Str×NameKind)} {n:Nat} (h1:(names.map (·.1)).Nodup):((cellsFrom n names []).map (·.1)).Nodup/\∀ x,(x,NameKind.cell)∈names->x∈(cellsFrom n names []).map (·.1):=
 let ⟨a,b⟩:=Te (n:=n) h1 (acc:=[]) .nil fun j j=>nofun;⟨a,fun x m=>b x (.inr m)⟩
noncomputable def sub (c:aS) (fd:FuncData) (L a:Addr) (ρ:List (Str×Nat)):aS:={g:=c.g,base:=c.base,frames:=callEnvC fd L a::c.frames,A:=c.A.deeper (callEnvC fd L a),env:=callEnvC fd L a,ρ:=ρ,d:=c.d - 1}
structure gh (base:Heap) (f:Addr) (fd:FuncData) (body:List Stmt) (ns:List Str) (ρ:List (Str×Nat)):Prop where
 ob:∃ o,base.get? f=some o/\o.data= .func fd
 body:fd.body= .stmts body
 clo:fd.closure=[]
 kind:fd.scope.kind= .function
 co:fd.scope.isCoroutine=false
 gen:fd.scope.isGenerator=false
 code:base.CodeRec fd.code fd.qualname
 names:(fd.scope.names.map (·.1)).Nodup
 par:∀ x∈ns,fd.scope.names.lookup x=some .local\/fd.scope.names.lookup x=some .cell
 nd:ns.Nodup
 slots:∀ x n,ρ.lookup x=some n->n< ns.length->ns[n]?=some x
theorem gh.cell {f:Addr} {x:Str} {n:Nat} (X:gh base f fd body ns ρ) (q:fd.scope.names.lookup x=some .cell):∃ cl,(cellsFrom n fd.scope.names []).lookup x=some cl:=
 let ⟨p,m,e⟩:=cZ.mp ((xF (n:=n) X.names).2 x (bQ q))
 ⟨p.2,jO (xF X.names).1 (e▸m)⟩
theorem G1 {g:G} {A:Around} {frames:List Env} {d:Nat} (hand:A.handled=none) (room:A.depth+1+3*d+60< recursionLimit) (units:A.units+3+12*d+200< cLine) (stack:A.frames=some frames) (nl:base.NoLimit) (st:base.StaysIn s.heap) (frm:s.heap.FunFrames base frames)
  (S0:SR g s.heap cs φ) (nd:(own φ).Nodup) (off:∀ b∈own φ,base.get? b=none/\s.heap.get? b≠none/\b∉frames.filterMap (·.frame)) (X:gh base a fd body ns ρ) (hl:ys.length=ns.length) (r:bV g.D φ s.heap vs ys)
  (C:InCallC s (callEnvC fd s.heap.objs.size a).locals (bindL (callEnvC fd s.heap.objs.size a).kindOf (ns.zip ys) fun j=>none) (callEnvC fd s.heap.objs.size a).cells (bindC (callEnvC fd s.heap.objs.size a).kindOf (ns.zip ys) fun j=>none) s₁):
  (∀ b∈(callEnvC fd s.heap.objs.size a).locals::(callEnvC fd s.heap.objs.size a).cells.map (·.2),s.heap.get? b=none)/\(∀ b o,s.heap.get? b=some o->s₁.heap.get? b=some o)/\(s₁.gens=s.gens/\s₁.drawn=s.drawn/\s₁.os=s.os)/\
  ay ⟨g,base,callEnvC fd s.heap.objs.size a::frames,A.deeper (callEnvC fd s.heap.objs.size a),callEnvC fd s.heap.objs.size a,ρ,d⟩ φ (vs.map some) cs s₁.heap:=by
 obtain ⟨⟨⟨h1,tk,rfl⟩,ns1,keep,_⟩,cell,apart,above⟩:=C
 have fr:∀ b∈(callEnvC fd s.heap.objs.size a).locals::(callEnvC fd s.heap.objs.size a).cells.map (·.2),s.heap.get? b=none:=fun b m=>(fy.mp m).elim (fun e=>e▸a0 _) fun m=>
  let ⟨p,hx,e⟩:=cZ.mp m
  BE (Nat.le_of_lt (e▸above p.1 p.2 hx))
 have bn:∀ b,s.heap.get? b=none->base.get? b=none:=fun b e=>kJ.mpr fun o z=>nomatch e.symm.trans (st b o z)
 have tk':TK s.heap h1:=TK.of (S:=fun j=>False) (fun j j q=>q.elim) fun b o e j=>⟨_,keep b o e⟩
 have nz:((ns.zip ys).map (·.1)).Nodup:=by rw [HE (FF hl.symm)];exact X.nd
 obtain ⟨o,q1,q2,_⟩:=nA ns1
 refine ⟨fr,keep,⟨rfl,rfl,rfl⟩,⟨(xF X.names).1,List.pairwise_map.mpr apart,fun b m=>bn b (fr b m),fun m=>?_,hand,room,units,Around.frames_deeper stack,X.kind,nl⟩,fun b o e=>keep b o (st b o e),?_,S0.mono (fun b j=>keep b) tk',nd,fun b m=>?_,fun x n v e1 e2=>?_,⟨_,ns1⟩,fun x cl e=>⟨_,cell x cl e⟩⟩
 ·obtain ⟨p,hx,e⟩:=cZ.mp m
  exact A8 _ (lt_of_lt_of_eq (above p.1 p.2 hx) e)
 ·exact ⟨(fun q=>nomatch q.symm.trans X.kind),⟨s.heap.objs.size,o,rfl,bn _ (a0 _),q1,q2⟩,z9 (fun b o j e n=>⟨o,keep b o e,n⟩) frm⟩
 ·have ⟨b1,b2,b3⟩:=off b m
  exact ⟨b1,fun q=>b2 (fr b q),fun q=>(fy.mp q).elim (fun q=>b2 (fr b (List.mem_cons.mpr (.inl q)))) b3⟩
 ·have q:=SN e2
  have hx:=X.slots x n e1 (by rw [<-hl,<-r.len];exact (gL.mp q).1)
  obtain ⟨y,hy,ry⟩:=r.get q
  have mem:(x,y)∈ns.zip ys:=yF (i:=n) (List.getElem?_zip_eq_some.mpr ⟨hx,hy⟩)
  refine ⟨y,?_,ry.step (e8 _) tk'⟩
  rcases X.par x (yF hx) with k |k
  ·exact .inl ⟨k,_,ns1,(BK nz).2 y mem k⟩
  ·obtain ⟨cl,lk⟩:=X.cell (n:=s.heap.objs.size+1) k
   exact .inr ⟨cl,.inl k,lk,(Sr (kindOf:=(callEnvC fd s.heap.objs.size a).kindOf) (m:=fun j=>none) nz).2 y mem k▸cell x cl lk⟩
theorem ay.enter (I:ay c φ l σ s.heap) (X:gh base a fd body ns ρ) (hB:c.base=base) (hd:0< c.d) (hcs:b6 σ rs=some cs) (nr:rs.Nodup) (hl:ys.length=ns.length) (r:bV c.g.D (sel φ rs) s.heap vs ys)
  (C:InCallC s (callEnvC fd s.heap.objs.size a).locals (bindL (callEnvC fd s.heap.objs.size a).kindOf (ns.zip ys) fun j=>none) (callEnvC fd s.heap.objs.size a).cells (bindC (callEnvC fd s.heap.objs.size a).kindOf (ns.zip ys) fun j=>none) s₁):
  Sub c (sub c fd s.heap.objs.size a ρ) s s₁/\ay (sub c fd s.heap.objs.size a ρ) (sel φ rs) (vs.map some) cs s₁.heap:=
 have ⟨fr,kp,sm,J⟩:=G1 (d:=c.d - 1) I.st.hand (by have:=I.st.room;omega) (by have:=I.st.units;omega) I.st.stack I.st.nolim I.stay I.frm (A9 I.sto hcs).1 (Po I.nd nr) (fun b m=>⟨(I.off b (gv m)).base,(fun q=>let ⟨_,e,_⟩:=I.sto.kind b (gv m);nomatch q.symm.trans e),(I.off b (gv m)).fa⟩) (hB▸X) hl r C
 ⟨⟨rfl,rfl,rfl,fr,rfl,kp,sm⟩,J⟩
def bE (g:G) (base:Heap) (k:Nat) (f:Addr) (F:Fn):Prop:=
 ∀ c φ l σ s vs ys Q E,c.g=g->c.base=base->k<=c.d->ay c φ l σ s.heap->bV c.g.D φ s.heap vs ys->bJ c φ l s (et F vs σ) Q E->c.wp (PySem.call (.ref f) ys) Q E s
variable {g:G} {f:Addr} {F:Fn}
theorem bE.up {k':Nat} (h:bE g base k f F) (le:k<=k'):bE g base k' f F:=fun c φ l σ s vs ys Q E hg hb hk=>h c φ l σ s vs ys Q E hg hb (ba le hk)
theorem ei {A:Around} {R:Result->Shared->Prop} {vals:List Value} {binds:List (Str×Value)} (X:gh base a fd body ns ρ) (st:base.StaysIn s.heap) (nl:base.NoLimit)
  (hroom:A.depth< recursionLimit) (hbind:BindsTo s fd ⟨vals,[]⟩ binds) (hn:∀ x∈binds,x.1∈ns)
  (h:∀ s₁,InCallC s (callEnvC fd s.heap.objs.size a).locals (bindL (callEnvC fd s.heap.objs.size a).kindOf binds fun j=>none) (callEnvC fd s.heap.objs.size a).cells
    (bindC (callEnvC fd s.heap.objs.size a).kindOf binds fun j=>none) s₁->
   wpAny g.M (A.deeper (callEnvC fd s.heap.objs.size a)) (execs body (callEnvC fd s.heap.objs.size a)) (fun f s'=>R (.ok (.ret (match f with | .ret v=>v |_=> .none))) s')
    (fun e s'=>wpAny g.M (A.deeper (callEnvC fd s.heap.objs.size a)) (leaving (callEnvC fd s.heap.objs.size a) e) (fun j s''=>R (.error e) s'') (fun e' s''=>R (.error e') s'') s') s₁):
  codeAny g.M A (.call (.ref a) ⟨vals,[]⟩) R s:=by
 obtain ⟨o,ho,hd⟩:=X.ob
 refine codeAny_call_function hroom (st _ _ ho) hd X.co X.gen X.body (X.code.keeps st) (hbind _ _ _ _ ?_)
 rw [X.clo]
 refine wpAny_newFunctionEnv_cells X.kind (fun x m=>(X.par x.1 (hn x m)).imp id fun q=>⟨q,by obtain ⟨cl,e⟩:=X.cell (n:=s.heap.objs.size+1) q;rw [e];rfl⟩) fun env he s' x=>?_
 subst he
 exact ⟨(nl.keeps st).keeps x.toInCall.keep,codeAny_func (h s' x)⟩
def uQ (D:fj) (base:Heap) (fd:FuncData) (ns:List Str) (ps:List (Option I)):Prop:=
 ∀ vs ys (s:Shared) φ l0,base.StaysIn s.heap->bV D φ s.heap vs ys->jP ps vs=some l0->∃ vs' ys',l0=vs'.map some/\ys'.length=ns.length/\bV D φ s.heap vs' ys'/\BindsTo s fd ⟨ys,[]⟩ (ns.zip ys')
theorem Tw {b:Sx} (X:gh base a fd body ns ρ) (hbind:uQ g.D base fd ns ps)
  (hb:∀ c' L outer,c'.g=g->c'.base=base->k<=c'.d->c'.env=callEnvC fd L a->c'.frames=c'.env::outer->c'.ρ=ρ->k9 c' body b):bE g base (k+1) a (fn ps b):=fun c φ l σ s vs ys Q E hg hbase hk I r f=>by
 subst hg hbase
 unfold et at f
 generalize hrs:bz vs []=rs at f
 have nr:rs.Nodup:=hrs▸(MU .nil).1
 cases hcs:b6 σ rs with
 |none=>rw [hcs] at f;exact f.bad
 |some cs=>
  rw [hcs] at f
  have r':=r.sel (rs:=rs) fun v hv n e=>hrs▸NE hv e
  generalize vs.map (gH (eP rs))=vs' at f r'
  unfold fn at f
  cases hf:jP ps vs' with
  |none=>rw [hf] at f;exact f.bad
  |some l0=>
   rw [hf] at f
   obtain ⟨vs2,ys2,rfl,hl,r2,bt⟩:=hbind vs' ys s _ l0 I.stay r' hf
   refine zA (ei X I.stay I.st.nolim (by have:=I.st.room;omega) bt (fun x hx=>(Cs hx).1) fun s₁ ic=>?_)
   obtain ⟨S,I1⟩:=I.enter X rfl (ub (bf k) hk) hcs nr hl r2 ic
   have T1:mi (sub c fd s.heap.objs.size a ρ) s.heap.objs.size c.frames:=⟨rfl,rfl⟩
   refine hb (sub c fd s.heap.objs.size a ρ) _ c.frames rfl rfl (Nat.le_sub_one_of_lt hk) rfl rfl rfl _ _ cs s₁ _ _ I1 ?_
   have f:bJ c φ l s (dX σ rs (b (vs2.map some) cs).fin) Q E:=f
   generalize b (vs2.map some) cs=q at f ⊢
   cases q with
   |bad=>exact f.bad
   |ok fl l2 σ2=>
    intro φ2 y s' st I2 fr
    cases fl with
    |nxt=>exact fr.nxtE (zQ S I nr hcs st I2 (.i .none) f)
    |brk=>exact f.bad
    |ret v=>exact fr.retE fun y r=>zQ S I nr hcs st I2 r f
   |exc wh ro co=>
    intro e φ2 s' XA st
    unfold leaving
    refine ax (Eb (c:=sub c fd s.heap.objs.size a ρ) T1 I1.st.stack (st.tn fun b m q=>eT q (I1.there m)) XA fun h2 φ3 tr XA3 st3=>?_)
    exact qc (c:=sub c fd s.heap.objs.size a ρ) (s:={s' with heap:=h2}) XA3 tr (.inl rfl) fun h4 F XA4 st4=>
     have ⟨a1,a2⟩:=nh.out S I (st.trans (st3.trans st4)) XA4 F
     f _ _ _ a1 a2
theorem Sp {n:Str} {np pos:Pos} {es:List PySem.Expr} {as:List Ex} {ob:Obj} (hg:dh c n (.ref f)) (hF:bE c.g c.base k f F) (hk:k<=c.d) (ho:c.base.get? f=some ob) (hd:ob.data= .func fd) (hl:fV c es as):aK c (.Call (.Name n np) es [] pos) (Mine.call F as):=fun φ l σ s Q E I z=>
 zp (hg s _ _ _ I.stay (CG (o:=ob) (fd:=fd) (iO hl (mI hl _ _ _ _ _ _ I (z.bind fun vs σ₁ φ₁ s₁ ys st I₁ rr z=>⟨⟨I₁.stay _ _ ho,hd⟩,hF c φ₁ l σ₁ s₁ vs ys _ _ rfl rfl hk I₁ rr z⟩)))))
end
end
section
structure rH (K:Frag) (C:Addr):Prop where
 ga:findIn K (.ref C) "__getattribute__" =some (some (.builtin "object.__getattribute__"))
 gt:findIn K (.ref C) "__getattr__" =some none
 hd:hasDictIn K C=true
 sa:findIn K (.ref C) "__setattr__" =some (some (.builtin "object.__setattr__"))
 po:plainOver K C=true
def ul (K:Frag) (C:Addr) (name:Str):Prop:=findIn K (.ref C) name=some none
noncomputable def dD:List (String×Value)->Str->Option Value
 |[],_=>none
 |p::r,n=>bif Str.ofString p.1==n then some p.2 else dD r n
noncomputable def FJ:List (String×Value)->Str->Value->List (String×Value)
 |[],_,_=>[]
 |p::r,n,y=>bif Str.ofString p.1==n then (p.1,y)::r else p::FJ r n y
section
variable {P:Params} {kvs:List (String×Value)} {es:List DictEntry} {name:Str} {n:Nat}
theorem io.find (r:io P kvs es):(es.find? (·.key.isStr name)).map (·.val)=dD kvs name:=by
 induction r with
 |nil=>rfl
 |@cons k v t kvs es r ih=>
  rw [List.find?_cons,dD]
  show Option.map _ (match Str.ofString k==name with |true=>_ |false=>_)=_
  cases Str.ofString k==name with
  |true=>rfl
  |false=>exact ih
theorem io.plain (r:io P kvs es):es.any (·.refKey)=false:=by
 induction r with
 |nil=>rfl
 |cons r ih=>rw [List.any_cons,ih];rfl
theorem io.len (r:io P kvs es):es.length=kvs.length:=by
 induction r with
 |nil=>rfl
 |cons r ih=>exact aM Nat.succ ih
theorem io.look (r:io P kvs es):lookIn name ⟨.type "dict",none,.dict es.toArray n,#[]⟩=some (dD kvs name):=by
 unfold lookIn
 dsimp only
 have q:=r.find (name:=name)
 cases z:es.find? (·.key.isStr name) with
 |none=>rw [z] at q;rw [r.plain,<-q];rfl
 |some e=>rw [z] at q;rw [<-q];rfl
theorem io.put {hs:Int} {key v:Value} (r:io P kvs es) (h:(dD kvs name).isSome=true):io P (FJ kvs name v) (putL name hs key v es):=by
 induction r with
 |nil=>cases h
 |@cons k u t kvs es r ih=>
  unfold putL FJ
  rw [show (Value.str (Str.ofString k) t).isStr name=(Str.ofString k==name) from rfl]
  unfold dD at h
  dsimp only at h ⊢
  cases q:Str.ofString k==name with
  |true=>exact .cons r
  |false=>rw [q] at h;exact .cons (ih h)
theorem RO {v:Value}:(FJ kvs name v).length=kvs.length:=by
 induction kvs with
 |nil=>rfl
 |cons p r ih=>
  unfold FJ
  cases Str.ofString p.1==name with
  |true=>rfl
  |false=>exact aM Nat.succ ih
end
structure sM (K:Frag) (D:fj):Prop where
 rd:rH K D.rd
 tg:rH K D.tg
 nr:∀ n∈["tokens", "at", "tongue", "known", "family", "table"],ul K D.rd (Str.ofString n)
 nt:∀ n∈["fields", "types"],ul K D.tg (Str.ofString n)
noncomputable def wq (f:Nat):String:=["tokens", "at", "tongue", "known", "family", "table", "fields", "types"].getD f ""
section
variable {c:aS} {A:Around} {φ:a9} {l:av} {σ:ai} {s:Shared} {h h':Heap} {K:Frag} {C x dx:Addr} {kvs:List (String×Value)} {name:Str} {v:Value} {ob:Obj}
theorem zY {es:List DictEntry} {n:Nat} (hx:h.get? x=some (instObj C dx)) (hd:h.get? dx=some ⟨.type "dict",none,.dict es.toArray n,#[]⟩):InstAt h x (instObj C dx) C (some ⟨.type "dict",none,.dict es.toArray n,#[]⟩):=⟨hx,rfl,rfl,hd⟩
theorem wv {expr:Bool} {Q E:Value->Shared->Prop} (X:K.In s.heap) (CK:rH K C) (hx:s.heap.get? x=some (instObj C dx)) (D:cX c.g.w.params s.heap dx kvs) (na:ul K C name) (hf:dD kvs name=some v) (hh:handedIn v=true) (q:Q v {s with toks:=s.toks+1}):c.wp (getAttr (.ref x) name expr) Q E s:=
 let ⟨_,_,hd,r⟩:=D
 get_value X (zY hx hd) CK.ga (findObj_own CK.hd na rfl (by rw [r.look,hf])) hh q
theorem TH {pl:Sem Bool} {f:Addr} {Q:Value×List Value->Shared->Prop} {E:Value->Shared->Prop} (X:K.In s.heap) (CK:rH K C) (hx:s.heap.get? x=some (instObj C dx)) (D:cX c.g.w.params s.heap dx kvs)
  (hf:findIn K (.ref C) name=some (some (.ref f))) (ht:typeIn K (.ref f)=some (.type "function")) (na:dD kvs name=none) (q:Q (.ref f,[.ref x]) s):c.wp (getMethod (.ref x) name pl) Q E s:=
 let ⟨_,_,hd,r⟩:=D
 method_fn X (zY hx hd) CK.ga CK.gt hf ht (by show (lookIn name _).map _=_;rw [r.look,na];rfl) q
theorem vG {Q:Unit->Shared->Prop} {E:Value->Shared->Prop} (X:K.In s.heap) (CK:rH K C) (hx:s.heap.get? x=some (instObj C dx)) (D:cX c.g.w.params s.heap dx kvs) (hz:kvs.length<=1000) (na:ul K C name) (hf:(dD kvs name).isSome=true)
  (q:∀ h' t,(∀ b,b≠dx->h'.get? b=s.heap.get? b)->cX c.g.w.params h' dx (FJ kvs name v)->Q () {s with heap:=h',toks:=t}):c.wp (setAttr (.ref x) name v) Q E s:=by
 obtain ⟨es,n,hd,r⟩:=D
 have I:=zY hx hd
 refine set_plain X I CK.sa (osa_open X I CK.po (r:=none) (by unfold takerIn;rw [na];rfl) fun b=>?_)
 obtain ⟨cd,hcd,hdd⟩:=any_some CK.hd
 refine ax (aY (ax (ax (zG hx ?_))))
 refine ax (looks_clsIn X hcd _ _ _ _ (fun j j e=>e) ?_)
 rw [hdd]
 refine aY (a:=some dx) (ax (aY (ax ?_)))
 unfold nsSet
 refine ax (ax (wpAny_askSetting (aY (ax (wpAny_mkText (ax (zG hd ?_)))))))
 dsimp only
 rw [aRefKeyMayBeTheName_at,show (!es.toArray.any (·.key.isStr name) && es.toArray.any (·.refKey))=false by rw [H0,H0,r.plain,Bool.and_false]]
 refine wpAny_updatePart hd ?_
 have e:=putName_dict name (PyData.keyHash c.g.w.params name) (.str name (s.toks+1)) v es n
 have D':=vq (h:=s.heap) (Obj.putName name (PyData.keyHash c.g.w.params name) (.str name (s.toks+1)) v) hd (by rw [e];rfl)
 rw [e] at D'
 have rr:=r.put (hs:=PyData.keyHash c.g.w.params name) (key:= .str name (s.toks+1)) (v:=v) hf
 refine ax (wpAny_lookBehind D' (pastItsLine_dict ?_) (aY (q _ _ (fun b hb=>oj _ _ (gi hb)) ⟨_,_,D',rr⟩)))
 rw [e7,rr.len,wj,RO]
 exact ba hz (by decide)
end
section
variable {c:aS} {φ:a9} {l:av} {σ:ai} {s:Shared} {h h':Heap} {K:Frag} {e o:PySem.Expr} {a b:Ex} {pos ap pos':Pos} {u v:V} {x y:Value}
theorem aB.handed {D:fj} (r:aB D φ h u y):handedIn y=true:=by
 cases r with
 |i r=>cases r<;>rfl
 |_=>rfl
theorem cases4 {P:Nat->Prop} {k:Nat} (h0:P 0) (h1:P 1) (h2:P 2) (h3:P 3) (h:∀ f,f<=k->P (f+4)) {f:Nat} (hf:f<=k+4):P f:=by
 cases f with
 |zero=>exact h0
 |succ f=>cases f with
  |zero=>exact h1
  |succ f=>cases f with
   |zero=>exact h2
   |succ f=>cases f with
    |zero=>exact h3
    |succ f=>exact h f (Nat.le_of_add_le_add_right (b:=4) hf)
@[elab_as_elim]
theorem O8 {P:Nat->Prop} (h0:P 0) (h1:P 1) (h2:P 2) (h3:P 3) (h4:P 4) (h5:P 5) (h6:P 6) (h7:P 7) {f:Nat} (hf:f<=7):P f:=
 cases4 (k:=3) h0 h1 h2 h3 (fun f hf=>by
  cases f with
  |zero=>exact h4
  |succ f=>cases f with
   |zero=>exact h5
   |succ f=>cases f with
    |zero=>exact h6
    |succ f=>cases f with
     |zero=>exact h7
     |succ f=>exact (Nat.not_succ_le_zero f (Nat.le_of_add_le_add_right (b:=3) (c:=0) hf)).elim) hf
theorem Xj {f:Nat} {Q E:Value->Shared->Prop} (hf:f<=7) (X:K.In c.base) (RK:sM K c.g.D) (I:ay c φ l σ s.heap) (r:aB c.g.D φ s.heap u x) (z:bJ c φ l s (bp f u σ) Q E):c.wp (getAttr x (Str.ofString (wq f)) true) Q E s:=by
 have X':=X.keeps I.stay
 refine z.rd I r (fun m pre rest kn fam tab a dx tok kno tg tgd q j R j z=>?_) fun z=>z.sub I r (fun m pre rest kn fam tab a dx tok kno tg tgd q R z=>?_) Fin.bad
 ·obtain ⟨t,fv,tv,D,h3,h4⟩:=R.attrs
  have go:∀ {n y v},n∈["tokens", "at", "tongue", "known", "family", "table"]->dD _ (Str.ofString n)=some y->aB c.g.D φ s.heap v y->bJ c φ l s (.ok v σ) Q E->c.wp (getAttr (.ref a) (Str.ofString n) true) Q E s:=fun m q r z=>wv X' RK.rd R.obj D (RK.nr _ m) q r.handed (z.val I r)
  revert z
  refine O8 ?_ ?_ ?_ ?_ ?_ ?_ ?_ ?_ hf
  ·exact fun z=>go (.head _) rfl (.tks q) z
  ·exact fun z=>go (.tail _ (.head _)) rfl (.i (.int _ _)) z
  ·exact fun z=>go (.tail _ (.tail _ (.head _))) rfl (.tng q) z
  ·exact fun z=>go (.tail _ (.tail _ (.tail _ (.head _)))) rfl (.kno q) z
  ·exact fun z=>go (.tail _ (.tail _ (.tail _ (.tail _ (.head _))))) rfl (.i h3) z
  ·exact fun z=>go (.tail _ (.tail _ (.tail _ (.tail _ (.tail _ (.head _)))))) rfl (.i h4) z
  ·exact Fin.bad
  ·exact Fin.bad
 ·revert z
  refine O8 Fin.bad Fin.bad Fin.bad Fin.bad Fin.bad Fin.bad ?_ ?_ hf
  ·exact fun z=>wv X' RK.tg R.tong R.tongd (RK.nt _ (.head _)) rfl rfl (z.val I (.i (.fd _)))
  ·exact fun z=>wv X' RK.tg R.tong R.tongd (RK.nt _ (.tail _ (.head _))) rfl rfl (z.val I (.i (.fd _)))
theorem SU {f:Nat} (hf:f<=7) (X:K.In c.base) (RK:sM K c.g.D) (hb:c8 e=true) (ha:aK c e a):aK c (.Attribute e (Str.ofString (wq f)) pos) (un (bp f) a):=fun j j j j j j I z=>by
 rw [aS.wp,arm_eval_Attribute,fX hb]
 exact ax (ha _ _ _ _ _ _ I (z.bind fun j j j j j j I₁ r z=>ax (lB (ax (og (cQ (Xj hf X RK I₁ r z) (fun j j p=>ax (HZ (aY p))) fun j j p=>p))))))
theorem Le {k:Nat} {pre rest pre' rest':List Mine.I} (e:Dr k pre rest=some (pre',rest')):pre'.reverse++rest'=pre.reverse++rest/\pre'.length+k=pre.length:=by
 induction k generalizing pre rest with
 |zero=>cases e;exact ⟨rfl,rfl⟩
 |succ k ih=>cases pre with
  |nil=>cases e
  |cons x pre=>
   obtain ⟨a,b⟩:=ih e
   exact ⟨by rw [a,zi,bM];rfl,aM Nat.succ b⟩
theorem DN {n t:Nat} {b dx tok kno tg tgd:Addr} {pre rest pre' rest':List Mine.I} {kn:List (Mine.I×Mine.I)} {fam tab fam' tab':Mine.I} {Q:PySem.Flow->Shared->Prop} {E:Value->Shared->Prop} (I:ay c φ l σ s.heap) (q:φ[n]?=some [b,dx,tok,kno,tg,tgd])
  (R:td c.g s.heap pre rest kn fam tab b dx tok kno tg tgd) (same:pre'.reverse++rest'=pre.reverse++rest) (k:∀ z,z≠dx->h'.get? z=s.heap.get? z)
  (at_:TK s.heap h'->∃ (t:Tok) (fv tv:Value),cX c.g.w.params h' dx [("tokens",.ref tok),("at",.int (pre'.length:Int) t),("tongue",.ref tg),("known",.ref kno),("family",fv),("table",tv)]/\aX c.g.D h' fam' fv/\aX c.g.D h' tab' tv)
  (f:bh c φ s (.ok .nxt l (putAt σ n (.rd pre' rest' kn fam' tab'))) Q E):Q .next {s with heap:=h',toks:=t}:=
 have ne:∀ {z j},[b,dx,tok,kno,tg,tgd][j]?=some z->j≠1->∀ o,s.heap.get? z=some o->h'.get? z=some o:=fun e n u=>(k _ (Oh (zC I.nd q) e (j:=1) rfl n)).trans
 I.put q (fun z o m e=>(k z fun y=>m (y▸ .tail _ (.head _))).trans e) (fun tk=> .rd ⟨ne (j:=0) rfl nofun _ R.obj,at_ tk,let ⟨ts,n2,f1,f2,f3⟩:=R.toks;⟨ts,n2,ne (j:=2) rfl nofun _ f1,same▸f2.keep tk,same▸f3⟩,
  let ⟨es,g1,g2,g3⟩:=R.known;⟨es,D9 (ne (j:=3) rfl nofun) tk g1,g2.keep tk,g3⟩,ne (j:=4) rfl nofun _ R.tong,R.tongd.keep (ne (j:=5) rfl nofun)⟩) fun u st J=>f _ _ _ st J trivial
def CW (c:aS) (n:String) (F:V->V->av->ai->RS):Prop:=∀ φ l σ s u v x y Q E,ay c φ l σ s.heap->aB c.g.D φ s.heap u x->aB c.g.D φ s.heap v y->bh c φ s (F u v l σ) Q E->c.wp (setAttr x (Str.ofString n) y) (fun j=>Q .next) E s
theorem ZY (X:K.In c.base) (RK:sM K c.g.D):CW c "at" NO:=fun φ l σ s u v x y Q E I r rv f=>by
 refine Ab (F:=fun r=>bh c φ s r Q E) (C:=fun x=>c.wp (setAttr x (Str.ofString "at") y) (fun j=>Q .next) E s) f I r (fun m pre rest kn fam tab a dx tok kno tg tgd q j R j f=>?_) False.elim
 refine Jg (F:=fun r=>bh c φ s r Q E) (C:=fun y=>c.wp (setAttr (.ref a) (Str.ofString "at") y) (fun j=>Q .next) E s) f rv (fun p t f=>?_) False.elim
 obtain ⟨t0,fv,tv,D,h3,h4⟩:=R.attrs
 unfold stAt at f
 cases z1:Nat.ble p pre.length with
 |false=>rw [z1] at f;exact f.elim
 |true=>cases z2:Dr (pre.length - p) pre rest with
  |none=>rw [z1,z2] at f;exact f.elim
  |some pr=>
   rw [z1,z2] at f
   obtain ⟨m1,m2⟩:=Le z2
   have lp:p=pr.1.length:=by have:=aI z1;omega
   exact vG (X.keeps I.stay) RK.rd R.obj D (aI rfl) (RK.nr _ (.tail _ (.head _))) rfl fun h' t' ot D'=>DN I q R m1 ot (fun tk=>⟨t,fv,tv,lp▸D',h3.keep tk,h4.keep tk⟩) f
theorem WQ (X:K.In c.base) (RK:sM K c.g.D):CW c "family" M8:=fun φ l σ s u v x y Q E I r rv f=>by
 refine Ab (F:=fun r=>bh c φ s r Q E) (C:=fun x=>c.wp (setAttr x (Str.ofString "family") y) (fun j=>Q .next) E s) f I r (fun m pre rest kn fam tab a dx tok kno tg tgd q j R j f=>wy (F:=fun r=>bh c φ s r Q E) f rv (fun i ri f=>?_) False.elim) False.elim
 obtain ⟨t0,fv,tv,D,h3,h4⟩:=R.attrs
 exact vG (X.keeps I.stay) RK.rd R.obj D (aI rfl) (RK.nr _ (.tail _ (.tail _ (.tail _ (.tail _ (.head _)))))) rfl fun h' t' ot D'=>DN I q R rfl ot (fun tk=>⟨t0,y,tv,D',ri.keep tk,h4.keep tk⟩) f
theorem W4 (X:K.In c.base) (RK:sM K c.g.D):CW c "table" OT:=fun φ l σ s u v x y Q E I r rv f=>by
 refine Ab (F:=fun r=>bh c φ s r Q E) (C:=fun x=>c.wp (setAttr x (Str.ofString "table") y) (fun j=>Q .next) E s) f I r (fun m pre rest kn fam tab a dx tok kno tg tgd q j R j f=>wy (F:=fun r=>bh c φ s r Q E) f rv (fun i ri f=>?_) False.elim) False.elim
 obtain ⟨t0,fv,tv,D,h3,h4⟩:=R.attrs
 exact vG (X.keeps I.stay) RK.rd R.obj D (aI rfl) (RK.nr _ (.tail _ (.tail _ (.tail _ (.tail _ (.tail _ (.head _))))))) rfl fun h' t' ot D'=>DN I q R rfl ot (fun tk=>⟨t0,fv,y,D',h3.keep tk,ri.keep tk⟩) f
theorem Sc {n:String} {F:V->V->av->ai->RS} (so:CW c n F) (pv:dJ e=true) (ho:aK c o b) (he:aK c e a):fJ c (.Assign [.Attribute o (Str.ofString n) pos'] e pos) (Fe F b a):=fun j j j j j j I f=>
 OH (he _ _ _ _ _ _ I (f.bind fun j j j j j j I₁ rv f=>ho _ _ _ _ _ _ I₁ (f.bind fun j j j j j st₂ I₂ ru f=>so _ _ _ _ _ _ _ _ _ _ I₂ ru (rv.step st₂.pre (I₁.tk st₂)) f))) (eE pv)
def C1 (c:aS) (op:Operator) (k:Nat) (p1:Pos) (Q:PySem.Flow->Shared->Prop) (E:Value->Shared->Prop) (x:Value) (s:Shared):Prop:=
 c.wp (getAttr x (Str.ofString "at") true) (fun old s₂=>c.wp (eval (.Constant (.int 1) k p1) c.env) (fun v s₃=>c.wp (inplaceOp op old v) (fun new s₄=>c.wp (setAttr x (Str.ofString "at") new) (fun j=>Q .next) E s₄) E s₃) E s₂) E s
theorem IX {op:Operator} {d:Int} {k n:Nat} {p1:Pos} {b dx tok kno tg tgd:Addr} {pre rest pre' rest':List Mine.I} {kn:List (Mine.I×Mine.I)} {fam tab:Mine.I} {Q:PySem.Flow->Shared->Prop} {E:Value->Shared->Prop} (X:K.In c.base) (RK:sM K c.g.D) (I:ay c φ l σ s.heap)
  (hop:∀ (i:Int) (t t':Tok) (s:Shared) (Q:Value->Shared->Prop) (E:Value->Shared->Prop),Q (.int (i+d) s.toks) {s with toks:=s.toks+1}->c.wp (inplaceOp op (.int i t) (.int 1 t')) Q E s)
  (q:φ[n]?=some [b,dx,tok,kno,tg,tgd]) (R:td c.g s.heap pre rest kn fam tab b dx tok kno tg tgd) (same:pre'.reverse++rest'=pre.reverse++rest) (len:(pre.length:Int)+d=pre'.length) (f:bh c φ s (.ok .nxt l (putAt σ n (.rd pre' rest' kn fam tab))) Q E):
  C1 c op k p1 Q E (.ref b) s:=by
 obtain ⟨t0,fv,tv,D,h3,h4⟩:=R.attrs
 have na:=RK.nr _ (.tail _ (.head _))
 have X':=X.keeps I.stay
 exact wv X' RK.rd R.obj D na rfl rfl (D2 (hop _ _ _ _ _ _ (vG (s:={s with toks:=s.toks+1+1+1}) X' RK.rd R.obj D (aI rfl) na rfl fun h' t' ot D'=>DN (s:=s) I q R same ot (fun tk=>⟨_,fv,tv,by rw [<-len];exact D',h3.keep tk,h4.keep tk⟩) f)))
theorem Xn {k:Nat} {tpos p1:Pos} (X:K.In c.base) (RK:sM K c.g.D) (ho:aK c o a):fJ c (.AugAssign (.Attribute o (Str.ofString "at") tpos) .Add (.Constant (.int 1) k p1) pos) (Pp a):=fun j j j j Q E I f=>
 wpAny_AugAssign_AttributeAny (ho _ _ _ _ _ _ I (f.bind fun v σ₁ φ₁ s₁ y st I₁ r f=>by
  show C1 c .Add k p1 Q E y s₁
  refine Ab (F:=fun r=>bh c φ₁ s₁ r Q E) (C:=fun y=>C1 c .Add k p1 Q E y s₁) f I₁ r (fun m pre rest kn fam tab a dx tok kno tg tgd q j R j f=>?_) False.elim
  cases rest with
  |nil=>exact f.elim
  |cons z rest=>exact IX X RK I₁ (fun i t t' s Q E h=>PySem.P.iadd_int h) q R (by rw [zi,bM];rfl) rfl f))
theorem TQ {k:Nat} {tpos p1:Pos} (X:K.In c.base) (RK:sM K c.g.D) (ho:aK c o a):fJ c (.AugAssign (.Attribute o (Str.ofString "at") tpos) .Sub (.Constant (.int 1) k p1) pos) (R0 a):=fun j j j j Q E I f=>
 wpAny_AugAssign_AttributeAny (ho _ _ _ _ _ _ I (f.bind fun v σ₁ φ₁ s₁ y st I₁ r f=>by
  show C1 c .Sub k p1 Q E y s₁
  refine Ab (F:=fun r=>bh c φ₁ s₁ r Q E) (C:=fun y=>C1 c .Sub k p1 Q E y s₁) f I₁ r (fun m pre rest kn fam tab a dx tok kno tg tgd q j R j f=>?_) False.elim
  cases pre with
  |nil=>exact f.elim
  |cons z pre=>exact IX (d:= -1) X RK I₁ (fun i t t' s Q E h=>PyProof.Rows.isub_int h) q R (by rw [zi,bM];rfl) (Int.add_sub_cancel (pre.length:Int) 1) f))
theorem S6 {k:Nat} {f:Addr} {F:Fn} {n:Str} {es:List PySem.Expr} {as:List Ex} {ob:Obj} {fd:FuncData} (X:K.In c.base) (RK:sM K c.g.D) (hf:findIn K (.ref c.g.D.rd) n=some (some (.ref f))) (ht:typeIn K (.ref f)=some (.type "function"))
  (na:∀ tok at' tg kno fv tv,dD [("tokens",tok),("at",at'),("tongue",tg),("known",kno),("family",fv),("table",tv)] n=none)
  (hF:bE c.g c.base k f F) (hk:k<=c.d) (hob:c.base.get? f=some ob) (hd:ob.data= .func fd) (hb:c8 o=true) (hline:(ap.endLine==pos.line)=true) (hlen:es.length< 29) (ho:aK c o a) (hl:fV c es as):aK c (.Call (.Attribute o n ap) es [] pos) (aw F a as):=fun φ l σ s Q E I z=>by
 rw [aS.wp,arm_eval_Call,fX hb]
 refine ax (ho _ _ _ _ _ _ I (z.bind fun u σ₁ φ₁ s₁ x st I₁ ru z=>z.rd I₁ ru (fun m pre rest kn fam tab b dx tok kno tg tgd qm j R hu z=>?_) Fin.bad))
 obtain ⟨t0,fv,tv,D,_⟩:=R.attrs
 refine ax (lB ?_)
 unfold methodCall
 rw [show methodCallForm (es.length+([]:List Keyword).length) (backTo pos (starEach es c.env)) (backToKw pos (keywordEach [] c.env))=true from pZ hl hlen]
 refine ax (og (TH (X.keeps I₁.stay) RK.rd R.obj D hf ht (na _ _ _ _ _ _) (ax (wpAny_of_eq (a:=pos) (by unfold methodCallPos;rw [hline];rfl) ?_))))
 refine CG (o:=ob) (fd:=fd) (iO hl (mI hl _ _ _ _ _ _ I₁ (z.bind fun vs σ₂ φ₂ s₂ ys st₂ I₂ rr z=>⟨⟨I₂.stay _ _ hob,hd⟩,?_⟩)))
 exact hF c φ₂ l σ₂ s₂ _ _ _ _ rfl rfl hk I₂ (.cons (hu▸(aB.ref qm).step st₂.pre (I₁.tk st₂)) rr) z
end
end
end Mine
end
noncomputable section
open PySem PySem.W
namespace Mine
section
noncomputable abbrev lU:List Value:=[.ref 38,.type "Exception",.type "BaseException",.type "object"]
section
variable {prog:Program} {w:World} {A:Around} {R:Result->Shared->Prop} {E:Value->Shared->Prop} {h:Heap} {g:Array GenState} {d:Drawn} {t:Nat} {os:OsState}
theorem HJ (X:(K w.params).In h):∃ bs sn sub col dd k0 k1 k2 k3 k5,h.get? 71=some (excClassObj (S "BadText") (S "BadText") 71 70 bs lU true sn sub false col dd k0 k1 k2 k3 k5 "Exception.__new__"):=by
 have e:(K w.params).lookup 71=some ⟨(.type "type"),none,.cls {name:=(S "BadText"),bases:=[.ref 38],mro:=[.ref 71,.ref 38,.type "Exception",.type "BaseException",.type "object"],ns:=70,qualname:=(S "BadText"),hasDict:=true,subclasses:=[],abstract:=false,hasDel:=false},
  #[some (.ref 54),none,some (.str (S "BadText") 246),some (.str (S "BadText") 254),some (.builtin "Exception.__new__"),some (.bool true)]⟩:=by kernel_rfl
 exact ⟨_,_,_,_,_,_,_,_,_,_,X _ _ e⟩
variable {nm q:Str} {C N:Addr} {bs:List Value} {hdct:Bool} {sn:List Str} {sub:List Value} {ab:Bool} {col:Option Bool} {dd:Option Addr} {k0 k1 k2 k3 k5:Option Value}
theorem hcE:(Value.ref C::lU).contains (.type "Exception")=true:=by rw [EF];rw [show lU.contains (.type "Exception")=true by decide+kernel];exact Bool.or_true _
theorem PQ {rest:List Value} {Q:Unit->Shared->Prop} (hC:h.get? C=some (excClassObj nm q C N bs lU hdct sn sub ab col dd k0 k1 k2 k3 k5 "Exception.__new__"))
  (hq:Q () ⟨h,g,d,t,os⟩):wpAny (model prog w) A (checkBuiltinCall "Exception.__new__" ⟨.ref C::rest,[]⟩) Q E ⟨h,g,d,t,os⟩:=by
 have F:=PySem.F.excBase_Exception
 have hcont:(Value.ref C::lU).contains (.type "Exception")=true:=hcE
 have hstar:=F.noStar
 simp only [checkBuiltinCall,F.newKind,F.newSplit,F.newRow]
 repeat (first |refine vE hC ?_ |(refine ED hC ?_;rw [hcont]) |refine wpAny_staticBase_exc hC ?_ |refine wpAny_madeBy_exc hC ?_ |simp only [bne_self_eq_false,Bool.false_eq_true,if_false] |wp_step)
 exact hq
theorem Xg {rest:List Value} (hC:h.get? C=some (excClassObj nm q C N bs lU hdct sn sub ab col dd k0 k1 k2 k3 k5 "Exception.__new__"))
  (hq:R (.ok (.ret (.ref (h.objs.size+1)))) ⟨(h.push {cls:= .type "tuple",data:= .seq rest.toArray}).push
   {cls:= .ref C,data:= .fields #[.ref h.objs.size,.none,.none,.none,.bool false,.none]},g,d,t,os⟩) (hrest:rest.length<=sizeLine):
  codeAny (model prog w) A (.builtin "Exception.__new__" ⟨.ref C::rest,[]⟩) R ⟨h,g,d,t,os⟩:=by
 have F:=PySem.F.excBase_Exception
 have hends:=F.ends
 have hcB:(Value.ref C::lU).contains (.type "Exception")=true:=hcE
 have hcA:(Value.ref C::lU).contains (.type "AttributeError")=false:=by rw [EF];rw [show lU.contains (.type "AttributeError")=false by decide+kernel];rfl
 have hcN:(Value.ref C::lU).contains (.type "NameError")=false:=by rw [EF];rw [show lU.contains (.type "NameError")=false by decide+kernel];rfl
 refine codeAny_builtinAt F.entry ?_
 unfold Builtin.«BaseException.__new__»
 refine wpAt_bind ?_
 show wpAt _ _ _ (stack>>=_) _ _ _
 refine wpAt_bind (wpAt_stack fun p below=>wpAt_of_wpAny ?_)
 wp_walk
 refine wpAt_of_wpAny ?_
 rw [F.owner]
 repeat (first |with_reducible refine wpAny_madeHere_exc F.canon hC ?_ |with_reducible refine vE hC ?_ |(with_reducible refine ED hC ?_;first |rw [hcB] |rw [hcA] |rw [hcN]) |wp_step)
 show R _ _
 rw [Heap.size_push]
 exact hq
theorem K4 {rest:List Value} {Q:PySem.Fin->Shared->Prop} (X:(K w.params).In h)
  (hC:h.get? 71=some (excClassObj nm q 71 N bs lU hdct sn sub ab col dd k0 k1 k2 k3 k5 "Exception.__new__"))
  (hq:∀ h' e,Heap.MadeExcOf h h' e (.ref 71) rest->
   wpAny (model prog w) A (PySem.call (.ref 68) (.ref e::rest)) (fun r s'=>r= .none/\Q (.done (.ret (.ref e))) s') E ⟨h',g,d,t,os⟩) (hrest:rest.length<=sizeLine):
  wpAny (model prog w) A (Builtin.«type.__call__» ⟨.ref 71::rest,[]⟩) Q E ⟨h,g,d,t,os⟩:=by
 have F:=PySem.F.excBase_Exception
 repeat (first |with_reducible refine vE hC ?_ |with_reducible refine wpAny_madeBy_exc hC ?_ |wp_step)
 refine codeAny_call_builtin_code (Code.quiet_builtin _ F.quiet) (PQ hC ?_)
 refine Xg hC ?_ hrest
 show wpAny _ _ _ _ _ _
 have hC₁:=eB {cls:= .ref 71,data:= .fields #[.ref h.objs.size,.none,.none,.none,.bool false,.none]}
  (eB {cls:= .type "tuple",data:= .seq rest.toArray} hC)
 have kk:∀ b o,h.get? b=some o->((h.push {cls:= .type "tuple",data:= .seq rest.toArray}).push {cls:= .ref 71,data:= .fields #[.ref h.objs.size,.none,.none,.none,.bool false,.none]}).get? b=some o:=fun b o hb=>eB _ (eB _ hb)
 have hget:((h.push {cls:= .type "tuple",data:= .seq rest.toArray}).push
   {cls:= .ref 71,data:= .fields #[.ref h.objs.size,.none,.none,.none,.bool false,.none]}).get? (h.objs.size+1)=some
   {cls:= .ref 71,data:= .fields #[.ref h.objs.size,.none,.none,.none,.bool false,.none]}:=by heap_get
 have hcC:(Value.ref 71::lU).contains (.ref 71)=true:=by simp
 have X':(K w.params).In _:=X.keeps kk
 have L1:=looks_findIn (M:=model prog w) X' (t:= .ref 71) (name:= "__init__") (r:=some (.ref 68)) (by kernel_rfl)
 have L2:=looks_typeIn (M:=model prog w) X' (v:= .ref 68) (t:= .type "function") (by kernel_rfl)
 unfold isInstance
 repeat (first |with_reducible refine vE hget ?_ |(with_reducible refine ED hC₁ ?_;rw [hcC]) |wp_step)
 show wpAny _ _ (typeLookup (.ref 71) _) _ _ _
 refine L1 _ _ _ _ (fun j j e=>e) ?_
 refine og (ax ?_)
 unfold bindSpecial
 refine ax (L2 _ _ _ _ (fun j j e=>e) ?_)
 rw [cq (by decide)]
 refine aY (ax (cQ (hq _ (h.objs.size+1) ⟨kk,BE (iD _),h.objs.size,hget,BE (cR _),?_⟩) (fun r s' hr=>?_) fun j j x=>x))
 ·exact eB _ (Heap.get?_push_at rfl rfl)
 ·obtain ⟨rfl,hQ⟩:=hr
  wp_walk
  exact hQ
theorem aax {rest:List Value} {Q:Value->Shared->Prop} (X:(K w.params).In h)
  (hq:∀ h' e,Heap.MadeExcOf h h' e (.ref 71) rest->
   wpAny (model prog w) (A.under (.builtin "type.__call__" ⟨.ref 71::rest,[]⟩)) (PySem.call (.ref 68) (.ref e::rest)) (fun r s'=>r= .none/\Q (.ref e) s') E ⟨h',g,d,t,os⟩) (hrest:rest.length<=sizeLine):
  wpAny (model prog w) A (PySem.call (.ref 71) rest) Q E ⟨h,g,d,t,os⟩:=by
 obtain ⟨bs,sn,sub,col,dd,k0,k1,k2,k3,k5,hC⟩:=HJ X
 have f1:=tc_lookup
 have f2:=tc_bind (.ref 71)
 refine zA (codeAny_of_tree ?_)
 show wpAny _ _ (callAny (.ref 71) _) _ _ _
 repeat (any_goals (first |assumption |with_reducible refine vE hC ?_ |wp_step))
 refine ⟨rfl,?_⟩
 refine codeAny_call_builtin_at (Code.quiet_builtin _ (by decide+kernel)) entry_typeCall (wpAny_check_type_call_sub hC (K4 (hrest:=hrest) X hC fun h' e hm=>?_))
 exact hq h' e hm
end
end
end Mine
end
noncomputable section
open PySem PySem.W
open PySem.Calls Builtin Builtin.ObjectAttr
namespace Mine
section
theorem Sy (self:Value):refuseLoop self "__setattr__" [.ref 71,.ref 38,.type "Exception",.type "BaseException",.type "object"]=pure ():=by
 rw [refuseLoop_ref,refuseLoop_ref]
 kernel_rfl
theorem io.snoc {P:Params} {kvs:List (String×Value)} {es:List DictEntry} {k:String} {v:Value} {t:Tok} (r:io P kvs es) (h:dD kvs (Str.ofString k)=none):
  io P (kvs++[(k,v)]) (putL (Str.ofString k) (PyData.keyHash P (Str.ofString k)) (.str (Str.ofString k) t) v es):=by
 induction r with
 |nil=>exact .cons .nil
 |@cons k' u t' kvs es r ih=>
  unfold dD at h
  unfold putL
  rw [show (Value.str (Str.ofString k') t').isStr (Str.ofString k)=(Str.ofString k'==Str.ofString k) from rfl]
  dsimp only at h
  cases q:Str.ofString k'==Str.ofString k with
  |true=>rw [q] at h;cases h
  |false=>rw [q] at h;exact .cons (ih h)
structure lj (P:Params) (h:Heap) (e:Addr) (vs:Array Value) (kvs:List (String×Value)) (od:Option Addr):Prop where
 obj:h.get? e=some ⟨.ref 71,od,.fields vs,#[]⟩
 dict:od.elim (kvs=[]) fun dx=>cX P h dx kvs
structure Kx (e:Addr) (od od':Option Addr) (s s':Shared):Prop where
 keep:∀ b o,b≠e->od≠some b->s.heap.get? b=some o->s'.heap.get? b=some o
 dict:∀ d,od'=some d->od=some d\/(s.heap.get? d=none/\d≠e)
 same:s'.gens=s.gens/\s'.drawn=s.drawn/\s'.os=s.os
section
variable {g:G} {A:Around} {R:Result->Shared->Prop} {E:Value->Shared->Prop} {s s₁ s₂:Shared} {h h' base:Heap} {x e:Addr} {od od':Option Addr} {ob:Obj} {oo:Option Obj} {name:Str} {v y:Value} {kvs:List (String×Value)} {vs:Array Value} {m:Str->Option Value}
theorem Kx.trans {od₁:Option Addr} (x:Kx e od od₁ s s₁) (z:Kx e od₁ od' s₁ s₂):Kx e od od' s s₂ where
 keep b o n1 n2 h:=z.keep b o n1 (fun q=>(x.dict b q).elim n2 fun q=>nomatch q.1.symm.trans h) (x.keep b o n1 n2 h)
 dict d h:=(z.dict d h).elim (x.dict d) fun q=>OW fun n=>by
  rw [not_or] at n
  cases q2:s.heap.get? d with
  |none=>exact n.2 ⟨q2,q.2⟩
  |some o=>rw [x.keep d o q.2 n.1 q2] at q;cases q.1
 same:=⟨z.same.1.trans x.same.1,z.same.2.1.trans x.same.2.1,z.same.2.2.trans x.same.2.2⟩
theorem Kx.grow {t:Nat} (k:∀ b o,s.heap.get? b=some o->h'.get? b=some o):Kx e od od s {s with heap:=h',toks:=t}:=⟨fun b o j j h=>k b o h,fun j h=> .inl h,rfl,rfl,rfl⟩
theorem lj.keep (x:lj g.w.params h e vs kvs od) (k:∀ b o,h.get? b=some o->h'.get? b=some o):lj g.w.params h' e vs kvs od:=
 ⟨k _ _ x.obj,by
  have q:=x.dict
  cases od with
  |none=>exact q
  |some dx=>exact q.keep (k _)⟩
theorem VB {tk:Tok} {v:Value} (X:(K g.w.params).In s.heap) (I:InstAt s.heap x ob 71 oo) (ht:takerIn (K g.w.params) 71 name=some none)
  (h:∀ b,wpAny g.M A.in1 (storeInOwnDict (.ref x) (.ref 71) (.str name tk) name v b)
   (fun fin s'=>match fin with | .done f=>R (.ok f) s' | .again c'=>c'.quiet=true/\codeAny g.M A c' R s') (fun e s'=>R (.error e) s') s):
  codeAny g.M A (.call (.builtin "object.__setattr__") ⟨[.ref x,.str name tk,v],[]⟩) R s:=by
 have SF:=PySem.F.store_object
 have hc:clsIn (K g.w.params) 71=some {name:=(S "BadText"),bases:=[.ref 38],mro:=[.ref 71,.ref 38,.type "Exception",.type "BaseException",.type "object"],ns:=70,qualname:=(S "BadText"),hasDict:=true,subclasses:=[],abstract:=false,hasDel:=false}:=by kernel_rfl
 have sub:Looks g.M s.heap (isInstance (.ref x) (.type "object")) true:=I.type.andThen (looks_mroIn X (by kernel_rfl))
 refine codeAny_call_builtin SF.slot.plain SF.entry (@check_slot g.M _ _ s "object.__setattr__" "object" "__setattr__" (.ref x) [.str name tk,v] [] _ SF.kind SF.split sub (SF.args (.ref x) (.str name tk) v) ?_)
 obtain ⟨attr,ha,hr⟩:=CJ.mp ht
 have hm:Looks g.M s.heap (mroOf (.ref 71)) [.ref 71,.ref 38,.type "Exception",.type "BaseException",.type "object"]:=(looks_clsIn X hc).andThen .now
 have L3:Looks g.M s.heap (storeTaker? attr) none:=by
  cases attr with
  |none=>exact .now
  |some a=>
   obtain ⟨b,hb,hb2⟩:=CI.mp hr
   refine (looks_takesIn X hb).andThen ?_
   cases b with
   |false=>exact .now
   |true=>cases hb2
 rw [osa_eq,refuse_eq]
 refine ax (ax (I.type.here (ax (hm.here ?_))))
 rw [Sy]
 exact aY (ax (I.type.here (ax ((looks_findIn X ha).here (ax (L3.here (h _)))))))
theorem B9 {dx:Addr} {k:String} {Q:Unit->Shared->Prop} (D:cX g.w.params s.heap dx kvs) (hf:dD kvs (Str.ofString k)=none)
  (q:∀ h' t,(∀ b,b≠dx->h'.get? b=s.heap.get? b)->cX g.w.params h' dx (kvs++[(k,v)])->Q () {s with heap:=h',toks:=t}):wpAny g.M A (nsSet dx (Str.ofString k) v) Q E s:=by
 obtain ⟨es,n,hd,r⟩:=D
 unfold nsSet
 refine ax (ax (wpAny_askSetting (aY (ax (wpAny_mkText (ax (zG hd ?_)))))))
 dsimp only
 rw [aRefKeyMayBeTheName_at,show (!es.toArray.any (·.key.isStr (Str.ofString k)) && es.toArray.any (·.refKey))=false by rw [H0,H0,r.plain,Bool.and_false]]
 refine wpAny_updatePart hd ?_
 have e:=putName_dict (Str.ofString k) (PyData.keyHash g.w.params (Str.ofString k)) (.str (Str.ofString k) s.toks) v es n
 have D':=vq (h:=s.heap) (Obj.putName (Str.ofString k) (PyData.keyHash g.w.params (Str.ofString k)) (.str (Str.ofString k) s.toks) v) hd (by rw [e];rfl)
 rw [e] at D'
 exact q _ _ (fun b hb=>oj _ _ (gi hb)) ⟨_,_,D',r.snoc (v:=v) (t:=s.toks) hf⟩
theorem set71 {k:String} {Q:Unit->Shared->Prop} (X:(K g.w.params).In s.heap) (he:lj g.w.params s.heap e vs kvs od) (hl:kvs.length<=1000) (ht:takerIn (K g.w.params) 71 (Str.ofString k)=some none) (hf:dD kvs (Str.ofString k)=none)
  (q:∀ s' od',Kx e od od' s s'->lj g.w.params s'.heap e vs (kvs++[(k,y)]) od'->Q () s'):wpAny g.M A (setAttr (.ref e) (Str.ofString k) y) Q E s:=by
 obtain ⟨ho,hm⟩:=he
 have hs:findIn (K g.w.params) (.ref 71) "__setattr__" =some (some (.builtin "object.__setattr__")):=by kernel_rfl
 obtain ⟨cd,hcd,hdd⟩:=any_some (show (clsIn (K g.w.params) 71).any (·.hasDict)=true by kernel_rfl)
 cases od with
 |none=>
  have hm:kvs=[]:=hm
  subst hm
  have I:InstAt s.heap e ⟨.ref 71,none,.fields vs,#[]⟩ 71 none:=⟨ho,rfl,rfl,trivial⟩
  refine set_plain X I hs (VB X I ht fun b=>?_)
  refine ax (aY (ax (ax (zG ho ?_))))
  dsimp only
  refine ax (looks_clsIn X hcd _ _ _ _ (fun j j e=>e) ?_)
  rw [hdd]
  refine ax (wpAny_alloc (ax (wpAny_update (eB _ ho) ?_)))
  have ne:s.heap.objs.size≠e:=fun z=>by rw [<-z,a0] at ho;cases ho
  have hd0:((s.heap.push {cls:= .type "dict",data:= .dict #[]}).update e fun o=>{o with dict:=some s.heap.objs.size}).get? s.heap.objs.size=some ⟨.type "dict",none,.dict ([]:List DictEntry).toArray 0,#[]⟩:=
   (oj _ _ (gi ne)).trans (fB _ rfl)
  have he0:=vq (h:=s.heap.push {cls:= .type "dict",data:= .dict #[]}) (fun o=>{o with dict:=some s.heap.objs.size}) (eB _ ho) rfl
  refine aY (ax (aY (ax (B9 (s:={s with heap:=(s.heap.push {cls:= .type "dict",data:= .dict #[]}).update e fun o=>{o with dict:=some s.heap.objs.size},toks:=s.toks+1}) ⟨_,_,hd0,.nil⟩ rfl fun h' t ot D=>?_))))
  obtain ⟨es',n',hd',ar⟩:=id D
  refine ax (wpAny_lookBehind hd' (pastItsLine_dict (by rw [e7,ar.len,wj];exact aI rfl)) (aY ?_))
  exact q _ (some s.heap.objs.size) ⟨fun b o n1 j z=>(ot b fun q=>by rw [q,a0] at z;cases z).trans ((oj _ _ (gi n1)).trans (eB _ z)),fun d z=> .inr (bO z▸⟨a0 _,ne⟩),rfl,rfl,rfl⟩ ⟨(ot e (gi ne)).trans he0,D⟩
 |some dx=>
  have hm:cX g.w.params s.heap dx kvs:=hm
  obtain ⟨es,n,hd,r⟩:=id hm
  have I:InstAt s.heap e ⟨.ref 71,some dx,.fields vs,#[]⟩ 71 (some ⟨.type "dict",none,.dict es.toArray n,#[]⟩):=⟨ho,rfl,rfl,hd⟩
  refine set_plain X I hs (VB X I ht fun b=>?_)
  refine ax (aY (ax (ax (zG ho ?_))))
  dsimp only
  refine ax (looks_clsIn X hcd _ _ _ _ (fun j j e=>e) ?_)
  rw [hdd]
  refine aY (a:=some dx) (ax (aY (ax (B9 (s:={s with toks:=s.toks+1}) hm hf fun h' t ot D=>?_))))
  obtain ⟨es',n',hd',ar⟩:=id D
  refine ax (wpAny_lookBehind hd' (pastItsLine_dict (by rw [e7,ar.len,wj,bd];exact ba (gu hl) (aI rfl))) (aY ?_))
  have ne:e≠dx:=fun z=>by rw [z,hd] at ho;cases ho
  exact q _ (some dx) ⟨fun b o n1 n2 z=>(ot b fun q=>n2 (aM some q.symm)).trans z,fun d z=> .inl z,rfl,rfl,rfl⟩ ⟨(ot e ne).trans ho,D⟩
theorem Se {Q:Value->Shared->Prop} (X:(K g.w.params).In s.heap) (he:lj g.w.params s.heap e vs kvs od) (h0:0< vs.size) (q:∀ s' T,Kx e od od s s'->lj g.w.params s'.heap e (vs.setIfInBounds 0 (.ref T)) kvs od->Q .none s'):
  wpAny g.M A (PySem.call (.builtin "Exception.__init__") [.ref e,y]) Q E s:=by
 have F:=PySem.F.excBase_Exception
 obtain ⟨bs,sn,sub,col,dd,k0,k1,k2,k3,k5,hC⟩:=HJ X
 obtain ⟨ho,hm⟩:=he
 obtain ⟨h,g',d,t,os⟩:=s
 dsimp only at hC ho X
 have hcB:(Value.ref 71::lU).contains (.type "Exception")=true:=hcE
 have chk:∀ {A:Around} {E:Value->Shared->Prop} {Q:Unit->Shared->Prop},Q () ⟨h,g',d,t,os⟩->wpAny g.M A (checkBuiltinCall "Exception.__init__" ⟨[.ref e,y],[]⟩) Q E ⟨h,g',d,t,os⟩:=fun hq=>by
  have hshort:=F.noStar
  simp only [checkBuiltinCall,F.initKind,F.initSplit,F.initRow]
  repeat (first |(with_reducible refine vE ho ?_;dsimp only) |with_reducible refine vE hC ?_ |(with_reducible refine ED hC ?_;rw [hcB]) |wp_step)
  exact hq
 refine zA (codeAny_call_builtin F.init.plain F.initEntry (chk ?_))
 unfold Builtin.«BaseException.__init__»
 have hne:h.objs.size≠e:=fun z=>by rw [<-z,a0] at ho;cases ho
 have ho1:=eB {cls:= .type "tuple",data:= .seq [y].toArray} ho
 refine ax (zn ?_)
 unfold Builtin.BaseException.bexcPut
 have upd:=vq (Obj.mapFields (·.setIfInBounds 0 (.ref h.objs.size))) ho1 (Aa (Cb rfl _))
 have fin:wpAny g.M A.in1 (ret .none) (fun fin s'=>match fin with | .done f=>(match (Except.ok f:Result) with | .ok (.ret v)=>Q v s' | .ok _=>False | .error e=>E e s') | .again c'=>c'.quiet=true/\codeAny g.M A c' (fun r s'=>match r with | .ok (.ret v)=>Q v s' | .ok _=>False | .error e=>E e s') s')
   (fun e s'=>E e s') ⟨(h.push {cls:= .type "tuple",data:= .seq [y].toArray}).update e (Obj.mapFields (·.setIfInBounds 0 (.ref h.objs.size))),g',d,t,os⟩:=aY (q _ h.objs.size ⟨fun b o n1 j z=>(oj _ _ (gi n1)).trans (eB _ z),fun d z=> .inl z,rfl,rfl,rfl⟩ ⟨upd,by
    cases od with
    |none=>exact hm
    |some dx=>exact cX.keep hm fun o z=>(oj _ _ fun q=>by
      obtain ⟨es,n,z',_⟩:=(hm:cX g.w.params h dx kvs)
      rw [<-q,ho] at z';cases z').trans (eB _ z)⟩)
 refine ax (ax (f8 ho1 rfl (Array.getElem?_eq_getElem h0) (ax (FS ho1 rfl h0 ?_))))
 cases vs[0] with
 |ref a=>exact PySem.wpAny_letGo fin
 |_=>exact aY fin
end
end
end Mine
end
noncomputable section
open PySem PySem.W PySem.Calls
namespace Mine
section
structure dw (w:World) (base:Heap) (mg mb:Str->Option Value) (bn:List Str):Prop where
 X:(K w.params).In base
 g:base.Ns mainGlobals mg
 b:base.Ns builtinsNs mb
 bi:∀ x:Str,x≠ "__name__" ->mb x=bootBuiltins x
 no:∀ x∈bn,mg x=none
structure v9 (env:Env):Prop where
 kind:env.scope.kind= .function
 gl:env.globals=mainGlobals
 bu:env.builtins=builtinsNs
section
variable {g:G} {A:Around} {E:Value->Shared->Prop} {c:aS} {s:Shared} {env:Env} {mg mb:Str->Option Value} {bn:List Str} {x:Str} {v:Value} {base:Heap} {pos:Pos} {Q:Value->Shared->Prop}
theorem Bq (B:dw g.w base mg mb bn) (st:base.StaysIn s.heap) (Ev:v9 env) (hx:env.kindOf x=some .globalImplicit) (e:nsIn (K g.w.params) mainGlobals x=some (some v)) (hd:(x==("__debug__" :Str))=false) (h:Q v s):wpAny g.M A (eval (.Name x pos) env) Q E s:=
 Name_function_global Ev.kind hx (loadGlobal_global (env:=env) (by rw [Ev.gl];exact B.g.keeps st) (mg_of B.X B.g e) h) hd
theorem CH (B:dw g.w base mg mb bn) (st:base.StaysIn s.heap) (Ev:v9 env) (hx:env.kindOf x=some .globalImplicit) (hm:x∈bn) (hv:bootBuiltins x=some v) (hn:x≠ "__name__") (hd:(x==("__debug__" :Str))=false) (h:Q v s):wpAny g.M A (eval (.Name x pos) env) Q E s:=
 Name_function_global Ev.kind hx (loadGlobal_builtin (env:=env) (by rw [Ev.gl];exact B.g.keeps st) (B.no x hm) (by rw [Ev.bu];exact B.b.keeps st) ((B.bi x hn).trans hv) h) hd
theorem TR (B:dw c.g.w c.base mg mb bn) (Ev:v9 c.env) (hx:c.env.kindOf x=some .globalImplicit) (e:nsIn (K c.g.w.params) mainGlobals x=some (some v)) (hd:(x==("__debug__" :Str))=false):dh c x v:=fun j j j j st h=>Bq B st Ev hx e hd h
theorem Oo (B:dw c.g.w c.base mg mb bn) (Ev:v9 c.env) (hx:c.env.kindOf x=some .globalImplicit) (hm:x∈bn) (hv:bootBuiltins x=some v) (hn:x≠ "__name__") (hd:(x==("__debug__" :Str))=false):dh c x v:=fun j j j j st h=>CH B st Ev hx hm hv hn hd h
theorem CX {e:PySem.Expr} {Q:PySem.Flow->Shared->Prop} (hk:env.scope.kind= .function) (pv:dJ e=true) (h:wpAny g.M A (eval e env) (fun j s'=>Q .next s') E s):wpAny g.M A (exec (.Expr e pos) env) Q E s:=by
 have hi:interactive env=false:=by unfold interactive;rw [hk];rfl
 rw [exec_Expr (hi:=hi) (hs:=eE pv)]
 refine ax (lB (ax (cQ h (fun y s₁ q=>?_) fun j j q=>q)))
 unfold dropValue
 split
 ·exact aY q
 ·exact ax (lB (ax (wpAny_runValue (codeAny_builtin entry_let_go (show wpAny _ _ (ret .none) _ _ s₁ from aY (aY q))))))
 ·exact aY q
theorem xG {o a b:PySem.Expr} {n:Str} {ap:Pos} (hb:c8 o=true) (hline:(ap.endLine==pos.line)=true) (na:bI a=true) (nb:bI b=true)
  (h:wpAny g.M A (eval o env) (fun ov s₁=>∀ pl,wpAny g.M A (getMethod ov n pl) (fun fx s₂=>wpAny g.M A (callWith pos fx.1 fx.2 [(false,eval a env),(false,eval b env)] []) Q E s₂) E s₁) E s):wpAny g.M A (eval (.Call (.Attribute o n ap) [a,b] [] pos) env) Q E s:=by
 rw [arm_eval_Call,fX hb]
 refine ax (cQ h (fun ov s₁ h₁=>ax (lB ?_)) fun j j q=>q)
 unfold methodCall
 rw [show backTo pos (starEach [a,b] env)=[(false,eval a env),(false,eval b env)] by rw [eO na,eO nb];rfl,show backToKw pos (keywordEach [] env)=[] from rfl,show methodCallForm ([a,b].length+([]:List Keyword).length) [(false,eval a env),(false,eval b env)] []=true from rfl]
 exact ax (og (cQ (h₁ _) (fun fx s₂ h₂=>ax (wpAny_of_eq (a:=pos) (by unfold methodCallPos;rw [hline];rfl) h₂)) fun j j q=>q))
theorem A5 {f:Value} {a b:Sem Value} {Q:Args->Shared->Prop} (h:wpAny g.M A a (fun x s₁=>wpAny g.M A b (fun y s₂=>Q ⟨[x,y],[]⟩ s₂) E s₁) E s):wpAny g.M A (evalArgs f true [(false,a),(false,b)] []) Q E s:=
 evalArgs_plain (spliced_cons (cQ h (fun j j h₁=>spliced_cons (cQ h₁ (fun j j h₂=>spliced_nil h₂) fun j j q=>q)) fun j j q=>q))
end
noncomputable def pG (names:List Str):List (Str×Nat):=names.zipIdx
theorem KQ {names:List Str} {k n:Nat} {x:Str} (h:(names.zipIdx k).lookup x=some n):∃ i,n=k+i/\names[i]?=some x:=by
 induction names generalizing k with
 |nil=>cases h
 |cons y r ih=>
  rw [List.zipIdx_cons,rg] at h
  cases q:x==y with
  |true=>rw [q] at h;cases h;exact ⟨0,rfl,aM some (n9 q).symm⟩
  |false=>
   rw [q] at h
   obtain ⟨i,rfl,hi⟩:=ih h
   exact ⟨i+1,by rw [mv,lQ 1],hi⟩
def qJ (st:Stmt) (ns names:List Str):Prop:=((dZ st).kind= .function/\(dZ st).isCoroutine=false/\(dZ st).isGenerator=false)/\((dZ st).names.map (·.1)).Nodup/\(∀ x∈ns,(dZ st).names.lookup x=some .local\/(dZ st).names.lookup x=some .cell)/\ns.Nodup/\names.take ns.length=ns
noncomputable instance (st:Stmt) (ns names:List Str):Decidable (qJ st ns names):=by unfold qJ;infer_instance
theorem gh.of {w:World} {base:Heap} {f cd:Addr} {st:Stmt} {qual:Str} {dfl pm:Value} {ns names:List Str} (X:(K w.params).In base) (hl:(K w.params).lookup f=some (fO st qual dfl pm cd)) (hc:codeIn (K w.params) (.ref cd) qual=true) (h:qJ st ns names):
  gh base f (tF st qual dfl pm cd) (hA st) ns (pG names):=
 have ⟨⟨h1,h2,h3⟩,h4,h5,h6,h7⟩:=h
 ⟨⟨_,X _ _ hl,rfl⟩,rfl,rfl,h1,h2,h3,codeRec_of X hc,h4,h5,h6,fun x n e ln=>by
  obtain ⟨i,e1,e2⟩:=KQ e
  rw [om] at e1
  rw [<-h7,List.getElem?_take_of_lt ln,e1];exact e2⟩
end
section
theorem b35:∃ p1 p2 p3 p4 p5 p6 p7 p8 p9 q1 q2 q3 q4 q5 q6 k,hA (mt 3 0)=[.Expr (.Call (.Attribute (.Name (S "Exception") p1) (S "__init__") p2) [.Name (S "self") p3,.Name (S "why") p4] [] p5) p6,.Assign [.Attribute (.Name (S "self") p7) (S "why") p8] (.Name (S "why") p9) q1,
  .Assign [.Attribute (.Name (S "self") q2) (S "at") q3] (.UnaryOp .USub (.Constant (.int 1) k q4) q5) q6]/\(p2.endLine==p5.line)=true:=⟨_,_,_,_,_,_,_,_,_,_,_,_,_,_,_,_,rfl,rfl⟩
theorem b68:∃ p1 p2 p3 p4 p5 p6 p7 p8 p9 q1 q2 q3 q4 q5,hA (mt 5 0)=[.Expr (.Call (.Attribute (.Name (S "WallFault") p1) (S "__init__") p2) [.Name (S "self") p3,.Name (S "why") p4] [] p5) p6,.Assign [.Attribute (.Name (S "self") p7) (S "row") p8] (.Name (S "row") p9) q1,
  .Assign [.Attribute (.Name (S "self") q2) (S "column") q3] (.Name (S "column") q4) q5]/\(p2.endLine==p5.line)=true:=⟨_,_,_,_,_,_,_,_,_,_,_,_,_,_,rfl,rfl⟩
structure Mk (g:G) (base:Heap) (env:Env) (m:Str->Option Value) (e:Addr) (vs:Array Value) (kvs:List (String×Value)) (od:Option Addr) (s:Shared):Prop where
 st:base.StaysIn s.heap
 n1:base.get? e=none
 n2:∀ d,od=some d->base.get? d=none
 ns:s.heap.Ns env.locals m
 ex:lj g.w.params s.heap e vs kvs od
 ne:env.locals≠e
 nd:od≠some env.locals
section
variable {g:G} {A:Around} {E:Value->Shared->Prop} {base:Heap} {s s':Shared} {env:Env} {mg mb:Str->Option Value} {bn:List Str} {e:Addr} {vs vs':Array Value} {kvs kvs':List (String×Value)} {od od':Option Addr} {m:Str->Option Value} {y r k:Value} {h':Heap} {x:Str} {pos:Pos}
theorem Mk.step (M:Mk g base env m e vs kvs od s) (k:Kx e od od' s s') (ex:lj g.w.params s'.heap e vs' kvs' od'):Mk g base env m e vs' kvs' od' s' where
 st b o z:=k.keep b o (fun q=>by rw [q,M.n1] at z;cases z) (fun q=>by rw [M.n2 b q] at z;cases z) (M.st b o z)
 n1:=M.n1
 n2 d q:=(k.dict d q).elim (M.n2 d) fun q=>kJ.mpr fun o z=>nomatch q.1.symm.trans (M.st d o z)
 ns:=M.ns.at' fun o z=>k.keep _ o M.ne M.nd z
 ex:=ex
 ne:=M.ne
 nd q:=(k.dict _ q).elim M.nd fun q=>let ⟨_,_,_,ho,_⟩:=M.ns;nomatch q.1.symm.trans ho
theorem Mk.toks {t:Nat} (M:Mk g base env m e vs kvs od s):Mk g base env m e vs kvs od {s with toks:=t}:=⟨M.st,M.n1,M.n2,M.ns,M.ex,M.ne,M.nd⟩
theorem ld {v:Value} {Q:Value->Shared->Prop} (M:Mk g base env m e vs kvs od s) (hk:env.scope.kind= .function) (hl:env.kindOf x=some .local) (hv:m x=some v) (hd:(x==("__debug__" :Str))=false) (h:Q v s):wpAny g.M A (eval (.Name x pos) env) Q E s:=
 wpAny_Name (HG hk hl M.ns hv h) hd
theorem pE {k:String} {val:PySem.Expr} {pos' p1:Pos} {Q:PySem.Flow->Shared->Prop} (X:(K g.w.params).In base) (Ev:env.scope.kind= .function) (pv:dJ val=true) (hl:env.kindOf (S "self")=some .local) (hs:m (S "self")=some (.ref e)) (M:Mk g base env m e vs kvs od s) (hlen:kvs.length<=1000)
  (ht:takerIn (K g.w.params) 71 (Str.ofString k)=some none) (hf:dD kvs (Str.ofString k)=none) (hv:∀ {Q':Value->Shared->Prop},(∀ t,Q' y {s with toks:=t})->wpAny g.M A (eval val env) Q' E s)
  (q:∀ s' od',Kx e od od' s s'->Mk g base env m e vs (kvs++[(k,y)]) od' s'->Q .next s'):wpAny g.M A (exec (.Assign [.Attribute (.Name (S "self") p1) (Str.ofString k) pos'] val pos) env) Q E s:=
 OH (hv fun t=>ld (s:={s with toks:=t}) M.toks Ev hl hs (by decide) (set71 (s:={s with toks:=t}) (X.keeps M.st) M.ex hlen ht hf fun s' od' kx ex=>q s' od' ⟨kx.keep,kx.dict,kx.same⟩ (M.step ⟨kx.keep,kx.dict,kx.same⟩ ex))) (eE pv)
theorem JG {T:String} {name:Str} {v:Value} {pl:Sem Bool} {Q:Value×List Value->Shared->Prop} (X:(K g.w.params).In s.heap) (ht:typeOf (.type T)=pure (.type "type")) (hs:Manifest.isStub T=false)
  (e:findCls (K g.w.params) (.type T) (.type "type") name=some (.val v)) (hh:handedIn v=true) (h:Q (v,[]) {s with toks:=s.toks+1}):wpAny g.M A (getMethod (.type T) name pl) Q E s:=by
 have hstub:opaqueClassAbove (.type T)=pure none:=by unfold opaqueClassAbove;dsimp only;rw [hs];rfl
 have L0:Looks g.M s.heap (typeOf (.type T)) (.type "type"):=Looks.of_pure ht
 have hg:findIn (K g.w.params) (.type "type") "__getattribute__" =some (some (.builtin "type.__getattribute__")):=type_tga
 unfold getMethod specialOf
 refine ax (ax (L0.here ((looks_findIn X hg).here ?_)))
 dsimp only
 rw [cq canon_tga]
 refine ax (cQ (Q:=fun v=>Q (v,[])) (E:=E) ?_ (fun j j z=>aY z) fun j j z=>z)
 have LO:Looks g.M s.heap (opaqueClassAbove (.type T)) none:=Looks.of_pure hstub
 refine cls_open X LO L0 hg (looks_hook X (r:=none) (by rfl)) (by show subIn _ _ _=_;rfl) e
  (aY (by show wpAny _ _ (handedOut v) _ _ _;rw [handedOut_of hh];exact aY h))
theorem O9 {f cd:Addr} {st:Stmt} {qual:Str} {dfl pm:Value} {ns:List Str} {body:List Stmt} {ys:List Value} {Q:Value->Shared->Prop} (X:(K g.w.params).In base) (hl:(K g.w.params).lookup f=some (fO st qual dfl pm cd)) (hc:codeIn (K g.w.params) (.ref cd) qual=true) (hk:qJ st ns ns) (hb:hA st=body)
  (bt:BindsTo s (tF st qual dfl pm cd) ⟨ys,[]⟩ (ns.zip ys)) (hl:ys.length=ns.length) (nl:base.NoLimit) (sy:base.StaysIn s.heap) (he:lj g.w.params s.heap e vs [] none) (n1:base.get? e=none) (room:A.depth< recursionLimit)
  (q:∀ env m s₁,v9 env->(∀ x,env.kindOf x=(dZ st).names.lookup x)->(∀ x y,(x,y)∈ns.zip ys->(dZ st).names.lookup x=some .local->m x=some y)->Kx e none none s s₁->Mk g base env m e vs [] none s₁->
   wpAny g.M (A.deeper env) (execs body env) (fun f s'=>f= .next/\Q .none s') (fun j j=>False) s₁):wpAny g.M A (PySem.call (.ref f) ys) Q E s:=by
 have DO:=gh.of X ‹_› hc hk
 rw [hb] at DO
 refine zA (ei DO sy nl room bt (fun x hx=>(Cs hx).1) fun s₁ ic=>?_)
 obtain ⟨⟨⟨h1,tk,rfl⟩,ns1,keep,_⟩,_,_,_⟩:=ic
 refine cQ (q _ _ _ ⟨DO.kind,rfl,rfl⟩ (fun j=>rfl) (fun x y m hk=>(BK (by rw [HE (FF hl.symm)];exact DO.nd)).2 y m hk) (.grow keep) ⟨fun b o z=>keep b o (sy b o z),n1,nofun,ns1,he.keep keep,fun z=>?_,nofun⟩) (fun f s' z=>?_) fun j j z=>z.elim
 ·have:=he.obj
  rw [<-z] at this
  exact nomatch (a0 s.heap).symm.trans this
 ·obtain ⟨rfl,z⟩:=z
  exact z
set_option maxHeartbeats 1000000 in
theorem run35 {Q:Value->Shared->Prop} (B:dw g.w base mg mb bn) (hm:("Exception" :Str)∈bn) (nl:base.NoLimit) (sy:base.StaysIn s.heap) (he:lj g.w.params s.heap e vs [] none) (n1:base.get? e=none) (room:A.depth< recursionLimit) (h0:0< vs.size)
  (q:∀ s' T t od',Kx e none od' s s'->lj g.w.params s'.heap e (vs.setIfInBounds 0 (.ref T)) [("why",y),("at",.int (-1) t)] od'->Q .none s'):wpAny g.M A (PySem.call (.ref 35) [.ref e,y]) Q E s:=by
 obtain ⟨p1,p2,p3,p4,p5,p6,p7,p8,p9,q1,q2,q3,q4,q5,q6,k,hb,hline⟩:=b35
 refine O9 (f:=35) (st:=mt 3 0) (qual:=S "WallFault.__init__") (dfl:= .none) (pm:= .str (S "siftwall.faults") 198) (cd:=34) (ns:=[S "self",S "why"]) B.X (by kernel_rfl) (by kernel_rfl) (cw (by kernel_rfl)) hb (BindsTo.of_eq (by kernel_rfl)) rfl nl sy he n1 room fun env m s₁ Ev kd mm kx0 M=>?_
 have kself:env.kindOf (S "self")=some .local:=(kd _).trans (by kernel_rfl)
 have kwhy:env.kindOf (S "why")=some .local:=(kd _).trans (by kernel_rfl)
 have mself:m (S "self")=some (.ref e):=mm _ _ (.head _) (by kernel_rfl)
 have mwhy:m (S "why")=some y:=mm _ _ (.tail _ (.head _)) (by kernel_rfl)
 refine iS (CX Ev.kind rfl (xG rfl hline rfl rfl (CH (v:= .type "Exception") B M.st Ev ((kd _).trans (by kernel_rfl)) hm (by kernel_rfl) (by decide) (by decide) fun pl=>?_)))
 refine JG (B.X.keeps M.st) (by kernel_rfl) (by decide+kernel) (v:= .builtin "Exception.__init__") (by kernel_rfl) rfl (callWith_builtin rfl (A5 (ld M.toks Ev.kind kself mself (by decide) (ld M.toks Ev.kind kwhy mwhy (by decide) ?_))))
 refine Se (s:={s₁ with toks:=s₁.toks+1}) (B.X.keeps M.st) M.ex h0 fun s2 T kx1 ex1=>?_
 have kx1:Kx e none none s₁ s2:=⟨kx1.keep,kx1.dict,kx1.same⟩
 refine iS (pE (k:= "why") B.X Ev.kind rfl kself mself (M.step kx1 ex1) (dI _) (by kernel_rfl) rfl (fun hq=>ld (M.step kx1 ex1) Ev.kind kwhy mwhy (by decide) (hq _)) fun s3 od3 kx2 M3=>?_)
 refine iS (pE (k:= "at") (y:= .int (-1) (s3.toks+1)) B.X Ev.kind rfl kself mself M3 (aI rfl) (by kernel_rfl) (by kernel_rfl) (fun hq=>PyProof.Rows.UnaryOp_ (D2 (PyProof.Rows.neg_int (hq _)))) fun s4 od4 kx3 M4=>?_)
 exact yh ⟨rfl,q s4 T _ od4 (((kx0.trans kx1).trans kx2).trans kx3) M4.ex⟩
set_option maxHeartbeats 1000000 in
theorem run68 {Q:Value->Shared->Prop} (B:dw g.w base mg mb bn) (hm:("Exception" :Str)∈bn) (nl:base.NoLimit) (sy:base.StaysIn s.heap) (he:lj g.w.params s.heap e vs [] none) (n1:base.get? e=none) (room:A.depth+1< recursionLimit) (h0:0< vs.size)
  (q:∀ s' T t od',Kx e none od' s s'->lj g.w.params s'.heap e (vs.setIfInBounds 0 (.ref T)) [("why",y),("at",.int (-1) t),("row",r),("column",k)] od'->Q .none s'):wpAny g.M A (PySem.call (.ref 68) [.ref e,y,r,k]) Q E s:=by
 obtain ⟨p1,p2,p3,p4,p5,p6,p7,p8,p9,q1,q2,q3,q4,q5,hb,hline⟩:=b68
 have h61:(K g.w.params).lookup 61=some ⟨.type "tuple",none,.seq #[.int 0 258,.int 0 259] 0,#[]⟩:=by kernel_rfl
 refine O9 (f:=68) (st:=mt 5 0) (qual:=S "BadText.__init__") (dfl:= .ref 61) (pm:= .str (S "siftwall.faults") 198) (cd:=67) (ns:=[S "self",S "why",S "row",S "column"]) B.X (by kernel_rfl) (by kernel_rfl) (cw (by kernel_rfl)) hb (CN rfl (sy _ _ (B.X _ _ h61)) rfl rfl rfl) rfl nl sy he n1 (zh room) fun env m s₁ Ev kd mm kx0 M=>?_
 have kl:∀ x,(dZ (mt 5 0)).names.lookup x=some .local->env.kindOf x=some .local:=fun x q=>(kd x).trans q
 have kself:=kl (S "self") (by kernel_rfl)
 have kwhy:=kl (S "why") (by kernel_rfl)
 have krow:=kl (S "row") (by kernel_rfl)
 have kcol:=kl (S "column") (by kernel_rfl)
 have mself:m (S "self")=some (.ref e):=mm _ _ (.head _) (by kernel_rfl)
 have mwhy:m (S "why")=some y:=mm _ _ (.tail _ (.head _)) (by kernel_rfl)
 have mrow:m (S "row")=some r:=mm _ _ (.tail _ (.tail _ (.head _))) (by kernel_rfl)
 have mcol:m (S "column")=some k:=mm _ _ (.tail _ (.tail _ (.tail _ (.head _)))) (by kernel_rfl)
 have h35:=B.X 35 (fO (mt 3 0) (S "WallFault.__init__") .none (.str (S "siftwall.faults") 198) 34) (by kernel_rfl)
 refine iS (CX Ev.kind rfl (xG rfl hline rfl rfl (Bq (v:= .ref 38) B M.st Ev ((kd _).trans (by kernel_rfl)) (by kernel_rfl) (by decide) fun pl=>?_)))
 refine method_cls (K:=K g.w.params) (B.X.keeps M.st) (by kernel_rfl) (cls_value (mc:= .type "type") (v:= .ref 35) (B.X.keeps M.st) (by kernel_rfl) (by kernel_rfl) rfl ?_)
 refine CG (A5 (ld M.toks Ev.kind kself mself (by decide) (ld M.toks Ev.kind kwhy mwhy (by decide) ⟨⟨M.st _ _ h35,rfl⟩,?_⟩)))
 refine run35 (s:={s₁ with toks:=s₁.toks+1}) B hm nl M.st M.ex n1 (by show A.depth+1< _;exact room) h0 fun s2 T t od2 kx1 ex1=>?_
 have kx1:Kx e none od2 s₁ s2:=⟨kx1.keep,kx1.dict,kx1.same⟩
 have M2:=M.step kx1 ex1
 refine iS (pE (k:= "row") B.X Ev.kind rfl kself mself M2 (aI rfl) (by kernel_rfl) (by kernel_rfl) (fun hq=>ld M2 Ev.kind krow mrow (by decide) (hq _)) fun s3 od3 kx2 M3=>?_)
 refine iS (pE (k:= "column") B.X Ev.kind rfl kself mself M3 (aI rfl) (by kernel_rfl) (by kernel_rfl) (fun hq=>ld M3 Ev.kind kcol mcol (by decide) (hq _)) fun s4 od4 kx3 M4=>?_)
 exact yh ⟨rfl,q s4 T _ od4 (((kx0.trans kx1).trans kx2).trans kx3) M4.ex⟩
end
end
section
section
variable {c:aS} {φ φ₁:a9} {l:av} {σ σ₁:ai} {s s₁ s₂:Shared} {h h':Heap} {mg mb:Str->Option Value} {bn:List Str} {e:PySem.Expr} {a:Ex} {pos np:Pos}
theorem TS {vs:List V} {ys:List Value} {Q E:Value->Shared->Prop} (B:dw c.g.w c.base mg mb bn) (hm:("Exception" :Str)∈bn) (hD:c.g.D.bt=71) (I:ay c φ l σ s.heap) (rr:bV c.g.D φ s.heap vs ys) (f:bJ c φ l s (ZD vs σ) Q E):c.wp (PySem.call (.ref 71) ys) Q E s:=by
 match vs,rr,f with
 |[a,b,d],rr,f=>
  refine rr.consE fun y1 ys r1 rr=>rr.consE fun y2 ys r2 rr=>rr.consE fun y3 ys r3 rr=>rr.nilE ?_
  refine Fin.str f r1 (fun wh tw qw f=>f.int r2 (fun r tr f=>f.int r3 (fun k tk f=>?_) Fin.bad) Fin.bad) Fin.bad
  have room:=I.st.room
  have nl:=I.st.nolim
  obtain ⟨hp,g,d,t,os⟩:=s
  refine aax (B.X.keeps I.stay) (fun h2 e hme=>?_) (aI (by rw [wj];rfl))
  obtain ⟨tt,he,ht0,htt⟩:=hme.there
  have none0:∀ {b},h2.get? b=none->hp.get? b=none:=fun n=>kJ.mpr fun o z=>nomatch n.symm.trans (hme.keeps _ o z)
  refine run68 (s:=⟨h2,g,d,t,os⟩) (vs:=#[.ref tt,.none,.none,.none,.bool false,.none]) B hm nl (fun b o z=>hme.keeps b o (I.stay b o z)) ⟨he,rfl⟩ (I.new hme.new).1.base ?_ (aI rfl) fun s3 T t3 od kx ex=>⟨rfl,?_⟩
  ·have hw:(Code.builtin "type.__call__" ⟨.ref 71::[.str (aD wh) tw,.int r tr,.int k tk],[]⟩).weight=1:=by kernel_rfl
   show c.A.depth+(Code.builtin "type.__call__" ⟨.ref 71::[.str (aD wh) tw,.int r tr,.int k tk],[]⟩).weight+1< recursionLimit
   omega
  ·obtain ⟨ho,hm⟩:=ex
   cases od with
   |none=>cases (hm:_=[])
   |some dx=>
    have hm:cX c.g.w.params s3.heap dx _:=hm
    have keep:∀ b o,hp.get? b=some o->s3.heap.get? b=some o:=fun b o z=>kx.keep b o (fun q=>nomatch (q▸z).symm.trans hme.new) nofun (hme.keeps b o z)
    have fdx:=(kx.dict dx rfl).resolve_left nofun
    obtain ⟨h3,g3,d3,t3',os3⟩:=s3
    obtain ⟨eg,ed,eo⟩:=kx.same
    dsimp only at eg ed eo
    subst eg ed eo
    exact I.alloc (s:=⟨hp,g3,d3,t,os3⟩) (h':=h3) (t:=t3') (.all keep) (x:= .exn true wh r k) (a:=e) (as:=[dx]) (b9.mpr ⟨hme.new,vr.mpr (none0 fdx.1)⟩) (ej.mpr ⟨fun m=>fdx.2 (cY.mp m).symm,ej.mpr ⟨nofun,.nil⟩⟩)
     (fun j=> .exn (vs:=#[.ref T,.none,.none,.none,.bool false,.none]) ⟨⟨#[],by rw [hD];exact ho⟩,aI rfl,⟨_,_,_,_,hm⟩,qw⟩ fun j=>rfl) f
theorem YD {es:List PySem.Expr} {as:List Ex} (B:dw c.g.w c.base mg mb bn) (hm:("Exception" :Str)∈bn) (hD:c.g.D.bt=71) (hg:dh c (Str.ofString "BadText") (.ref 71)) (hl:fV c es as):aK c (.Call (.Name (Str.ofString "BadText") np) es [] pos) (Ca as):=fun φ l σ s Q E I f=>
 zp (hg s _ _ _ I.stay (callWith_of (P:=fun h=>(K c.g.w.params).In h) (by rw [pp hl];rfl) (keeps_K (by kernel_rfl)) (iO hl (mI hl _ _ _ _ _ _ I (f.bind fun j j j j j j I₁ rr f=>⟨B.X.keeps I₁.stay,TS B hm hD I₁ rr f⟩)))))
theorem Pn (B:dw c.g.w c.base mg mb bn) (hD:c.g.D.bt=71) (he:aK c e a):fJ c (.Raise (some e) none pos) (aV a):=fun φ l σ s Q E I f=>by
 rw [aS.wp,arm_exec_Raise]
 show wpAny c.g.M c.A (do standAt pos;raiseStmt c.env (some (do let v <-eval e c.env;standAt pos;pure v)) none) _ _ s
 refine ax (lB ?_)
 unfold raiseStmt
 refine ax (ax (he _ _ _ _ _ _ I (f.bind fun v σ₁ φ₁ s₁ y st I₁ r f=>ax (lB (aY ?_)))))
 show wpAny c.g.M c.A (raiseStmt c.env (some (pure y)) none) (fun f s'=>Q f s') E s₁
 refine el_exn (F:=fun r=>bh c φ₁ s₁ r Q E) (C:=fun y=>wpAny c.g.M c.A (raiseStmt c.env (some (pure y)) none) (fun f s'=>Q f s') E s₁) f I₁ r (fun m new wh ro co x dx vs q O nv f=>?_) False.elim
 cases new with
 |false=>exact f.elim
 |true=>
  have m1:x∈own φ₁:=hZ q (.head _)
  have m2:dx∈own φ₁:=hZ q (.tail _ (.head _))
  obtain ⟨bs,sn,sub,col,dd,k0,k1,k2,k3,k5,hC⟩:=HJ (B.X.keeps I₁.stay)
  have h3:=nv rfl
  have done:E (.ref x) s₁:=f x φ₁ s₁ ⟨I₁.nsx,I₁.stay,I₁.frm,⟨m1,I₁.off x m1⟩,dx,vs,O,m2,I₁.off dx m2,Oh (zC I₁.nd q) (i:=1) (j:=0) rfl rfl nofun,.inl h3⟩ .refl
  obtain ⟨sl,h1⟩:=O.ob
  rw [hD] at h1
  have hand:=I₁.st.hand
  obtain ⟨hp,g,d,tk,os⟩:=s₁
  dsimp only at h1 hC
  have hcB:(Value.ref 71::lU).contains (.type "BaseException")=true:=by rw [EF];rw [show lU.contains (.type "BaseException")=true by decide+kernel];exact Bool.or_true _
  have hcT:(Value.ref 71::lU).contains (.type "type")=false:=by rw [EF];rw [show lU.contains (.type "type")=false by decide+kernel];rfl
  have tail:∀ {Q:PySem.Flow->Shared->Prop},wpAny c.g.M c.A (do setFlight (.ref x) none;raiseNew (.ref x)) Q E ⟨hp,g,d,tk,os⟩:=by
   intro Q
   unfold setFlight raiseNew
   refine ax (ax (f8 h1 rfl h3 ?_))
   rw [b7 nofun]
   refine aY (ax (wpAny_handled ?_))
   rw [hand]
   first
    |exact wpAny_throw done
    |exact ax (aY (wpAny_throw done))
  unfold raiseStmt
  refine ax (aY ?_)
  unfold excFromValue isExcClass isType isInstance raisedInstance
  repeat (first |exact tail |(with_reducible refine vE h1 ?_;dsimp only) |with_reducible refine vE hC ?_ |(with_reducible refine ED hC ?_;first |rw [hcB] |rw [hcT]) |wp_step)
end
end
end Mine
end
noncomputable section
open PySem PySem.W PySem.Calls
open Builtin Builtin.ObjectAttr
namespace Mine
section
section
variable {g:G} {A:Around} {E:Value->Shared->Prop} {s:Shared} {env:Env} {e dx:Addr} {vs:Array Value} {sl:Array (Option Value)} {kvs:List (String×Value)} {name:Str} {v:Value}
theorem get71 {expr:Bool} {Q:Value->Shared->Prop} (X:(K g.w.params).In s.heap) (he:s.heap.get? e=some ⟨.ref 71,some dx,.fields vs,sl⟩) (D:cX g.w.params s.heap dx kvs)
  (na:findIn (K g.w.params) (.ref 71) name=some none) (hf:dD kvs name=some v) (hh:handedIn v=true) (q:Q v {s with toks:=s.toks+1}):wpAny g.M A (getAttr (.ref e) name expr) Q E s:=by
 obtain ⟨es,n,hd,r⟩:=D
 have I:InstAt s.heap e ⟨.ref 71,some dx,.fields vs,sl⟩ 71 (some ⟨.type "dict",none,.dict es.toArray n,#[]⟩):=⟨he,rfl,rfl,hd⟩
 have FB:=PySem.F.attrBase_Exception
 have hfo:findObj (K g.w.params) 71 (some ⟨.type "dict",none,.dict es.toArray n,#[]⟩) name=some (.value v):=findObj_own (by kernel_rfl) na rfl (by rw [r.look,hf])
 obtain ⟨h,g',d,t,os⟩:=s
 dsimp only at X I
 have L0:=I.type (M:=g.M)
 have L1:=looks_findIn (M:=g.M) X (t:= .ref 71) (name:= "__getattribute__") (r:=some (.builtin "BaseException.__getattribute__")) (by kernel_rfl)
 have L2:=looks_find (M:=g.M) X I hfo
 have L3:=looks_hook (M:=g.M) X (mc:= .ref 71) (r:=none) (by kernel_rfl)
 have L5:Looks g.M h (isInstance (.ref e) (.type "BaseException")) true:=I.type.andThen (looks_mroIn X (by kernel_rfl))
 have hk:builtinKind "BaseException.__getattribute__" =some .slot:=by decide+kernel
 have hsplit:splitId "BaseException.__getattribute__" =some ("BaseException", "__getattribute__"):=by decide+kernel
 unfold getAttr getAttrBy
 refine ax (wpAny_mkText (og (ax (L0.at (ax (L1.at ?_))))))
 dsimp only
 rw [show (onTheHeap (.ref 71) && Value.builtin "BaseException.__getattribute__" == .builtin "object.__getattribute__")=false by decide+kernel]
 rw [b7 (by decide)]
 unfold getAttrByItsOwn
 refine ax (L3.at (ax (wpAny_attempt (og ?_))))
 unfold callGetattribute
 rw [show (expr && onTheHeap (Value.builtin "BaseException.__getattribute__"))=false by cases expr<;>rfl]
 rw [b7 (by decide)]
 unfold boundAndCalled
 rw [FB.ga.bind (.ref e)]
 refine ax (aY ?_)
 refine zA (codeAny_call_builtin FB.ga.plain PySem.F.entry_bexc_ga (@check_slot g.M _ _ _ "BaseException.__getattribute__" "BaseException" "__getattribute__" (.ref e) [.str name t] [] _ hk hsplit L5 (PySem.F.args_bexc_ga (.ref e) (.str name t)) ?_))
 refine ax (aY (ax (aY (ax (L0.at (ax (L2.at (aY ?_))))))))
 show wpAny _ _ (handedOut v) _ _ _
 rw [handedOut_of hh];exact aY q
theorem T6 {t:PySem.Expr} {n:Str} {b₀:Stmt} {suite:List Stmt} {pos:Pos} {rest:List ExceptHandler} {Q:PySem.Flow->Shared->Prop}
  (h:∀ E,wpAny g.M (A.mark (some (.ref e))) (eval t env) (fun c s₁=>c= .ref 71/\(K g.w.params).In s₁.heap/\(∃ oe,s₁.heap.get? e=some oe/\oe.cls= .ref 71)/\
   wpAny g.M (A.mark (some (.ref e))) (setFlight (.ref e) none) (fun j s₂=>
     wpAny g.M (A.mark (some (.ref e))) (storeName env n (.ref e)) (fun j s₃=>∀ E₂,
      wpAny g.M (A.mark (some (.ref e))) (execs (b₀::suite) env)
       (fun f s₄=>∀ E₃,wpAny g.M A (do bindName env n .none;unbindBehindTheSuite env n pos) (fun j s₅=>Q f s₅) E₃ s₄) E₂ s₃) E s₂) E s₁) E s):
  wpAny g.M A (handleBy (.ref e) env (.ExceptHandler (some t) (some n) (b₀::suite) pos::rest)) Q E s:=by
 refine wpAny_handleBy_cons (codeAny_handlers_test (cQ (h _) (fun c s₁ h₁=>?_) fun j j y=>y)) nofun
 obtain ⟨rfl,X,⟨oe,he,hcls⟩,hk⟩:=h₁
 obtain ⟨bs,sn,sub,col,dd,k0,k1,k2,k3,k5,hC⟩:=HJ X
 obtain ⟨hh,g',d,tk,os⟩:=s₁
 exact wpAny_excMatches_sub_self hC he hcls (by decide+kernel) (codeAny_handlers_suite_as (cQ hk (fun j j h=>cQ h (fun j j h=>cQ (h _) (fun j j h=>h _) fun j j x=>x) fun j j x=>x) fun j j x=>x))
end
section
variable {c:aS} {φ φ₁:a9} {l:av} {σ σ₁:ai} {s s₁ s':Shared} {mg mb:Str->Option Value} {bn:List Str} {Q:PySem.Flow->Shared->Prop} {E:Value->Shared->Prop}
def Fw (c:aS) (φ:a9) (s:Shared) (r:RS) (Q:PySem.Flow->Shared->Prop) (E:Value->Shared->Prop):Prop:=
 bh c φ s r Q E/\∀ x l σ,r= .ok (.ret (.i x)) l σ->∀ φ' y s',aL c φ s φ' s'->c.base.StaysIn s'.heap->s'.heap.FunFrames c.base c.frames->aX c.g.D s'.heap x y->Q (.ret y) s'
def Dq (c:aS) (e:Stmt) (x:Sx):Prop:=∀ φ l σ s Q E,ay c φ l σ s.heap->Fw c φ s (x l σ) Q E->c.wp (exec e c.env) Q E s
def H9 (c:aS) (b:List Stmt) (x:Sx):Prop:=∀ φ l σ s Q E,ay c φ l σ s.heap->Fw c φ s (x l σ) Q E->c.wp (execs b c.env) Q E s
theorem k9.weak {b:List Stmt} {x:Sx} (h:k9 c b x):H9 c b x:=fun j j j j j j I f=>h _ _ _ _ _ _ I f.1
theorem fJ.weak {b:Stmt} {x:Sx} (h:fJ c b x):Dq c b x:=fun j j j j j j I f=>h _ _ _ _ _ _ I f.1
theorem Fw.step {r:RS} (x:aL c φ s φ₁ s₁) (f:Fw c φ s r Q E):Fw c φ₁ s₁ r Q E:=⟨bh.step x f.1,fun j j j e j j j st=>f.2 _ _ _ e _ _ _ (x.trans st)⟩
theorem ng {st:Stmt} {rest:List Stmt} {x b:Sx} (h1:Dq c st x) (h2:H9 c rest b):H9 c (st::rest) (sq x b):=fun φ l σ s Q E I f=>iS (h1 φ l σ s _ E I (by
 unfold sq at f
 cases q:x l σ with
 |bad=>rw [q] at f;exact f.1.elim
 |exc=>rw [q] at f;exact ⟨f.1,nofun⟩
 |ok g l₁ σ₁=>
  rw [q] at f
  cases g with
  |nxt=>
   refine ⟨?_,nofun⟩
   intro φ₁ y s₁ st I₁ r
   refine r.nxtE ?_
   exact h2 _ _ _ _ _ _ I₁ (Fw.step st f)
  |brk=>
   refine ⟨?_,nofun⟩
   intro φ₁ y s₁ st I₁ r
   refine r.brkE ?_
   exact f.1 φ₁ _ s₁ st I₁ trivial
  |ret v=>
   refine ⟨?_,fun x l σ e=>f.2 x l σ e⟩
   intro φ₁ y s₁ st I₁ r
   refine r.retE fun y r=>?_
   exact f.1 φ₁ _ s₁ st I₁ r))
theorem ldN {env:Env} {m:Str->Option Value} {g:G} {A:Around} {x:Str} {pos:Pos} {v:Value} {Q:Value->Shared->Prop} (hk:env.scope.kind= .function) (hl:env.kindOf x=some .local) (hn:s.heap.Ns env.locals m) (hv:m x=some v) (hd:(x==("__debug__" :Str))=false) (h:Q v s):wpAny g.M A (eval (.Name x pos) env) Q E s:=
 wpAny_Name (HG hk hl hn hv h) hd
theorem XJ {body:List Stmt} {b:Sx} {fx:Str} {np hp pos rp tp a1 a2 a3 b1 b2 b3:Pos} {k:Nat} {L:Addr} {outer:List Env} (T1:mi c L outer) (B:dw c.g.w c.base mg mb bn) (hD:c.g.D.bt=71) (Ev:v9 c.env) (kx:c.env.kindOf "BadText" =some .globalImplicit) (kf:c.env.kindOf fx=some .local) (hfd:(fx==("__debug__" :Str))=false)
  (hb:k9 c body b):
  Dq c (.Try body [.ExceptHandler (some (.Name (Str.ofString "BadText") np)) (some fx) [.Return (some (.Tuple [.Attribute (.Name fx a1) (Str.ofString "why") b1,.Attribute (.Name fx a2) (Str.ofString "row") b2,.Attribute (.Name fx a3) (Str.ofString "column") b3] k tp)) rp] hp] [] [] pos) (Kp b):=fun φ l σ s Q E I f=>by
 refine wpAny_Try_except (hb _ _ _ _ _ _ I ?_)
 unfold Kp at f
 cases q:b l σ with
 |bad=>rw [q] at f;exact f.1
 |ok g l₁ σ₁=>
  rw [q] at f
  cases g with
  |nxt=>
   intro φ₁ y s₁ st I₁ r
   refine r.nxtE ?_
   exact yh (f.1 _ _ _ st I₁ trivial)
  |brk=>
   intro φ₁ y s₁ st I₁ r
   refine r.brkE ?_
   exact f.1 _ _ _ st I₁ trivial
  |ret v=>
   intro φ₁ y s₁ st I₁ r
   refine r.retE fun y r=>?_
   exact f.1 _ _ _ st I₁ r
 |exc wh ro co=>
  rw [q] at f
  intro e φ₁ s₁ XA st
  refine Eb T1 I.st.stack (st.tn fun b m q=>eT q (I.there m)) XA fun h2 φ2 tr XA2 st2=>?_
  refine qc (s:={s₁ with heap:=h2}) XA2 tr (.inl rfl) fun h3 F3 XA3 st3=>?_
  have st5:=st.trans (st2.trans st3)
  refine T6 fun j=>Bq (v:= .ref 71) (s:={s₁ with heap:=h3}) B XA3.stay Ev kx (by kernel_rfl) (by decide) ⟨rfl,B.X.keeps XA3.stay,?_,?_⟩
  ·obtain ⟨dx,vs,O,_⟩:=XA3.obj
   obtain ⟨sl,x1⟩:=O.ob
   exact ⟨_,x1,aM Value.ref hD⟩
  have tr3:JW h3 e:=by
   obtain ⟨dx,vs,Tb,O,_,_,_,Y⟩:=F3
   obtain ⟨sl,x1⟩:=O.ob
   exact ⟨_,_,_,x1,rfl,Y.at1⟩
  refine qc (s:={s₁ with heap:=h3}) XA3 tr3 (.inl rfl) fun h4 F4 XA4 st4=>?_
  have st7:=st5.trans st4
  obtain ⟨dx,vs,O,dx1,dx2,dx3,_⟩:=XA4.obj
  obtain ⟨sl,x1⟩:=O.ob
  obtain ⟨t0,t1,t2,t3,at_⟩:=O.at_
  obtain ⟨mL,nL⟩:=XA4.nsx
  rw [hD] at x1
  refine wpAny_storeName_local (s:={s₁ with heap:=h4}) kf nL (fun h5 hn5 sb5 j=>?_) (by rw [Ev.kind];rfl)
  have z1:h5.get? e=some ⟨.ref 71,some dx,.fields vs,sl⟩:=(sb5.2 e fun q=>XA4.eo.2.touch (q▸ .head _)).trans x1
  have z2:=at_.keep (h':=h5) fun o q=>(sb5.2 dx fun q=>dx2.touch (q▸ .head _)).trans q
  have nb:∀ {b o},c.base.get? b=some o->b≠c.env.locals:=fun e q=>nomatch (I.st.newT _ (q▸ .head _)).symm.trans e
  have X5:(K c.g.w.params).In h5:=B.X.keeps fun b o q=>(sb5.2 b (nb q)).trans (XA4.stay b o q)
  have ga:∀ {Q:Value->Shared->Prop} {E:Value->Shared->Prop} {p q:Pos} {tk:Nat} {nm:String} {v:Value},findIn (K c.g.w.params) (.ref 71) (Str.ofString nm)=some none->dD [("why",.str (aD wh) t0),("at",.int (-1) t1),("row",.int ro t2),("column",.int co t3)] (Str.ofString nm)=some v->handedIn v=true->Q v {s₁ with heap:=h5,toks:=tk+1}->
    wpAny c.g.M (c.A.mark (some (.ref e))) (eval (.Attribute (.Name fx p) (Str.ofString nm) q) c.env) Q E {s₁ with heap:=h5,toks:=tk}:=fun n1 n2 n3 h=>by
   rw [arm_eval_Attribute,fX rfl]
   refine ax (ldN (s:={s₁ with heap:=h5,toks:=_}) Ev.kind kf hn5 (cq rfl) hfd (ax (lB (ax (og (get71 (s:={s₁ with heap:=h5,toks:=_}) X5 z1 z2 n1 n2 n3 ?_))))))
   exact ax (HZ (aY h))
  refine iS (wpAny_Return_some (wpAny_Tuple_spliced (H1 (ga (by kernel_rfl) rfl rfl (H1 (ga (by kernel_rfl) rfl rfl (H1 (ga (by kernel_rfl) rfl rfl (PyProof.Rows.spliced_none ⟨aI (by rw [wj];rfl),?_⟩)))))))))
  generalize hh6:h5.push {cls:= .type "tuple",data:= .seq [Value.str (aD wh) t0,Value.int ro t2,Value.int co t3].toArray}=h6
  have kp6:∀ b o,h5.get? b=some o->h6.get? b=some o:=fun b o q=>by rw [<-hh6];exact eB _ q
  have tup6:PyProof.Rows.IsTup h6 h5.objs.size #[.str (aD wh) t0,.int ro t2,.int co t3]:=by rw [<-hh6];exact gK h5
  have hn6:=hn5.at' (h':=h6) fun o=>kp6 _ o
  dsimp only
  intro _
  refine wpAny_nameGoes (s:={s₁ with heap:=h6,toks:=_}) kf hn6 (by rw [Ev.kind];rfl) fun h7 m7 hn7 sb7=>?_
  obtain ⟨o7,q7,n7⟩:=nA hn7
  have all:∀ b o,b≠c.env.locals->h4.get? b=some o->h7.get? b=some o:=fun b o n q=>(sb7.2 b n).trans (kp6 b o ((sb5.2 b n).trans q))
  have tch:∀ b o,h4.get? b=some o->∃ o',h7.get? b=some o'/\(AP o->AP o'):=fun b o q=>by
   by_cases z:b=c.env.locals
   ·exact ⟨o7,z▸q7,fun j=>n7.1⟩
   ·exact ⟨o,all b o z q,id⟩
  have neT:h5.objs.size≠c.env.locals:=fun q=>by
   obtain ⟨o,z,_⟩:=nA hn5
   rw [<-q,a0] at z;cases z
  refine f.2 _ _ _ rfl φ2 (.ref h5.objs.size) _ (st7.trans (.of (e8 _) (fun j=> .inl) (fun b o q j n=>all b o (fun z=>n (z▸ .head _)) q) fun b j o q=>tch b o q)) (fun b o q=>all b o (nb q) (XA4.stay b o q)) (z9 (fun b o j q n=>let ⟨o',a,b⟩:=tch b o q;⟨o',a,b n⟩) XA4.frm) ?_
  obtain ⟨ot,q1,q2,nn,q3⟩:=tup6
  exact .tup (vs:=[.str (aD wh) t0,.int ro t2,.int co t3]) ⟨ot,(sb7.2 _ neT).trans q1,q2,nn,q3⟩ (by show 3<=aJ;decide) (.cons (.str wh t0 O.ok) (.cons (.int ro t2) (.cons (.int co t3) .nil)))
end
end
end Mine
end
noncomputable section
open PySem PySem.W PySem.Calls
namespace Mine
section
theorem Yj {β:Type} {F:β->Prop} {k:T->β} {n:β} {vs:List V} (nb:F n->False) (f:F (SW k n vs)):∃ t,vs=[.i (.str t)]/\F (k t):=by
 cases vs with
 |nil=>exact (nb f).elim
 |cons v r=>cases r with
  |cons=>exact (nb f).elim
  |nil=>cases v with
   |i x=>cases x with
    |str t=>exact ⟨t,rfl,f⟩
    |_=>exact (nb f).elim
   |_=>exact (nb f).elim
theorem Xr {f:Nat->Nat} {vs:List V} {t:T} (e:vs.map (gH f)=[.i (.str t)]):vs=[.i (.str t)]:=by
 cases vs with
 |nil=>cases e
 |cons v r=>cases r with
  |cons=>exact nomatch (iH e).2
  |nil=>
   have h:gH f v= .i (.str t):=(iH e).1
   cases v with
   |i x=>exact aM (fun v=>[v]) h
   |ref n=>exact V.noConfusion h
   |sub k n=>exact V.noConfusion h
   |pr a n=>exact V.noConfusion h
section
variable {g:G} {base:Heap} {k:Nat} {a:Addr} {F F':Fn} {c c':aS} {φ φ'':a9} {l:av} {σ:ai} {s s₁ s':Shared} {fd:FuncData} {body:List Stmt} {ns:List Str} {ρ:List (Str×Nat)} {ps:List (Option I)} {b:Sx}
theorem bE.imp (h:bE g base k a F) (e:∀ vs σ,F' vs σ= .bad\/F' vs σ=F vs σ):bE g base k a F':=fun c φ l σ s vs ys Q E hg hb hk I r z=>h c φ l σ s vs ys Q E hg hb hk I r (by
 unfold et at z ⊢
 cases q:b6 σ (bz vs []) with
 |none=>rw [q] at z;exact z.bad
 |some cs=>
  rw [q] at z
  dsimp only at z ⊢
  rcases e (vs.map (gH (eP (bz vs [])))) cs with e |e
  ·rw [e] at z;exact z.bad
  ·rw [e] at z;exact z)
theorem Ji {kk:List V->ai->T->RE V} {vs:List V} {Q E:Value->Shared->Prop} (z:bJ c φ l s (et (fun vs σ=>SW (kk vs σ) .bad vs) vs σ) Q E):∃ t,vs=[.i (.str t)]/\bJ c φ l s (dX σ [] (kk [.i (.str t)] [] t)) Q E:=by
 have z0:=z
 unfold et at z
 cases q:b6 σ (bz vs []) with
 |none=>rw [q] at z;exact z.elim
 |some cs=>
  rw [q] at z
  obtain ⟨t,e,_⟩:=Yj (F:=fun r=>bJ c φ l s (dX σ (bz vs []) r) Q E) id z
  have e:=Xr e
  subst e
  exact ⟨t,rfl,z0⟩
theorem bE.pickF {p:T->Bool} (hF:bE g base k a F) (hG:bE g base k a F'):bE g base k a (Mine.pickF p F F'):=fun c φ l σ s vs ys Q E hg hb hk I r z=>by
 obtain ⟨t,rfl,z'⟩:=Ji (kk:=fun vs σ s=>match p s with |true=>F vs σ |false=>F' vs σ) z
 cases q:p t with
 |true=>rw [q] at z';exact hF c φ l σ s _ ys Q E hg hb hk I r z'
 |false=>rw [q] at z';exact hG c φ l σ s _ ys Q E hg hb hk I r z'
theorem Sub.out0 (S:Sub c c' s s₁) (I:ay c φ l σ s.heap) (St:aL c' (sel φ []) s₁ φ'' s'):ay c φ l σ s'.heap/\aL c φ s φ s':=
 ⟨I.to (S.chg I St) (fun j=>nofun) (e8 _) (I.sto.mono (fun b m o e=>((S.chg I St).k b o e nofun fun q=>(I.off b m).touch (q▸ .head _)).eq (I.off b m).fa) (S.tk I St)) I.nd fun j=> .inl,S.step I St (e8 _) fun j=> .inl⟩
theorem PC (X:gh base a fd body ns ρ) (hbind:uQ g.D base fd ns ps)
  (hb:∀ c' L outer,c'.g=g->c'.base=base->k<=c'.d->c'.env=callEnvC fd L a->c'.frames=c'.env::outer->c'.ρ=ρ->H9 c' body b):bE g base (k+1) a (Mine.pickF (fun j=>true) (fn ps b) (fn ps b)):=fun c φ l σ s vs ys Q E hg hbase hk I r z=>by
 subst hg hbase
 obtain ⟨t,rfl,z'⟩:=Ji (kk:=fun vs σ j=>match true with |true=>fn ps b vs σ |false=>fn ps b vs σ) z
 have z:bJ c φ l s (dX σ [] (fn ps b [.i (.str t)] [])) Q E:=z'
 unfold fn at z
 cases hf:jP ps [.i (.str t)] with
 |none=>rw [hf] at z;exact z.elim
 |some l0=>
  rw [hf] at z
  obtain ⟨vs2,ys2,rfl,hl,r2,bt⟩:=hbind [.i (.str t)] ys s (sel φ []) l0 I.stay (r.consE fun y ys r1 r=>r.nilE (.cons (.i r1.iE) .nil)) hf
  refine zA (ei X I.stay I.st.nolim (by have:=I.st.room;omega) bt (fun x hx=>(Cs hx).1) fun s₁ ic=>?_)
  obtain ⟨S,I1⟩:=I.enter (rs:=[]) (cs:=[]) X rfl (ub (bf k) hk) rfl .nil hl r2 ic
  have T1:mi (sub c fd s.heap.objs.size a ρ) s.heap.objs.size c.frames:=⟨rfl,rfl⟩
  refine hb (sub c fd s.heap.objs.size a ρ) _ c.frames rfl rfl (Nat.le_sub_one_of_lt hk) rfl rfl rfl _ _ [] s₁ _ _ I1 ?_
  have z:bJ c φ l s (dX σ [] (b (vs2.map some) []).fin) Q E:=z
  generalize b (vs2.map some) []=q at z ⊢
  refine ⟨?_,fun x l' σ' e φ' y s' st j j r=>?_⟩
  ·cases q with
   |bad=>exact z.elim
   |ok fl l2 σ2=>
    intro φ2 y s' st I2 fr
    cases fl with
    |nxt=>exact fr.nxtE (zQ S I .nil rfl st I2 (.i .none) z)
    |brk=>exact z.elim
    |ret v=>exact fr.retE fun y r=>zQ S I .nil rfl st I2 r z
   |exc wh ro co=>
    intro e φ2 s' XA st
    unfold leaving
    refine ax (Eb (c:=sub c fd s.heap.objs.size a ρ) T1 I1.st.stack (st.tn fun b m q=>eT q (I1.there m)) XA fun h2 φ3 tr XA3 st3=>?_)
    exact qc (c:=sub c fd s.heap.objs.size a ρ) (s:={s' with heap:=h2}) XA3 tr (.inl rfl) fun h4 F XA4 st4=>
     have ⟨a1,a2⟩:=nh.out S I (st.trans (st3.trans st4)) XA4 F
     z _ _ _ a1 a2
  ·subst e
   obtain ⟨J,st0⟩:=S.out0 I st
   exact z φ y s' st0 (show ay c φ l (cT σ [] σ') s'.heap by rw [show cT σ [] σ'=σ by cases σ'<;>rfl];exact J) (.i r)
end
end
end Mine
end
noncomputable section
open PySem PySem.W PySem.Calls PyProof.Rows
namespace Mine
section
section
variable {prog:Program} {w:World} {c:aS} {A:Around} {E:Value->Shared->Prop} {s:Shared}
theorem SP {a:Addr} {vs:List Value} {n:Nat} {P:PySem.Fin->Shared->Prop} (ho:s.heap.get? a=some (seqObj "list" vs.toArray n)) (h2:vs.length< 2)
  (h:P (.done (.ret .none)) {s with heap:=sortedHeap s.heap a vs vs.toArray}):wpAny (model prog w) A (Builtin.«list.sort» ⟨[.ref a],[]⟩) P E s:=by
 rw [list_sort_plain]
 have ha:a< s.heap.objs.size:=FR ho
 have big:vs.length<=sizeLine:=by rw [wj];omega
 refine ax (listItems_at ho rfl ?_)
 refine ax (listUpdate_at ho rfl ?_ (by rw [e7];exact big) (dI _))
 obtain ⟨e1,ho1⟩:∃ e1,(s.heap.update a (Obj.mapSeq fun j=>#[])).get? a=some (seqObj "list" #[] e1):=⟨_,get?_update_seq ho (fun j=>#[])⟩
 refine ax (seqEpoch_at ho1 rfl ?_)
 refine ax (wpAny_newTuple ?_ big)
 refine ax (wpAny_newList ?_ (dI _))
 refine og ?_
 have ho6:(((s.heap.update a (Obj.mapSeq fun j=>#[])).push (seqObj "tuple" vs.toArray 0)).push (seqObj "list" #[] 0)).get? a=some (seqObj "list" #[] e1):=by
  rw [Heap.get?_push_ne _ _ _ (by rw [size_push',Heap.size_update];exact Nat.ne_of_lt (Nat.lt_succ_of_lt ha)),Heap.get?_push_ne _ _ _ (by rw [Heap.size_update];exact Nat.ne_of_lt ha)]
  exact ho1
 show wpAny (model prog w) A _ P E {s with heap:=((s.heap.update a (Obj.mapSeq fun j=>#[])).push (seqObj "tuple" vs.toArray 0)).push (seqObj "list" #[] 0)}
 dsimp only
 have hs2:vs.toArray.size< 2:=h2
 have hout:(arrOf (SortSt.mk' general' (vs.toArray.zip vs.toArray) #[] 7 none)).map (·.2)=vs.toArray:=by
  show Array.map _ (vs.toArray.zip vs.toArray)=_
  apply Array.toList_inj.mp
  rw [Array.toList_map,Array.toList_zip]
  exact List.map_snd_zip (cR _)
 rw [cq hs2,cq hs2]
 refine ax (aY ?_)
 rw [StateT.run_pure]
 refine ax (aY ?_)
 dsimp only
 rw [hout]
 refine ax (seqEpoch_at ho6 rfl ?_)
 refine ax (listUpdate_at ho6 rfl ?_ (dI _) (by rw [e7];exact Nat.le_succ_of_le big))
 simp only [bne_self_eq_false,Bool.false_eq_true,if_false]
 exact aY h
theorem NV {b:Addr} {vs:List Value} {Q:Value->Shared->Prop} (hl:s.heap.IsList b vs.toArray) (h2:vs.length< 2)
  (h:Q (.ref (s.heap.objs.size+1)) {s with heap:=sortedAll s.heap vs vs.toArray}):wpAny (model prog w) A (PySem.call (.builtin "sorted") [.ref b]) Q E s:=by
 have big:vs.length<=sizeLine:=by rw [wj];omega
 refine Calls.call_function_entry kind_sorted plain_sorted entry_sorted (args_sorted1 _) ?_
 unfold Builtin.«sorted»
 refine ax (m:=checkCount "sorted" 1 1 _) (aY ?_)
 refine ax (collect_list hl ?_ big)
 refine ax (wpAny_newList ?_ big)
 have hsz:((s.heap.push (seqObj "list" #[] 0)).update s.heap.objs.size (Obj.mapSeq (·++vs.toArray))).objs.size=s.heap.objs.size+1:=by
  rw [Heap.size_update,size_push']
 have hoL:(((s.heap.push (seqObj "list" #[] 0)).update s.heap.objs.size (Obj.mapSeq (·++vs.toArray))).push (seqObj "list" vs.toArray 0)).get? (s.heap.objs.size+1)=some (seqObj "list" vs.toArray 0):=by
  rw [<-hsz];exact fB _ rfl
 show wpAny _ _ _ _ _ {s with heap:=((s.heap.push (seqObj "list" #[] 0)).update s.heap.objs.size (Obj.mapSeq (·++vs.toArray))).push (seqObj "list" vs.toArray 0)}
 rw [hsz]
 refine ax (og (B8 slot_list_sort ⟨_,hoL,rfl⟩ entry_list_sort (SP hoL h2 ⟨_,rfl,?_⟩) (args_list_sort _)))
 exact aY ⟨_,rfl,h⟩
theorem Q7:x7 c (.builtin "sorted") EO:=fun φ l σ s v y Q E I r f=>f.list I r (fun m xs a A f=>f.gd fun q f=>by
 obtain ⟨vs,kk,ho,rr⟩:=A.ob
 refine NV ⟨_,ho,rfl,kk,rfl⟩ (by rw [<-rr.length];exact Nat.lt_succ_of_le (aI q)) ?_
 obtain ⟨e2,he2⟩:=sortedAll_at s.heap vs vs.toArray
 exact f.newList (t:=s.toks) I (.all fun b o z=>sortedAll_old z) (BE (iD _)) he2 rr A.len) Fin.bad
end
end
end Mine
end
noncomputable section
open PySem PySem.W PySem.Calls
open AutoSeq1 (wpAny_loadPart')
namespace Mine
section
theorem KO {M:Model} {A:Around} {E:Value->Shared->Prop} {s:Shared} {a:Addr} {Q:Option Obj->Shared->Prop} (h:Q (s.heap.get? a) s):wpAny M A (loadIfAlive a) Q E s:=fun j j j=>h
set_option maxHeartbeats 1000000 in
theorem SB {M:Model} {A:Around} {E:Value->Shared->Prop} {s:Shared} {v:Bool} {Q:Bool->Shared->Prop} (h:∀ b,Q b s):wpAny M A (pure v) Q E s:=aY (h v)
theorem vZ (l:Addr) (items:Array Value) (n:Nat) (dct:Option Addr) (sl:Array (Option Value)):
  Meets (Builtin.«enumerate.__new__» ⟨[.type "enumerate",.ref l],[]⟩) (fun j R s=>s.heap.get? l=some {cls:= .type "tuple",dict:=dct,data:= .seq items n,slots:=sl}/\
   R (.ok (.ret (.ref (s.heap.push {cls:= .type "tuple_iterator",data:= .fields #[.ref l,.int 0 0]}).objs.size)))
    {s with heap:=(s.heap.push {cls:= .type "tuple_iterator",data:= .fields #[.ref l,.int 0 0]}).push {cls:= .type "enumerate",data:= .fields #[.none,.bool false,.ref s.heap.objs.size,rawInt 0,.none,.none]}}):=
 .of_wp fun prog w A R s h=>by
  obtain ⟨hp,g,d,tk,os⟩:=s;obtain ⟨hl,h⟩:=h
  have hsub:=sub_enumerate
  have hL:Heap.IsTuple (Shared.heap ⟨hp,g,d,tk,os⟩) l items:=⟨_,hl,rfl,n,rfl⟩
  wp_walk using wpAny_loadPart' hl
  refine wpAny_stack_any fun st=>SB fun b=>?_
  cases b
  ·wp_walk using wpAny_loadPart' hl,wpAny_pyIter_tuple hL
   exact ⟨_,rfl,h⟩
  ·wp_walk using wpAny_loadPart' hl,wpAny_pyIter_tuple hL
   exact ⟨_,rfl,h⟩
section
variable {prog:Program} {w:World} {A:Around} {E:Value->Shared->Prop} {s:Shared}
theorem Dn {it t:Addr} {i:Nat} {items:Array Value} {x:Value} {Q:Value->Shared->Prop} (hit:s.heap.IsTupleIter it t i) (ht:s.heap.IsTuple t items) (hx:items[i]?=some x)
  (hQ:∀ h',h'.IsTupleIter it t (i+1)->Heap.SameBut it s.heap h'->Q x {s with heap:=h'}):wpAny (model prog w) A (Builtin.SmallTypes.nextOf (.ref it)) Q E s:=by
 obtain ⟨o,ho,hc,hd⟩:=id hit
 obtain ⟨ol,hol,_,nl,hdl⟩:=ht
 unfold Builtin.SmallTypes.nextOf
 refine ax (Ef (name:=Str.ofString "__next__") hit.typeIs H6
  (B8 H6 hit.typeIs F.entry_tuple_iterator_next ?_ (F.args_tuple_iterator_next_1 _)))
 show wpAny _ _ (field (.ref it) 0>>=_) _ _ s
 refine ax (f8 ho hd (x:= .ref t) rfl ?_)
 show wpAny _ _ (if (Value.ref t==Value.none)=true then _ else _) _ _ s
 rw [b7 (show ¬ ((Value.ref t==Value.none)=true) from Bool.false_ne_true)]
 show wpAny _ _ (field (.ref it) 1>>=_) _ _ s
 refine ax (f8 ho hd (x:= .int i 0) rfl ?_)
 show wpAny _ _ (seqItems? (.ref t)>>=_) _ _ s
 refine ax (wpAny_seqItems hol hdl ?_)
 simp only [Int.toNat_natCast,hx]
 refine ax (FS ho hd (by simp) (aY ⟨x,rfl,aY (hQ _ ?_ (Heap.SameBut.update ..))⟩))
 exact ⟨_,vq _ ho (Aa (Cb hd _)),(Obj.cls_mapFields ..).trans hc,by
  rw [Cb hd];simp [rawInt]⟩
theorem Gq {it t:Addr} {i:Nat} {items:Array Value} {Q:Value->Shared->Prop} (hh:A.handled=none) (hit:s.heap.IsTupleIter it t i) (ht:s.heap.IsTuple t items) (hx:items[i]?=none)
  (hE:∀ h' e,Heap.ExtBut it s.heap h'->(∃ o,h'.get? e=some o/\o.cls= .type "StopIteration")->E (.ref e) {s with heap:=h'}):wpAny (model prog w) A (Builtin.SmallTypes.nextOf (.ref it)) Q E s:=by
 obtain ⟨o,ho,hc,hd⟩:=id hit
 obtain ⟨ol,hol,_,nl,hdl⟩:=ht
 unfold Builtin.SmallTypes.nextOf
 refine ax (Ef (name:=Str.ofString "__next__") hit.typeIs H6
  (B8 H6 hit.typeIs F.entry_tuple_iterator_next ?_ (F.args_tuple_iterator_next_1 _)))
 show wpAny _ _ (field (.ref it) 0>>=_) _ _ s
 refine ax (f8 ho hd (x:= .ref t) rfl ?_)
 show wpAny _ _ (if (Value.ref t==Value.none)=true then _ else _) _ _ s
 rw [b7 (show ¬ ((Value.ref t==Value.none)=true) from Bool.false_ne_true)]
 show wpAny _ _ (field (.ref it) 1>>=_) _ _ s
 refine ax (f8 ho hd (x:= .int i 0) rfl ?_)
 show wpAny _ _ (seqItems? (.ref t)>>=_) _ _ s
 refine ax (wpAny_seqItems hol hdl ?_)
 simp only [Int.toNat_natCast,hx]
 refine ax (wpAny_rule (ax (FS ho hd (by simp) ?_)))
 show wpAny _ _ (newExc (.type "StopIteration") []>>=_) _ _ _
 refine ax ?_
 simp only [newExc,newTuple]
 refine ax (zn ?_ (by size_fits))
 refine ax (m:=firstArgMember _ _) (wpAny_of_eq (a:=Value.none) (by first |rfl |(simp only [firstArgMember];rfl)) ?_)
 refine zn ?_ (by size_fits)
 simp only [raiseNew]
 refine ax (wpAny_handled ?_)
 first |rw [show A.in1.handled=none from hh] |rw [hh]
 refine ax (aY (wpAny_throw ?_))
 exact hE _ _ (((Heap.SameBut.update ..).extBut.push _).push _) ⟨_,fB _ rfl,rfl⟩
noncomputable abbrev kB (it:Addr) (i:Int) (f0:Value) (b:Bool) (old:Value):Obj:={cls:= .type "enumerate",dict:=none,data:= .fields #[f0,.bool b,.ref it,rawInt i,.none,old],slots:=#[]}
theorem Yb {e it t:Addr} {i:Nat} {items:Array Value} {x old f0:Value} {b:Bool} {Q:Value->Shared->Prop} (he:s.heap.get? e=some (kB it i f0 b old)) (hf:f0= .none\/∃ a:Nat,f0=rawInt a) (hit:s.heap.IsTupleIter it t i) (ht:s.heap.IsTuple t items) (hx:items[i]?=some x) (hne:e≠it)
  (hQ:∀ h' f0' b' old' T,(f0'= .none\/∃ a:Nat,f0'=rawInt a)->h'.get? e=some (kB it ((i:Int)+1) f0' b' old')->h'.IsTupleIter it t (i+1)->h'.get? T=some {cls:= .type "tuple",data:= .seq #[.int i s.toks,x]}->
   (∀ b o,b≠e->b≠it->s.heap.get? b=some o->h'.get? b=some o)->Q (.ref T) {s with heap:=h',toks:=s.toks+1}):
  wpAny (model prog w) A (Builtin.«enumerate.__next__» ⟨[.ref e],[]⟩) (fun fin s'=>∃ v,fin= .done (.ret v)/\Q v s') E s:=by
 obtain ⟨hp,g,d,tk,os⟩:=s
 show wpAny _ _ (field (.ref e) 2>>=_) _ _ _
 refine ax (f8 he rfl (x:= .ref it) rfl ?_)
 refine ax (Dn hit ht hx fun h₁ hit₁ hs₁=>?_)
 replace hs₁:Heap.SameBut it hp h₁:=hs₁
 have he₁:h₁.get? e=some (kB it i f0 b old):=(hs₁.2 e hne).trans he
 show wpAny _ _ (field (.ref e) 3>>=_) _ _ ⟨h₁,g,d,tk,os⟩
 refine ax (f8 he₁ rfl (x:=rawInt i) rfl ?_)
 show wpAny _ _ (field (.ref e) 4>>=_) _ _ ⟨h₁,g,d,tk,os⟩
 refine ax (f8 he₁ rfl (x:= .none) rfl ?_)
 show wpAny _ _ (mkInt i>>=_) _ _ ⟨h₁,g,d,tk,os⟩
 refine ax (wpAny_mkInt ?_)
 show wpAny _ _ (setField (.ref e) 3 (rawInt ((i:Int)+1))>>=_) _ _ ⟨h₁,g,d,tk+1,os⟩
 refine ax (Cm he₁ (by simp) fun h₂ he₂ hs₂=>?_)
 replace hs₂:Heap.SameBut e h₁ h₂:=hs₂
 replace he₂:h₂.get? e=some (kB it ((i:Int)+1) f0 b old):=he₂
 show wpAny _ _ (setField (.ref e) 4 .none>>=_) _ _ ⟨h₂,g,d,tk+1,os⟩
 refine ax (Cm he₂ (by simp) fun h₃ he₃ hs₃=>?_)
 replace hs₃:Heap.SameBut e h₂ h₃:=hs₃
 replace he₃:h₃.get? e=some (kB it ((i:Int)+1) f0 b old):=he₃
 show wpAny _ _ (newTuple [.int i tk,x]>>=_) _ _ ⟨h₃,g,d,tk+1,os⟩
 refine ax (wpAny_newTuple ?_)
 have he₄:(h₃.push {cls:= .type "tuple",data:= .seq #[.int i tk,x]}).get? e=some (kB it ((i:Int)+1) f0 b old):=eB _ he₃
 generalize hh₄:h₃.push {cls:= .type "tuple",data:= .seq #[.int i tk,x]}=h₄ at he₄
 have hsz:h₃.objs.size=hp.objs.size:=by rw [hs₃.1,hs₂.1,hs₁.1]
 have hel:e< hp.objs.size:=FR he
 have ht₄:h₄.get? hp.objs.size=some {cls:= .type "tuple",data:= .seq #[.int i tk,x]}:=by rw [<-hh₄,<-hsz];exact fB _ rfl
 have hk₄:∀ b o,b≠e->b≠it->hp.get? b=some o->h₄.get? b=some o:=fun b o hbe hbi hb=>by
  rw [<-hh₄];exact eB _ (hs₃.extBut b o hbe (hs₂.extBut b o hbe (hs₁.extBut b o hbi hb)))
 have hit₄:h₄.IsTupleIter it t (i+1):=by
  rw [<-hh₄]
  obtain ⟨o,ho,r⟩:=hit₁
  exact ⟨o,eB _ (hs₃.extBut _ _ (gi hne) (hs₂.extBut _ _ (gi hne) ho)),r⟩
 show wpAny _ _ (Builtin.SmallTypes.ownedTupleIsFree (.ref e)>>=_) _ _ ⟨h₄,g,d,tk+1,os⟩
 rw [hsz]
 clear hh₄ he₃ hs₃ he₂ hs₂ he₁ hs₁ hit₁ hsz h₃ h₂ h₁
 have again:∀ {Z:PySem.Fin->Shared->Prop},(∀ h',(∃ a:Nat,h'.get? e=some (kB it ((i:Int)+1) (rawInt a) false x))->h'.IsTupleIter it t (i+1)->(∀ b o,b≠e->h₄.get? b=some o->h'.get? b=some o)->Z (.done (.ret (.ref hp.objs.size))) ⟨h',g,d,tk+1,os⟩)->
   wpAny (model prog w) A (do
    rule "enumerate.__next__.owned-tuple-again"
    let old <-field (.ref e) 5
    setField (.ref e) 5 x
    Builtin.SmallTypes.ownedTupleHandOut (.ref e) (.ref hp.objs.size)
    letGo [old] [.ref hp.objs.size]
    ret (.ref hp.objs.size)) Z E ⟨h₄,g,d,tk+1,os⟩:=fun {Z} k=>by
  refine ax (wpAny_rule ?_)
  refine ax (f8 he₄ rfl (x:=old) rfl ?_)
  refine ax (Cm he₄ (by simp) fun h₅ he₅ hs₅=>?_)
  replace hs₅:Heap.SameBut e h₄ h₅:=hs₅
  replace he₅:h₅.get? e=some (kB it ((i:Int)+1) f0 b x):=he₅
  refine ax ?_
  unfold Builtin.SmallTypes.ownedTupleHandOut
  refine ax (Cm he₅ (by simp) fun h₆ he₆ hs₆=>?_)
  replace hs₆:Heap.SameBut e h₅ h₆:=hs₆
  replace he₆:h₆.get? e=some (kB it ((i:Int)+1) (rawInt hp.objs.size) b x):=he₆
  refine Cm he₆ (by simp) fun h₇ he₇ hs₇=>?_
  replace hs₇:Heap.SameBut e h₆ h₇:=hs₇
  replace he₇:h₇.get? e=some (kB it ((i:Int)+1) (rawInt hp.objs.size) false x):=he₇
  have kk:∀ b o,b≠e->h₄.get? b=some o->h₇.get? b=some o:=fun b o hb z=>hs₇.extBut b o hb (hs₆.extBut b o hb (hs₅.extBut b o hb z))
  obtain ⟨o,ho,r⟩:=hit₄
  exact ax (wpAny_letGo (aY (k h₇ ⟨_,he₇⟩ ⟨o,kk _ _ (gi hne) ho,r⟩ kk)))
 have fin:∀ h' f0' b' old',(f0'= .none\/∃ a:Nat,f0'=rawInt a)->h'.get? e=some (kB it ((i:Int)+1) f0' b' old')->h'.IsTupleIter it t (i+1)->(∀ b o,b≠e->h₄.get? b=some o->h'.get? b=some o)->
   ∃ v,PySem.Fin.done (.ret (.ref hp.objs.size))= .done (.ret v)/\Q v ⟨h',g,d,tk+1,os⟩:=fun h' f0' b' old' a1 a2 a3 a4=>
  ⟨_,rfl,hQ h' f0' b' old' _ a1 a2 a3 (a4 _ _ (Nat.ne_of_gt hel) ht₄) fun b o h1 h2 h3=>a4 _ _ h1 (hk₄ b o h1 h2 h3)⟩
 have fin':∀ h',(∃ a:Nat,h'.get? e=some (kB it ((i:Int)+1) (rawInt a) false x))->h'.IsTupleIter it t (i+1)->(∀ b o,b≠e->h₄.get? b=some o->h'.get? b=some o)->
   ∃ v,PySem.Fin.done (.ret (.ref hp.objs.size))= .done (.ret v)/\Q v ⟨h',g,d,tk+1,os⟩:=fun h' ⟨a,ha⟩ a3 a4=>fin h' _ _ _ (.inr ⟨a,rfl⟩) ha a3 a4
 refine ax ?_
 unfold Builtin.SmallTypes.ownedTupleIsFree
 refine ax (f8 he₄ rfl (x:=f0) rfl ?_)
 rcases hf with rfl |⟨a,rfl⟩
 ·refine aY ?_
  rw [cq rfl]
  exact again (Z:=fun fin s'=>∃ v,fin= .done (.ret v)/\Q v s') fin'
 ·refine ax (KO ?_)
  cases (h₄.get? (Int.toNat (a:Int))).isNone
  ·refine ax (f8 he₄ rfl (x:= .bool b) rfl ?_)
   by_cases hb:(Value.bool b != .bool true)=true
   ·rw [cq hb]
    refine ax (Cm he₄ (by simp) fun h₅ he₅ hs₅=>?_)
    obtain ⟨o,ho,r⟩:=hit₄
    exact aY (aY (fin h₅ (rawInt a) true old (.inr ⟨a,rfl⟩) he₅ ⟨o,hs₅.extBut _ _ (gi hne) ho,r⟩ fun b o h1 h2=>hs₅.extBut b o h1 h2))
   ·rw [b7 hb]
    exact aY (aY (fin h₄ (rawInt a) b old (.inr ⟨a,rfl⟩) he₄ hit₄ fun j j j z=>z))
  ·refine aY ?_
   rw [cq rfl]
   exact again (Z:=fun fin s'=>∃ v,fin= .done (.ret v)/\Q v s') fin'
theorem YI {e it t:Addr} {i:Nat} {items:Array Value} {x old f0:Value} {b:Bool} {Q:Option Value->Shared->Prop} (he:s.heap.get? e=some (kB it i f0 b old)) (hf:f0= .none\/∃ a:Nat,f0=rawInt a) (hit:s.heap.IsTupleIter it t i) (ht:s.heap.IsTuple t items) (hx:items[i]?=some x) (hne:e≠it)
  (hQ:∀ h' f0' b' old' T,(f0'= .none\/∃ a:Nat,f0'=rawInt a)->h'.get? e=some (kB it ((i:Int)+1) f0' b' old')->h'.IsTupleIter it t (i+1)->h'.get? T=some {cls:= .type "tuple",data:= .seq #[.int i s.toks,x]}->
   (∀ b o,b≠e->b≠it->s.heap.get? b=some o->h'.get? b=some o)->Q (some (.ref T)) {s with heap:=h',toks:=s.toks+1}):wpAny (model prog w) A (pyNext (.ref e)) Q E s:=by
 have hT:s.TypeIs (.ref e) "enumerate" :=⟨_,he,rfl⟩
 unfold pyNext
 exact ax (wpAny_attempt (Ef (name:=Str.ofString "__next__") hT HX
  (B8 HX hT F.entry_enumerate_next
   (Yb he hf hit ht hx hne fun h' a b c T h1 h2 h3 h4 h5=>aY (hQ h' a b c T h1 h2 h3 h4 h5)) (F.args_enumerate_next_1 _))))
theorem en_end {e it t:Addr} {i:Nat} {items:Array Value} {old f0:Value} {b:Bool} {Q:Option Value->Shared->Prop} (hh:A.handled=none) (he:s.heap.get? e=some (kB it i f0 b old)) (hit:s.heap.IsTupleIter it t i) (ht:s.heap.IsTuple t items) (hx:items[i]?=none)
  (hQ:∀ h',Heap.ExtBut it s.heap h'->Q none {s with heap:=h'}):wpAny (model prog w) A (pyNext (.ref e)) Q E s:=by
 have hT:s.TypeIs (.ref e) "enumerate" :=⟨_,he,rfl⟩
 unfold pyNext
 refine ax (wpAny_attempt (Ef (name:=Str.ofString "__next__") hT HX
  (B8 HX hT F.entry_enumerate_next ?_ (F.args_enumerate_next_1 _))))
 show wpAny _ _ (field (.ref e) 2>>=_) _ _ _
 refine ax (f8 he rfl (x:= .ref it) rfl ?_)
 refine ax (Gq hh hit ht hx fun h' x he' hx'=>?_)
 obtain ⟨o,ho,hc⟩:=hx'
 refine ax (wpAny_isInstance (T:= "StopIteration") (b:=true) ⟨o,ho,hc⟩ isSubtype_stop ?_)
 exact aY (hQ _ he')
theorem en_go {e it:Addr} {i:Int} {f0 old v:Value} {b:Bool} {tg:PySem.Expr} {Q:Unit->Shared->Prop} (he:s.heap.get? e=some (kB it i f0 b old)) (hf:f0= .none\/∃ a:Nat,f0=rawInt a)
  (hQ:∀ h' f0',(f0'= .none\/∃ a:Nat,f0'=rawInt a)->h'.get? e=some (kB it i f0' b old)->(∀ b o,b≠e->s.heap.get? b=some o->h'.get? b=some o)->Q () {s with heap:=h'}):wpAny (model prog w) A (letOwnedTupleGo tg (.ref e) v) Q E s:=by
 have q0:Q () s:=hQ s.heap f0 hf he fun j j j z=>z
 unfold letOwnedTupleGo
 have key:∀ a,wpAny (model prog w) A (do
    let o <-load e
    match o.cls,o.data with
    | .type n,.fields vs=>
     if ky.contains n && vs[0]?==some (rawInt a) then
      rule "for.unpacks-the-owned-tuple"
      updateField e 0 .none
    |_,_=>pure ():Sem Unit) Q E s:=fun a=>by
  refine ax (wpAny_load he ?_)
  dsimp only
  split
  ·refine ax (wpAny_rule ?_)
   show wpAny _ A (setField (.ref e) 0 .none) Q E s
   exact Cm he (by simp) fun h' he' hs'=>hQ h' .none (.inl rfl) he' fun b o h1 h2=>hs'.extBut b o h1 h2
  ·exact aY q0
 cases tg<;>first |exact aY q0 |(cases v<;>first |exact aY q0 |exact key _)
theorem OO {xs:List Mine.I} {n i:Nat} {y:Mine.I} (h:(xI xs n)[i]?=some y):∃ x,xs[i]?=some x/\y= .tup [.int ((n+i:Nat):Int),x]:=by
 induction xs generalizing n i with
 |nil=>cases h
 |cons x r ih=>cases i with
  |zero=>cases h;exact ⟨x,rfl,rfl⟩
  |succ i=>
   obtain ⟨x,h1,h2⟩:=ih (n:=n+1) (i:=i) h
   exact ⟨x,h1,by rw [h2,mv,lQ 1]⟩
theorem No {xs:List Mine.I} {n:Nat}:(xI xs n).length=xs.length:=by
 induction xs generalizing n with
 |nil=>rfl
 |cons x r ih=>exact aM Nat.succ ih
theorem MT {e it:Addr} {i:Int} {f0 old:Value} {b:Bool} {Q:Value->Shared->Prop} (he:s.heap.get? e=some (kB it i f0 b old)) (hQ:Q (.ref e) s):wpAny (model prog w) A (pyIter (.ref e)) Q E s:=by
 have hT:s.TypeIs (.ref e) "enumerate" :=⟨_,he,rfl⟩
 refine wpAny_pyIter_slot hT F.slot_enumerate_iter (B8 F.slot_enumerate_iter hT F.entry_enumerate_iter ?_ (F.args_enumerate_iter_1 _))
 exact aY ⟨_,rfl, "enumerate",_,hT,F.slot_enumerate_next.lookup,hQ⟩
theorem zw {a:Addr} {items:Array Value} {Q:Value->Shared->Prop} (ht:PyProof.Rows.IsTup s.heap a items)
  (h:∀ h',h'.get? (s.heap.objs.size+1)=some (kB s.heap.objs.size 0 .none false .none)->h'.IsTupleIter s.heap.objs.size a 0->(∀ b o,s.heap.get? b=some o->h'.get? b=some o)->Q (.ref (s.heap.objs.size+1)) {s with heap:=h'}):
  wpAny (model prog w) A (PySem.call (.type "enumerate") [.ref a]) Q E s:=by
 obtain ⟨⟨c,dct,dt,sl⟩,hl,hc,n,hd⟩:=ht
 replace hc:c= .type "tuple" :=hc
 replace hd:dt= .seq items n:=hd
 subst hc hd
 refine callType_new F.called_enumerate (by decide) (F.typeCall_enumerate_1 _) (F.newCall_enumerate_1 _) (fun obj=>F.args_object_init_2 obj _) F.entry_enumerate_new
  (vZ a items n dct sl) ⟨hl,?_⟩
 have hz:(s.heap.push {cls:= .type "tuple_iterator",data:= .fields #[.ref a,.int 0 0]}).objs.size=s.heap.objs.size+1:=Heap.size_push ..
 show _/\_
 rw [hz]
 have he:IsEnum ((s.heap.push {cls:= .type "tuple_iterator",data:= .fields #[.ref a,.int 0 0]}).push
   {cls:= .type "enumerate",data:= .fields #[.none,.bool false,.ref s.heap.objs.size,rawInt 0,.none,.none]}) (s.heap.objs.size+1) s.heap.objs.size 0 .none:=by
  have:=fB (s.heap.push {cls:= .type "tuple_iterator",data:= .fields #[.ref a,.int 0 0]})
   (o:={cls:= .type "enumerate",data:= .fields #[.none,.bool false,.ref s.heap.objs.size,rawInt 0,.none,.none]}) rfl
  rw [hz] at this;exact this
 exact ⟨⟨_,he,rfl⟩,h _ he ⟨_,eB _ (fB _ rfl),rfl,rfl⟩ fun b o x=>eB _ (eB _ x)⟩
end
def aaM (e it a:Addr) (vs:List Value) (hb:Heap) (i:Nat) (h:Heap):Prop:=(∃ f0 b old,(f0=Value.none\/∃ a:Nat,f0=rawInt a)/\h.get? e=some (kB it i f0 b old))/\h.IsTupleIter it a i/\PyProof.Rows.IsTup h a vs.toArray/\TK hb h
section
variable {c:aS} {φ:a9} {l:av} {σ:ai} {s:Shared} {e it a:Addr} {vs:List Value} {hb h h':Heap} {i:Nat}
theorem in2 {b:Addr} {P:Addr->Prop} (p:P e) (q:P it) (m:b∈[e,it]):P b:=(fy.mp m).elim (fun z=>z▸p) fun m=>cY.mp m▸q
theorem BF (st:aaM e it a vs hb i h):∀ b∈[e,it],∃ o,h.get? b=some o/\NT o:=by
 obtain ⟨⟨_,_,_,_,ho⟩,⟨o,hi,hc,_⟩,_⟩:=st
 exact fun b m=>in2 (P:=fun b=>∃ o,h.get? b=some o/\NT o) ⟨_,ho,.inr nofun⟩ ⟨o,hi,.inl fun q=>CY.1 (hc.symm.trans q)⟩ m
theorem Rx {xs:List Mine.I} {g:G} {A:Around} (hh:A.handled=none) (ne:e≠it) (r:IReps g.D hb xs vs):Mf g A e [e,it] (Md (.xs (xI xs 0))) (aaM e it a vs hb) (fun j=>True) where
 frame st k tk:=by
  obtain ⟨⟨f0,b,old,hf,ho⟩,⟨o,hi,hc⟩,ht,z⟩:=st
  exact ⟨⟨f0,b,old,hf,k _ (.head _) _ ho⟩,⟨o,k _ (.tail _ (.head _)) _ hi,hc⟩,tk _ _ ht,fun j j q=>tk _ _ (z _ _ q)⟩
 there st m:=BF st _ m
 up _ _:=trivial
 item {i x φ σ s' Q E} _ _ z st hQ:=by
  obtain ⟨x0,hx0,rfl⟩:=OO (wt z)
  obtain ⟨v,hv,rv⟩:=r.get hx0
  have th:=BF st
  obtain ⟨⟨f0,b,old,hf,ho⟩,hi,ht,zt⟩:=st
  refine YI (items:=vs.toArray) ho hf hi ht (x:=v) (vp.trans hv) ne fun h' f0' b' old' T a1 a2 a3 a4 a5=>?_
  have k:∀ b o,b∉[e,it]->s'.heap.get? b=some o->h'.get? b=some o:=fun b o m q=>a5 b o (fun z=>m (z▸ .head _)) (fun z=>m (z▸ .tail _ (.head _))) q
  have tk:=lz th k
  refine hQ (.ref T) h' _ (.tup (vs:=[.int i s'.toks,v]) ⟨_,a4,rfl,0,rfl⟩ (aI rfl) (.cons ?_ (.cons ((rv.keep zt).keep tk) .nil))) ⟨⟨f0',b',old',a1,a2⟩,a3,tk _ _ ht,fun j j q=>tk _ _ (zt _ _ q)⟩ k
  rw [om]
  exact .int _ _
 done {i φ σ s' Q E} _ _ z st hQ:=by
  obtain ⟨⟨f0,b,old,hf,ho⟩,hi,ht,zt⟩:=st
  exact en_end (items:=vs.toArray) hh ho hi ht (by rw [BB z,No,vp,Bj,r.length];exact cR _) fun h' eb=>hQ h' s'.toks fun b o m q=>eb b o (fun z=>m (z▸ .tail _ (.head _))) q
 go {i s' tg v Q E} st hQ:=by
  have th:=BF st
  obtain ⟨⟨f0,b,old,hf,ho⟩,⟨o,hi,hir⟩,ht,zt⟩:=st
  refine en_go ho hf fun h' f0' a1 a2 a3=>?_
  have k:∀ b o,b∉[e,it]->s'.heap.get? b=some o->h'.get? b=some o:=fun b o m q=>a3 b o (fun z=>m (z▸ .head _)) q
  have tk:=lz th k
  exact hQ h' ⟨⟨f0',b,old,a1,a2⟩,⟨o,a3 _ _ (gi ne) hi,hir⟩,tk _ _ ht,fun j j q=>tk _ _ (zt _ _ q)⟩ k
 self st q:=let ⟨⟨_,_,_,_,ho⟩,_⟩:=st;MT ho q
theorem ST {np pos:Pos} {e:PySem.Expr} {x:Ex} (hg:dh c (Str.ofString "enumerate") (.type "enumerate")) (ns:bI e=true) (ha:aK c e x):mo c (.Call (.Name (Str.ofString "enumerate") np) [e] [] pos) (HW x):=fun j j j s j j I f=>
 zp (hg s _ _ _ I.stay (sF (first:=[]) (.inr ⟨_,rfl⟩) (.cons ns ha .nil) (kg ns ha I f fun v σ₁ φ₁ s₁ y st I₁ r f=>f.tup r (fun xs a vs ht hl rr f=>by
  have lt:a< s₁.heap.objs.size:=let ⟨_,q,_⟩:=ht;FR q
  have n1:=a0 s₁.heap
  have n2:s₁.heap.get? (s₁.heap.objs.size+1)=none:=BE (iD _)
  refine zw ht fun h' he hi keep=>f.grow (t:=s₁.toks) I₁ (.all keep) fun tk=>⟨s₁.heap,keep,fun j=>st.no I I₁,fun s2 Q E e2 hQ=>?_⟩
  subst e2
  exact MT he (hQ _ [s₁.heap.objs.size+1,s₁.heap.objs.size] _ _ s2.heap s2.toks (fun j j=>id) (fun b m=>in2 (P:=fun b=>s₁.heap.get? b=none/\d9 c b/\b∉own φ₁) ⟨n2,I₁.new n2⟩ ⟨n1,I₁.new n1⟩ m) (Rx I.st.hand (Nat.succ_ne_self _) rr) ⟨⟨_,_,_,.inl rfl,he⟩,hi,tk _ _ ht,tk⟩ trivial)) Fin.bad)))
end
end
end Mine
end
noncomputable section
open PySem PySem.W PySem.Calls
namespace Mine
section
abbrev Ents:=List (Str×Addr×Fn)
structure lV where
 fs:Ents
 ms:Ents
 gs:List (Str×I)
structure SE where
 sc:Scope
 ρ:List (Str×Nat)
noncomputable def SE.glob (e:SE) (x:Str):Bool:=e.sc.names.lookup x==some .globalImplicit
noncomputable def SE.slot (e:SE) (x:Str):Option Nat:=match e.sc.names.lookup x==some .local || e.sc.names.lookup x==some .cell with
 |true=>e.ρ.lookup x
 |false=>none
noncomputable def SE.rel (e:SE):Str×NameKind->Str×NameKind:=fun (n,k)=>if (k==NameKind.free && e.sc.kind== .function && e.sc.names.lookup n==some .cell) then (n,NameKind.cell) else (n,k)
noncomputable def SE.comp (e:SE) (s:Scope):SE:=⟨{s with names:=s.names.map e.rel},e.ρ.filter fun p=>s.names.lookup p.1==some .local || s.names.lookup p.1==some .free⟩
structure bH (g:G) (base:Heap) (mg mb:Str->Option Value) (bn:List Str):Prop where
 B:dw g.w base mg mb bn
 W:Wr g base
 RK:sM (K g.w.params) g.D
 bt:g.D.bt=71
 jd:nsIn (K g.w.params) mainGlobals (Str.ofString "read_judgement")=some (some (.ref g.D.jd))
 bn:∀ x,x∈([("Exception" :Str),Str.ofString "len",Str.ofString "ord",Str.ofString "str",Str.ofString "tuple",Str.ofString "list",Str.ofString "range",Str.ofString "sorted",Str.ofString "enumerate"]:List Str)->x∈bn
structure aq (g:G) (base:Heap) (k:Nat) (T:lV):Prop where
 fs:∀ x a F,T.fs.lookup x=some (a,F)->nsIn (K g.w.params) mainGlobals x=some (some (.ref a))/\(x==("__debug__" :Str))=false/\(∃ ob fd,base.get? a=some ob/\ob.data= .func fd)/\bE g base k a F
 ms:∀ x a F,T.ms.lookup x=some (a,F)->findIn (K g.w.params) (.ref g.D.rd) x=some (some (.ref a))/\typeIn (K g.w.params) (.ref a)=some (.type "function")/\
  (∀ tok at' tg kno fv tv,dD [("tokens",tok),("at",at'),("tongue",tg),("known",kno),("family",fv),("table",tv)] x=none)/\(∃ ob fd,base.get? a=some ob/\ob.data= .func fd)/\bE g base k a F
 gs:∀ x i,T.gs.lookup x=some i->∃ y,nsIn (K g.w.params) mainGlobals x=some (some y)/\(x==("__debug__" :Str))=false/\∀ h,base.StaysIn h->aX g.D h i y
structure be (g:G) (base:Heap) (k:Nat) (e:SE) (c:aS):Prop where
 g:c.g=g
 base:c.base=base
 scope:c.env.scope=e.sc
 ρ:c.ρ=e.ρ
 inj:(e.ρ.map (·.2)).Nodup
 cells:∀ x,(e.sc.names.lookup x=some .cell\/e.sc.names.lookup x=some .free)->∃ a,c.env.cells.lookup x=some a
 Ev:v9 c.env
 d:k<=c.d
def CF (e:SE) (s:Scope) (tg:List Nat):Prop:=s.kind= .function/\(∀ x∈s.names,x.2≠ .cell)/\(s.names.map (·.1)).Nodup/\(∀ x∈s.names,x.2= .free->e.sc.names.lookup x.1=some .cell\/e.sc.names.lookup x.1=some .free)/\
 ∀ p∈e.ρ,(s.names.lookup p.1=some .local->p.2∈tg)/\(s.names.lookup p.1=some .free->p.2∉tg)
noncomputable instance (e:SE) (s:Scope) (tg:List Nat):Decidable (CF e s tg):=by unfold CF;infer_instance
section
variable {g:G} {base:Heap} {k:Nat} {e:SE} {c:aS} {x:Str} {n:Nat} {s:Scope} {tg:List Nat} {cl:List (Str×Addr)} {C:Addr}
theorem be.kind (f:be g base k e c) (x:Str):c.env.kindOf x=e.sc.names.lookup x:=by unfold Env.kindOf;rw [f.scope]
theorem be.glob (f:be g base k e c) (h:e.glob x=true):c.env.kindOf x=some .globalImplicit:=(f.kind x).trans (n9 h)
theorem be.slot (f:be g base k e c) (h:e.slot x=some n):kU c x n:=by
 unfold SE.slot at h
 cases q:e.sc.names.lookup x==some .local || e.sc.names.lookup x==some .cell with
 |false=>rw [q] at h;cases h
 |true=>
  rw [q] at h
  exact ⟨by rw [f.ρ];exact h,fun x' h'=>vc f.inj (bQ (f.ρ▸h')) (bQ h),((Bool.or_eq_true _ _).mp q).imp (fun q=>(f.kind x).trans (n9 q)) fun q=>⟨(f.kind x).trans (n9 q),f.cells x (.inl (n9 q))⟩⟩
theorem be.scOk (f:be g base k e c) (h:CF e s tg):yL c s tg:=
 have ⟨h1,h2,h3,h4,h5⟩:=h
 ⟨h1,h2,h3,fun x m q=>f.cells _ (h4 x m q),fun x n q=>(h5 _ (bQ (f.ρ▸q))).1,fun x n q=>(h5 _ (bQ (f.ρ▸q))).2,fun x q=>by rw [f.kind];exact h4 _ (bQ q) rfl⟩
theorem be.comp (f:be g base k e c) (h:CF e s tg) (cl:List (Str×Addr)) (C:Addr) (Z:lF c.env.cells s.names cl):be g base k (e.comp s) (bZ c s cl C):=by
 have S:=f.scOk h
 have rl:lZ c.env=e.rel:=funext fun ⟨n,k⟩=>by
  unfold lZ SE.rel
  dsimp only
  rw [f.kind,f.scope]
 refine ⟨f.g,f.base,?_,?_,f.inj.sublist ((List.filter_sublist).map _),fun x q=>?_,⟨S.kind,f.Ev.gl,f.Ev.bu⟩,f.d⟩
 ·show ({s with names:=s.names.map (lZ c.env)}:Scope)=_
  rw [rl];rfl
 ·show List.filter _ c.ρ=_
  rw [f.ρ];rfl
 ·have q:(s.names.map (lZ c.env)).lookup x=some .cell\/(s.names.map (lZ c.env)).lookup x=some .free:=by rw [rl];exact q
  rw [qK] at q
  cases z:s.names.lookup x with
  |none=>rw [z] at q;rcases q with q |q<;>cases q
  |some kd=>
   have fr:kd= .free:=by
    cases kd with
    |free=>rfl
    |cell=>exact absurd rfl (S.nocell _ (bQ z))
    |_=>rw [z] at q;rcases q with q |q<;>cases q
   subst fr
   obtain ⟨a,ha⟩:=S.free _ (bQ z) rfl
   exact ⟨a,(Z.look S).mpr ⟨ha,z⟩⟩
end
end
section
abbrev DE (g:G) (base:Heap) (k:Nat) (e:SE) (x:PySem.Expr):={v:Ex // ∀ c,be g base k e c->aK c x v}
abbrev DT (g:G) (base:Heap) (k:Nat) (e:SE) (x:PySem.Expr):={v:Tx // ∀ c,be g base k e c->ju c x v}
abbrev DV (g:G) (base:Heap) (k:Nat) (e:SE) (x:PySem.Expr):={v:Tx // ∀ c,be g base k e c->jo c x v}
abbrev DH (g:G) (base:Heap) (k:Nat) (e:SE) (x:PySem.Expr):={v:Hx // ∀ c,be g base k e c->mo c x v}
abbrev DL (g:G) (base:Heap) (k:Nat) (e:SE) (es:List PySem.Expr):={v:List Ex // ∀ c,be g base k e c->fV c es v}
abbrev DTs (g:G) (base:Heap) (k:Nat) (e:SE) (es:List PySem.Expr):={v:List Tx // ∀ c,be g base k e c->zF c es v}
structure Gx (g:G) (base:Heap) (k:Nat) where
 E:∀ e x,DE g base k e x
 T:∀ e x,DT g base k e x
 B:∀ e x,DV g base k e x
 H:∀ e x,DH g base k e x
variable {g:G} {base:Heap} {k:Nat} {mg mb:Str->Option Value} {bn:List Str} {T:lV} {e:SE} {x:PySem.Expr}
def dE:DE g base k e x:=⟨d7,fun j j j j j j j j j f=>f.bad⟩
def EI:DT g base k e x:=⟨badT,fun j j j j j j j j j f=>f.bad⟩
def Ea:DV g base k e x:=⟨badT,fun j j j j j j j j j f=>f.bad⟩
theorem Xu {c:aS} {t:Tx} (h:jo c x t):aK c x (gE t):=fun j j j j j j I f=>h _ _ _ _ _ _ I (f.bind fun b j j j j j I₁ e f=>e▸f.here I₁ (.i (.bool b)))
def toE (d:DV g base k e x):DE g base k e x:=⟨gE d.1,fun c f=>Xu (d.2 c f)⟩
variable (r:Gx g base k) (e)
def dL:(es:List PySem.Expr)->Option (DL g base k e es)
 |[]=>some ⟨[],fun j j=> .nil⟩
 |x::xs=>match h:bI x with
  |true=>match dL xs with
   |some d=>some ⟨(r.E e x).1::d.1,fun c f=> .cons h ((r.E e x).2 c f) (d.2 c f)⟩
   |none=>none
  |false=>none
noncomputable def LW:(es:List PySem.Expr)->DTs g base k e es
 |[]=>⟨[],fun j j=> .nil⟩
 |x::xs=>⟨(r.T e x).1::(LW xs).1,fun c f=> .cons ((r.T e x).2 c f) ((LW xs).2 c f)⟩
variable {r e} (H:bH g base mg mb bn) (t:aq g base k T)
theorem be.W {c:aS} (H:bH g base mg mb bn) (f:be g base k e c):Wr c.g c.base:=by rw [f.g,f.base];exact H.W
theorem be.B {c:aS} (H:bH g base mg mb bn) (f:be g base k e c):dw c.g.w c.base mg mb bn:=by rw [f.g,f.base];exact H.B
theorem be.own {c:aS} {z:Str} {v:Value} (H:bH g base mg mb bn) (f:be g base k e c) (hz:e.glob z=true) (hd:(z==("__debug__" :Str))=false) (h:nsIn (K g.w.params) mainGlobals z=some (some v)):dh c z v:=TR (f.B H) f.Ev (f.glob hz) (by rw [f.g];exact h) hd
theorem be.built {c:aS} {z:Str} {v:Value} (H:bH g base mg mb bn) (f:be g base k e c) (hz:e.glob z=true) (hd:(z==("__debug__" :Str))=false) (hn:z≠ "__name__") (hm:z∈bn) (h:bootBuiltins z=some v):dh c z v:=Oo (f.B H) f.Ev (f.glob hz) hm h hn hd
theorem Sn {c:aS} {z:Str} {i:Mine.I} {pos:Pos} (H:bH g base mg mb bn) (t:aq g base k T) (f:be g base k e c) (hg:e.glob z=true) (h:T.gs.lookup z=some i):aK c (.Name z pos) (aN i):=fun j j j s j j I z=>
 let ⟨_,h1,h2,h3⟩:=t.gs _ _ h
 f.own H hg h2 h1 s _ _ _ I.stay (z.here I (.i (by rw [f.g];exact h3 _ (f.base▸I.stay))))
noncomputable instance (s:Mine.T):Decidable (dH s):=by unfold dH;infer_instance
def dC (n:Nat) (pos:Pos):(c:Const)->DE g base k e (.Constant c n pos)
 | .none=>⟨aN .none,fun j j=>Tk⟩
 | .bool b=>⟨aN (.bool b),fun j j=>Ra⟩
 | .int i=>⟨aN (.int i),fun j j=>LQ⟩
 | .str x=>match h:decide (dH x.cps.toList) with
  |true=>⟨aN (.str x.cps.toList),fun j j=>Xp (x:=x.cps.toList) (cw h)⟩
  |false=>dE
 |_=>dE
def dN (z:Str) (pos:Pos):DE g base k e (.Name z pos):=match hd:z==("__debug__" :Str),hc:z==("__classdict__" :Str) with
 |false,false=>match h:e.ρ.lookup z with
  |some n=>⟨aa n,fun j f=>Ma (f.ρ▸h) hd hc⟩
  |none=>match hg:e.glob z,h:T.gs.lookup z with
   |true,some i=>⟨aN i,fun c f=>Sn H t f hg h⟩
   |_,_=>dE
 |_,_=>dE
abbrev DBin (op:Operator):={f:V->V->ai->RE V // ∀ c,i2 c op f}
def binOf:(op:Operator)->Option (DBin op)
 | .Add=>some ⟨au,fun j=>ok_add⟩
 | .Sub=>some ⟨dQ,fun j=>ok_sub⟩
 | .Mult=>some ⟨jx,fun j=>aaw⟩
 | .FloorDiv=>some ⟨f6,fun j=>WH⟩
 | .Mod=>some ⟨ck,fun j=>Yr⟩
 | .Pow=>some ⟨ig,fun j=>ok_pow⟩
 | .LShift=>some ⟨Jl,fun j=>ok_shl⟩
 | .RShift=>some ⟨TG,fun j=>ok_shr⟩
 | .BitAnd=>some ⟨OK,fun j=>aaW⟩
 |_=>none
abbrev DCmp (op:PySem.CmpOp):={f:V->V->ai->RE Bool // ∀ c,Wr c.g c.base->iq c op f}
def On:(op:PySem.CmpOp)->Option (DCmp op)
 | .Eq=>some ⟨az,fun j j=>op_eq⟩
 | .NotEq=>some ⟨cM,fun j j=>op_ne⟩
 | .Lt=>some ⟨fz,fun j j=>op_lt⟩
 | .LtE=>some ⟨MC,fun j j=>op_le⟩
 | .Gt=>some ⟨gA,fun j j=>op_gt⟩
 | .GtE=>some ⟨MQ,fun j j=>op_ge⟩
 | .In=>some ⟨cJ,fun j W=>VI W⟩
 | .NotIn=>some ⟨gn,fun j W=>Rv W⟩
 |_=>none
variable (r:Gx g base k)
def cmpT (a:PySem.Expr) (pos:Pos):(ops:List PySem.CmpOp)->(cs:List PySem.Expr)->DT g base k e (.Compare a ops cs pos)×DV g base k e (.Compare a ops cs pos)
 |[.Is],[.Constant .none _ _]=>⟨⟨isNone (r.E e a).1,fun c f=>(Ep ((r.E e a).2 c f)).1⟩,⟨isNone (r.E e a).1,fun c f=>(Ep ((r.E e a).2 c f)).2⟩⟩
 |[.IsNot],[.Constant .none _ _]=>⟨⟨bP (isNone (r.E e a).1),fun c f=>(wI ((r.E e a).2 c f)).1⟩,⟨bP (isNone (r.E e a).1),fun c f=>(wI ((r.E e a).2 c f)).2⟩⟩
 |[op],[b]=>match On op,h:behindInMarks op b with
  |some o,false=>⟨⟨aj o.1 (r.E e a).1 (r.E e b).1,fun c f=>(LZ (o.2 c (f.W H)) ((r.E e a).2 c f) ((r.E e b).2 c f) h).1⟩,⟨aj o.1 (r.E e a).1 (r.E e b).1,fun c f=>(LZ (o.2 c (f.W H)) ((r.E e a).2 c f) ((r.E e b).2 c f) h).2⟩⟩
  |_,_=>⟨EI,Ea⟩
 |[op,op'],[b,d]=>match On op,On op',h:lastMarks [op,op'] [b,d] with
  |some o,some o',false=>⟨⟨RZ o.1 o'.1 (r.E e a).1 (r.E e b).1 (r.E e d).1,fun c f=>SS (o.2 c (f.W H)) (o'.2 c (f.W H)) ((r.E e a).2 c f) ((r.E e b).2 c f) ((r.E e d).2 c f) h⟩,Ea⟩
  |_,_,_=>⟨EI,Ea⟩
 |_,_=>⟨EI,Ea⟩
def H8:(o:Option PySem.Expr)->{v:Ex // ∀ c,be g base k e c->mJ c o v}
 |none=>⟨aN .none,fun j j=> .none⟩
 |some x=>⟨(r.E e x).1,fun c f=> .some ((r.E e x).2 c f)⟩
end
section
variable {g:G} {base:Heap} {k:Nat} {mg mb:Str->Option Value} {bn:List Str} {T:lV} {e:SE} {x:PySem.Expr} (r:Gx g base k) (H:bH g base mg mb bn)
theorem NA {c:aS} {n:Nat} {F:Fn} {v sl:PySem.Expr} {sp pos:Pos} {es:List PySem.Expr} {as:List Ex} {a:Ex} {ob:Obj} {fd:FuncData} (hF:bE c.g c.base n c.g.D.jd F) (hk:n<=c.d) (ho:c.base.get? c.g.D.jd=some ob) (hd:ob.data= .func fd) (hg:aK c (.Subscript v sl sp) a) (hl:fV c es as):
  aK c (.Call (.Subscript v sl sp) es [] pos) (Cw F a as):=fun φ l σ s Q E I z=>by
 show c.wp (do callWith pos (<-eval (.Subscript v sl sp) c.env) [] (backTo pos (starEach es c.env)) (backToKw pos (keywordEach [] c.env))) _ _ s
 exact ax (hg _ _ _ _ _ _ I (z.bind fun u σ₁ φ₁ s₁ x st I₁ ru z=>el_fn (F:=fun r=>bJ c φ₁ l s₁ r Q E) (C:=fun y=>c.wp (callWith pos y [] (backTo pos (starEach es c.env)) (backToKw pos (keywordEach [] c.env))) Q E s₁) z ru (fun z=>CG (o:=ob) (fd:=fd) (iO hl (mI hl _ _ _ _ _ _ I₁ (Fin.bind z fun vs σ₂ φ₂ s₂ ys st₂ I₂ rr z=>⟨⟨I₂.stay _ _ ho,hd⟩,hF c φ₂ l σ₂ s₂ vs ys _ _ rfl rfl hk I₂ rr z⟩)))) False.elim))
noncomputable def QE:(ks:List (Option PySem.Expr))->(vs:List PySem.Expr)->Option {v:List Ex // ∀ c,be g base k e c->xB c ks vs v}
 |[],[]=>some ⟨[],fun j j=> .nil⟩
 |some x::ks,y::vs=>match QE ks vs with
  |some d=>some ⟨(r.E e x).1::(r.E e y).1::d.1,fun c f=> .cons ((r.E e x).2 c f) ((r.E e y).2 c f) (d.2 c f)⟩
  |none=>none
 |_,_=>none
def Sj (v:PySem.Expr) (pos:Pos):(s:PySem.Expr)->DE g base k e (.Subscript v s pos)
 | .Slice lo hi none _=>⟨bF (r.E e v).1 (H8 r lo).1 (H8 r hi).1,fun c f=>WT (f.W H) ((r.E e v).2 c f) ((H8 r lo).2 c f) ((H8 r hi).2 c f)⟩
 | .Slice none none (some (.UnaryOp .USub (.Constant (.int 1) _ _) _)) _=>⟨un OY (r.E e v).1,fun c f=>XQ ((r.E e v).2 c f) (LF LQ)⟩
 | .Slice (some lo) none (some (.Constant (.int 2) _ _)) _=>⟨af pc (r.E e v).1 (r.E e lo).1,fun c f=>Sd ((r.E e v).2 c f) ((r.E e lo).2 c f)⟩
 |s=>match h:BV s with
  |true=>⟨af ag (r.E e v).1 (r.E e s).1,fun c f=>S7 (Yx (f.W H)) h ((r.E e v).2 c f) ((r.E e s).2 c f)⟩
  |false=>dE
noncomputable def Ij:(ts:List PySem.Expr)->Option {p:List Str×List Nat // ∀ c,be g base k e c->xL c ts p.1 p.2}
 |[]=>some ⟨([],[]),fun j j=> .nil⟩
 | .Name z _::ts=>match h:e.slot z,Ij ts with
  |some n,some d=>some ⟨(z::d.1.1,n::d.1.2),fun j f=> .cons (f.slot h) (d.2 _ f)⟩
  |_,_=>none
 |_=>none
def aah:(x:PySem.Expr)->Option {tg:List Nat // ∀ c,be g base k e c->Tg c x tg}
 | .Name z _=>match h:e.slot z with
  |some n=>some ⟨[n],fun j f=> .one (f.slot h)⟩
  |none=>none
 | .Tuple ts _ _=>match Ij (g:=g) (base:=base) (k:=k) (e:=e) ts with
  |some ⟨(_,n::m::ns),h⟩=>some ⟨n::m::ns,fun c f=> .many (h c f)⟩
  |_=>none
 |_=>none
noncomputable def Ki (e:PySem.Expr):Bool:=!Nat.beq e.ctorIdx 7
theorem GN {x:PySem.Expr} {env:Env} (h:Ki x=true) (y:Value):foldedSetIterable x env y=pure y:=by
 cases x<;>first |rfl |cases h
structure DComp (g:G) (base:Heap) (k:Nat) (e:SE) (elt:PySem.Expr) (s:Scope) (tgt iter:PySem.Expr) (am:List PySem.Expr) where
 tg:List Nat
 h:Hx
 t:Tx
 y:Ex
 ok:∀ c,be g base k e c->yL c s tg/\(∀ y,foldedSetIterable iter c.env y=pure y)/\mo c iter h/\∀ cl C,lF c.env.cells s.names cl->Tg (bZ c s cl C) tgt tg/\kz (bZ c s cl C) am t/\aK (bZ c s cl C) elt y
def aaO (e:SE):(am:List PySem.Expr)->Option {t:Tx // ∀ c,be g base k e c->kz c am t}
 |[]=>some ⟨lL,fun j j=>OI⟩
 |[x]=>some ⟨(r.T e x).1,fun c f=>PS ((r.T e x).2 c f)⟩
 |_=>none
def V2 (elt:PySem.Expr) (s:Scope) (tgt iter:PySem.Expr) (am:List PySem.Expr):Option (DComp g base k e elt s tgt iter am):=
 match aah (g:=g) (base:=base) (k:=k) (e:=e.comp s) tgt,aaO r (e.comp s) am,hs:Ki iter with
 |some tg,some t,true=>match hc:decide (CF e s tg.1) with
  |true=>some ⟨tg.1,(r.H e iter).1,t.1,(r.E (e.comp s) elt).1,fun c f=>have ch:=cw hc;⟨f.scOk ch,GN hs,(r.H e iter).2 c f,fun cl C Z=>have f':=f.comp ch cl C Z;⟨tg.2 _ f',t.2 _ f',(r.E (e.comp s) elt).2 _ f'⟩⟩⟩
  |false=>none
 |_,_,_=>none
def Qh (elt:PySem.Expr) (s:Scope) (pos:Pos):(gs:List Comprehension)->DE g base k e (.ListComp elt gs s pos)
 |[⟨tgt,iter,am,i⟩]=>match hi:decide (i=0),V2 r (e:=e) elt s tgt iter am with
  |true,some d=>⟨eG d.h d.tg d.t d.y,fun c f=>have ⟨a1,a2,a3,a4⟩:=d.ok c f;cw hi▸Kz a1 a2 a3 (fun cl C Z=>(a4 cl C Z).1) (fun cl C Z=>(a4 cl C Z).2.1) fun cl C Z=>(a4 cl C Z).2.2⟩
  |_,_=>dE
 |_=>dE
end
section
noncomputable def zU {α:Type} {P:Str×α->Prop} (z:Str):List {p:Str×α // P p}->Option {a:α // P (z,a)}
 |[]=>none
 |p::r=>match h:decide (p.1.1=z) with
  |true=>some ⟨p.1.2,cw h▸p.2⟩
  |false=>zU z r
variable {g:G} {base:Heap} {k:Nat} {mg mb:Str->Option Value} {bn:List Str} {T:lV} {e:SE} {x:PySem.Expr} (r:Gx g base k) (H:bH g base mg mb bn)
abbrev UnP (g:G) (base:Heap) (k:Nat) (p:Str×(V->ai->RE V)):Prop:=∀ e c,be g base k e c->e.glob p.1=true->∃ v,dh c p.1 v/\((∃ id,v= .builtin id)\/∃ T,v= .type T)/\x7 c v p.2
def uns:List {p:Str×(V->ai->RE V) // UnP g base k p}:=[
 ⟨(Str.ofString "len",bC),fun j j f hz=>⟨_,f.built H hz (by decide) (by decide) (H.bn _ (by simp)) (by decide+kernel),.inl ⟨_,rfl⟩,Ze (f.W H)⟩⟩,
 ⟨(Str.ofString "ord",Nn),fun j j f hz=>⟨_,f.built H hz (by decide) (by decide) (H.bn _ (by simp)) (by decide+kernel),.inl ⟨_,rfl⟩,ok_ord⟩⟩,
 ⟨(Str.ofString "str",jt),fun j j f hz=>⟨_,f.built H hz (by decide) (by decide) (H.bn _ (by simp)) (by decide+kernel),.inr ⟨_,rfl⟩,Zw⟩⟩,
 ⟨(Str.ofString "tuple",eN),fun j j f hz=>⟨_,f.built H hz (by decide) (by decide) (H.bn _ (by simp)) (by decide+kernel),.inr ⟨_,rfl⟩,Tr⟩⟩,
 ⟨(Str.ofString "list",HT),fun j j f hz=>⟨_,f.built H hz (by decide) (by decide) (H.bn _ (by simp)) (by decide+kernel),.inr ⟨_,rfl⟩,XH⟩⟩,
 ⟨(Str.ofString "sorted",EO),fun j j f hz=>⟨_,f.built H hz (by decide) (by decide) (H.bn _ (by simp)) (by decide+kernel),.inl ⟨_,rfl⟩,Q7⟩⟩]
abbrev UmP (p:Str×(V->ai->RE V)):Prop:=∀ c,∃ T id,UX T p.1 id/\NC c T id p.2
def ums:List {p:Str×(V->ai->RE V) // UmP p}:=[
 ⟨(Str.ofString "lower",Ir),fun j=>⟨_,_,⟨DG,F.slot_str_lower,F.type_str_lower⟩,RT⟩⟩,
 ⟨(Str.ofString "strip",IK),fun j=>⟨_,_,⟨DG,F.slot_str_strip,F.type_str_strip⟩,Sa⟩⟩]
abbrev BmP (p:Str×(V->ai->Bool)×(V->V->ai->RE V)):Prop:=∀ c,∃ T id,UX T p.1 id/\xH c T id p.2.1 p.2.2
def bms:List {p:Str×(V->ai->Bool)×(V->V->ai->RE V) // BmP p}:=[
 ⟨(Str.ofString "append",a6,aO),fun j=>⟨_,_,⟨F.plainAttrs_list,F.slot_list_append,F.type_list_append⟩,PB⟩⟩,
 ⟨(Str.ofString "extend",a6,fm),fun j=>⟨_,_,⟨F.plainAttrs_list,F.slot_list_extend,F.type_list_extend⟩,Rk⟩⟩,
 ⟨(Str.ofString "index",a6,JL),fun j=>⟨_,_,⟨F.plainAttrs_list,F.slot_list_index,F.type_list_index⟩,RG⟩⟩,
 ⟨(Str.ofString "find",dK,HK),fun j=>⟨_,_,⟨DG,F.slot_str_find,F.type_str_find⟩,WZ⟩⟩,
 ⟨(Str.ofString "split",dK,Ez),fun j=>⟨_,_,⟨DG,F.slot_str_split,F.type_str_split⟩,SX⟩⟩,
 ⟨(Str.ofString "join",dK,eV),fun j=>⟨_,_,⟨DG,F.slot_str_join,F.type_str_join⟩,X8⟩⟩]
end
section
variable {g:G} {base:Heap} {k:Nat} {mg mb:Str->Option Value} {bn:List Str} {T:lV} {e:SE} {x:PySem.Expr} {c:aS} {z:Str} {np pos:Pos} {es:List PySem.Expr} {as:List Ex} {F:Fn} {a:Addr}
theorem be.snd (f:be g base k e c) (h:bE g base k a F):bE c.g c.base k a F:=by rw [f.g,f.base];exact h
theorem be.ob (f:be g base k e c) (h:∃ ob fd,base.get? a=some ob/\ob.data= .func fd):∃ ob fd,c.base.get? a=some ob/\ob.data= .func fd:=by rw [f.base];exact h
theorem be.KX (H:bH g base mg mb bn) (f:be g base k e c):(K g.w.params).In c.base:=f.base▸H.B.X
theorem be.RK (H:bH g base mg mb bn) (f:be g base k e c):sM (K g.w.params) c.g.D:=f.g▸H.RK
theorem be.bt (H:bH g base mg mb bn) (f:be g base k e c):c.g.D.bt=71:=f.g▸H.bt
theorem X0 (H:bH g base mg mb bn) (t:aq g base k T) (f:be g base k e c) (hg:e.glob z=true) (hf:T.fs.lookup z=some (a,F)) (hl:fV c es as):aK c (.Call (.Name z np) es [] pos) (Mine.call F as):=
 let ⟨h1,h2,h3,h4⟩:=t.fs _ _ _ hf
 let ⟨_,_,h3,h5⟩:=f.ob h3
 Sp (f.own H hg h2 h1) (f.snd h4) f.d h3 h5 hl
theorem R8 {o:PySem.Expr} {b:Ex} {ap:Pos} (H:bH g base mg mb bn) (t:aq g base k T) (f:be g base k e c) (hf:T.ms.lookup z=some (a,F)) (q1:c8 o=true) (q2:(ap.endLine==pos.line)=true) (q3:es.length< 29) (ho:aK c o b) (hl:fV c es as):aK c (.Call (.Attribute o z ap) es [] pos) (aw F b as):=
 let ⟨h1,h2,h3,h4,h5⟩:=t.ms _ _ _ hf
 let ⟨_,_,h4,h6⟩:=f.ob h4
 S6 (f.KX H) (f.RK H) (by rw [f.g];exact h1) h2 h3 (f.snd h5) f.d h4 h6 q1 q2 q3 ho hl
theorem RL {v sl:PySem.Expr} {sp:Pos} {b:Ex} (H:bH g base mg mb bn) (t:aq g base k T) (f:be g base k e c) (hf:T.fs.lookup (Str.ofString "read_judgement")=some (a,F)) (hg:aK c (.Subscript v sl sp) b) (hl:fV c es as):aK c (.Call (.Subscript v sl sp) es [] pos) (Cw F b as):=
 let ⟨h1,_,h3,h4⟩:=t.fs _ _ _ hf
 have q:a=c.g.D.jd:=by rw [f.g];have:=h1.symm.trans H.jd;injection this with this;injection this with this;injection this
 let ⟨_,_,h3,h5⟩:=f.ob h3
 NA (q▸f.snd h4) f.d (q▸h3) h5 hg hl
theorem XR (H:bH g base mg mb bn) (f:be g base k e c) (hz:z=Str.ofString "BadText") (hg:e.glob z=true) (hl:fV c es as):aK c (.Call (.Name z np) es [] pos) (Ca as):=by
 subst hz
 exact YD (f.B H) (H.bn _ (by simp)) (f.bt H) (f.own H hg (by decide) (by kernel_rfl)) hl
variable (r:Gx g base k) (H:bH g base mg mb bn) (t:aq g base k T)
def dOwn (z:Str) (np pos:Pos) (es:List PySem.Expr):Option (DE g base k e (.Call (.Name z np) es [] pos)):=match hg:e.glob z,dL e r es with
 |true,some l=>match hf:T.fs.lookup z with
  |some (_,F)=>some ⟨call F l.1,fun c f=>X0 H t f hg hf (l.2 c f)⟩
  |none=>match hz:decide (z=Str.ofString "BadText") with
   |true=>some ⟨Ca l.1,fun c f=>XR H f (cw hz) hg (l.2 c f)⟩
   |false=>none
 |_,_=>none
def dUn (z:Str) (np pos:Pos):(es:List PySem.Expr)->DE g base k e (.Call (.Name z np) es [] pos)
 |[a]=>match hg:e.glob z,zU z (uns H),hn:bI a with
  |true,some u,true=>⟨un u.1 (r.E e a).1,fun c f=>let ⟨_,h1,h2,h3⟩:=u.2 e c f hg;Q5 h1 h2 h3 hn ((r.E e a).2 c f)⟩
  |_,_,_=>dE
 |_=>dE
def dMe (o:PySem.Expr) (z:Str) (ap pos:Pos) (q1:c8 o=true) (q2:(ap.endLine==pos.line)=true) (es:List PySem.Expr):Option (DE g base k e (.Call (.Attribute o z ap) es [] pos)):=match dL e r es,hf:T.ms.lookup z,h:decide (es.length< 29) with
 |some l,some (_,F),true=>some ⟨aw F (r.E e o).1 l.1,fun c f=>R8 H t f hf q1 q2 (cw h) ((r.E e o).2 c f) (l.2 c f)⟩
 |_,_,_=>none
def dMb (o:PySem.Expr) (z:Str) (ap pos:Pos) (q1:c8 o=true) (q2:(ap.endLine==pos.line)=true):(es:List PySem.Expr)->DE g base k e (.Call (.Attribute o z ap) es [] pos)
 |[]=>match zU z ums with
  |some u=>⟨un u.1 (r.E e o).1,fun c f=>let ⟨_,_,m,h⟩:=u.2 c;snd_um m h q1 q2 ((r.E e o).2 c f)⟩
  |none=>dE
 |[a]=>match hn:bI a with
  |true=>match zU z bms with
   |some u=>⟨bm u.1.1 u.1.2 (r.E e o).1 (r.E e a).1,fun c f=>let ⟨_,_,m,h⟩:=u.2 c;snd_bm m h q1 q2 hn ((r.E e o).2 c f) ((r.E e a).2 c f)⟩
   |none=>match hz:decide (z= "get") with
    |true=>⟨UL (r.E e o).1 (r.E e a).1,fun c f=>cw hz▸Pf (f.W H) q1 q2 hn ((r.E e o).2 c f) ((r.E e a).2 c f)⟩
    |false=>dE
  |false=>dE
 |[a,b]=>match hz:decide (z= "get"),hn:bI a,hm:bI b with
  |true,true,true=>⟨jm (r.E e o).1 (r.E e a).1 (r.E e b).1,fun c f=>cw hz▸Tm (f.W H) q1 q2 hn hm ((r.E e o).2 c f) ((r.E e a).2 c f) ((r.E e b).2 c f)⟩
  |_,_,_=>dE
 |_=>dE
def dCall (es:List PySem.Expr) (pos:Pos):(fx:PySem.Expr)->DE g base k e (.Call fx es [] pos)
 | .Name z np=>(dOwn r H t z np pos es).getD (dUn r H z np pos es)
 | .Attribute o z ap=>match q1:c8 o,q2:ap.endLine==pos.line with
  |true,true=>(dMe r H t o z ap pos q1 q2 es).getD (dMb r H o z ap pos q1 q2 es)
  |_,_=>dE
 | .Subscript v s sp=>match dL e r es,hf:T.fs.lookup (Str.ofString "read_judgement") with
  |some l,some (_,F)=>⟨Cw F (Sj r H v sp s).1 l.1,fun c f=>RL H t f hf ((Sj r H v sp s).2 c f) (l.2 c f)⟩
  |_,_=>dE
 |_=>dE
abbrev AtP (p:Str×Nat):Prop:=p.2<=7/\p.1=Str.ofString (wq p.2)
noncomputable def attrs:List {p:Str×Nat // AtP p}:=[⟨(Str.ofString "tokens",0),by decide,rfl⟩,⟨(Str.ofString "at",1),by decide,rfl⟩,⟨(Str.ofString "tongue",2),by decide,rfl⟩,⟨(Str.ofString "known",3),by decide,rfl⟩,⟨(Str.ofString "family",4),by decide,rfl⟩,⟨(Str.ofString "table",5),by decide,rfl⟩,⟨(Str.ofString "fields",6),by decide,rfl⟩,⟨(Str.ofString "types",7),by decide,rfl⟩]
theorem ZN {n:Nat} {o:PySem.Expr} {b:Ex} (H:bH g base mg mb bn) (f:be g base k e c) (h1:n<=7) (h2:z=Str.ofString (wq n)) (hb:c8 o=true) (h:aK c o b):aK c (.Attribute o z pos) (un (bp n) b):=h2▸SU h1 (f.KX H) (f.RK H) hb h
def dAttr (o:PySem.Expr) (z:Str) (pos:Pos):DE g base k e (.Attribute o z pos):=match zU z attrs,hb:c8 o with
 |some u,true=>⟨un (bp u.1) (r.E e o).1,fun c f=>ZN H f u.2.1 u.2.2 hb ((r.E e o).2 c f)⟩
 |_,_=>dE
noncomputable def P8 (e:SE):(y:PySem.Expr)->(ys:List PySem.Expr)->{v:List Tx // ∀ c,be g base k e c->zL c (y::ys) v}
 |y,[]=>⟨[(r.B e y).1],fun c f=> .one ((r.B e y).2 c f)⟩
 |y,y'::ys=>match P8 e y' ys with
  |⟨t::ts,h⟩=>⟨(r.B e y).1::t::ts,fun c f=> .cons ((r.B e y).2 c f) (h c f)⟩
  |⟨[],h⟩=>⟨[],fun c f=>(nomatch h c f)⟩
noncomputable def isB:PySem.Expr->Bool
 | .UnaryOp .Not .. =>true
 | .BoolOp .. =>true
 | .Compare .. =>true
 |_=>false
def stepB (e:SE):(x:PySem.Expr)->DV g base k e x
 | .UnaryOp .Not a _=>match isB a with
  |true=>⟨bP (r.B e a).1,fun c f=>SJ ((r.B e a).2 c f)⟩
  |false=>⟨bP (a7 (r.E e a).1),fun c f=>Rr ((r.E e a).2 c f)⟩
 | .BoolOp .And (y::ys) _=>⟨bv (P8 r e y ys).1,fun c f=>T5 ((P8 r e y ys).2 c f)⟩
 | .BoolOp .Or (y::ys) _=>⟨f5 (P8 r e y ys).1,fun c f=>Yf ((P8 r e y ys).2 c f)⟩
 | .Compare a ops cs pos=>(cmpT H r a pos ops cs).2
 |x=>⟨EY (r.E e x).1,fun c f=>RU ((r.E e x).2 c f)⟩
def stepT (e:SE):(x:PySem.Expr)->DT g base k e x
 | .UnaryOp .Not a _=>⟨bP (r.T e a).1,fun c f=>Xb ((r.T e a).2 c f)⟩
 | .BoolOp .And ys _=>⟨bv (LW e r ys).1,fun c f=>XB ((LW e r ys).2 c f)⟩
 | .BoolOp .Or ys _=>⟨f5 (LW e r ys).1,fun c f=>snd_or ((LW e r ys).2 c f)⟩
 | .Compare a ops cs pos=>(cmpT H r a pos ops cs).1
 | .Name a b=>⟨a7 (r.E e (.Name a b)).1,fun c f=>zM (fun j=>rfl) ((r.E e (.Name a b)).2 c f)⟩
 | .Attribute a b d=>⟨a7 (r.E e (.Attribute a b d)).1,fun c f=>zM (fun j=>rfl) ((r.E e (.Attribute a b d)).2 c f)⟩
 | .Subscript a b d=>⟨a7 (r.E e (.Subscript a b d)).1,fun c f=>zM (fun j=>rfl) ((r.E e (.Subscript a b d)).2 c f)⟩
 | .Call a b d p=>⟨a7 (r.E e (.Call a b d p)).1,fun c f=>zM (fun j=>rfl) ((r.E e (.Call a b d p)).2 c f)⟩
 |_=>EI
end
section
variable {g:G} {base:Heap} {k:Nat} {mg mb:Str->Option Value} {bn:List Str} {T:lV} {e:SE} {x:PySem.Expr} {c:aS} {z:Str} {np pos:Pos} {es:List PySem.Expr} {as:List Ex} {F:Fn} {a:Addr}
variable (r:Gx g base k) (H:bH g base mg mb bn) (t:aq g base k T)
abbrev HdP (g:G) (base:Heap) (k:Nat) (p:Str×String):Prop:=∀ e c,be g base k e c->e.glob p.1=true->dh c p.1 (.type p.2)
theorem Uw (H:bH g base mg mb bn) {z:Str} {s:String} (h1:(z==("__debug__" :Str))=false) (h2:z≠ "__name__") (h3:z∈bn) (h4:bootBuiltins z=some (.type s)):HdP g base k (z,s):=fun j j f hz=>f.built H hz h1 h2 h3 h4
noncomputable def hR:{p:Str×String // HdP g base k p}:=⟨(Str.ofString "range", "range"),Uw H (by decide) (by decide) (H.bn _ (by simp)) (by decide+kernel)⟩
noncomputable def hE:{p:Str×String // HdP g base k p}:=⟨(Str.ofString "enumerate", "enumerate"),Uw H (by decide) (by decide) (H.bn _ (by simp)) (by decide+kernel)⟩
include H in
theorem hr1 {y:PySem.Expr} {v:Ex} (f:be g base k e c) (hz:z=Str.ofString "range") (hg:e.glob z=true) (hn:bI y=true) (h:aK c y v):mo c (.Call (.Name z np) [y] [] pos) (gO (aN (.int (.ofNat 0))) v):=by subst hz;exact Uj ((hR H).2 e c f hg) hn h
include H in
theorem hr2 {y y':PySem.Expr} {v v':Ex} (f:be g base k e c) (hz:z=Str.ofString "range") (hg:e.glob z=true) (hn:bI y=true) (hn':bI y'=true) (h:aK c y v) (h':aK c y' v'):mo c (.Call (.Name z np) [y,y'] [] pos) (gO v v'):=by subst hz;exact Uk ((hR H).2 e c f hg) hn hn' h h'
include H in
theorem he1 {y:PySem.Expr} {v:Ex} (f:be g base k e c) (hz:z=Str.ofString "enumerate") (hg:e.glob z=true) (hn:bI y=true) (h:aK c y v):mo c (.Call (.Name z np) [y] [] pos) (HW v):=by subst hz;exact ST ((hE H).2 e c f hg) hn h
def dHc (z:Str) (np pos:Pos):(es:List PySem.Expr)->Option (DH g base k e (.Call (.Name z np) es [] pos))
 |[y]=>match hg:e.glob z,hn:bI y with
  |true,true=>match h1:decide (z=Str.ofString "range"),h2:decide (z=Str.ofString "enumerate") with
   |true,_=>some ⟨gO (aN (.int (.ofNat 0))) (r.E e y).1,fun c f=>hr1 H f (cw h1) hg hn ((r.E e y).2 c f)⟩
   |_,true=>some ⟨HW (r.E e y).1,fun c f=>he1 H f (cw h2) hg hn ((r.E e y).2 c f)⟩
   |_,_=>none
  |_,_=>none
 |[y,y']=>match hg:e.glob z,hn:bI y,hn':bI y',h1:decide (z=Str.ofString "range") with
  |true,true,true,true=>some ⟨gO (r.E e y).1 (r.E e y').1,fun c f=>hr2 H f (cw h1) hg hn hn' ((r.E e y).2 c f) ((r.E e y').2 c f)⟩
  |_,_,_,_=>none
 |_=>none
def hOfD (e:SE) (x:PySem.Expr):DH g base k e x:=⟨di (r.E e x).1,fun c f=>MM ((r.E e x).2 c f)⟩
def stepH (e:SE):(x:PySem.Expr)->DH g base k e x
 | .Call (.Name z np) es [] pos=>(dHc r H z np pos es).getD (hOfD r e _)
 |x=>hOfD r e x
def stepE (e:SE):(x:PySem.Expr)->DE g base k e x
 | .Constant v n pos=>dC n pos v
 | .Name z pos=>dN H t z pos
 | .BinOp a op b _=>match binOf op with
  |some o=>⟨af o.1 (r.E e a).1 (r.E e b).1,fun c f=>XI (o.2 c) ((r.E e a).2 c f) ((r.E e b).2 c f)⟩
  |none=>dE
 | .UnaryOp .USub a _=>⟨un ey (r.E e a).1,fun c f=>LF ((r.E e a).2 c f)⟩
 | .IfExp y a b _=>⟨dj (r.T e y).1 (r.E e a).1 (r.E e b).1,fun c f=>YL ((r.T e y).2 c f) ((r.E e a).2 c f) ((r.E e b).2 c f)⟩
 | .Tuple es _ _=>match dL e r es with
  |some l=>⟨ah l.1,fun c f=>WC (l.2 c f)⟩
  |none=>dE
 | .List es _=>match dL e r es with
  |some l=>⟨aZ l.1,fun c f=>Xz (l.2 c f)⟩
  |none=>dE
 | .Dict ks vs _=>match QE r ks vs,h:decide (ks.length<=15) with
  |some l,true=>⟨mH l.1,fun c f=>W7 (l.2 c f) (cw h)⟩
  |_,_=>dE
 | .ListComp elt gs s pos=>Qh r elt s pos gs
 | .Attribute o z pos=>dAttr r H o z pos
 | .Subscript v s pos=>Sj r H v pos s
 | .Call fx es [] pos=>dCall r H t es pos fx
 |x=>toE (r.B e x)
def den (n:Nat):Gx g base k:=n.rec ⟨fun j j=>dE,fun j j=>EI,fun j j=>Ea,fun j j=>⟨di d7,fun c f=>MM (dE.2 c f)⟩⟩ fun j r=>⟨stepE r H t,stepT r H,stepB r H,stepH r H⟩
end
section
variable {g:G} {base:Heap} {k:Nat} {mg mb:Str->Option Value} {bn:List Str} {T:lV} {e:SE} {x:PySem.Expr} {c:aS} {z:Str} {pos' pos:Pos} {es:List PySem.Expr} {as:List Ex} {F:Fn} {a:Addr}
variable (r:Gx g base k) (H:bH g base mg mb bn) (t:aq g base k T)
theorem sw4 {α:Type} {b0 b1 b2 b3 b4 b5:Bool} {p q:α} {u:α} (h0:b0=false) (h:(b1 || b2 || b3 || b4 || !b5)=true):(if (b1 || b0)=true then p else if b2=true then p else if b3=true then p else if b4=true then p else if b5=true then u else q)=p\/(if (b1 || b0)=true then p else if b2=true then p else if b3=true then p else if b4=true then p else if b5=true then u else q)=q:=by
 subst h0
 cases b1 with
 |true=>exact .inl rfl
 |false=>cases b2 with
  |true=>exact .inl rfl
  |false=>cases b3 with
   |true=>exact .inl rfl
   |false=>cases b4 with
    |true=>exact .inl rfl
    |false=>cases b5 with
     |true=>cases h
     |false=>exact .inr rfl
noncomputable def zK (ts:List PySem.Expr) (sc:Scope):List Str:=ts.filterMap fun
  | .Name id pos=>if sc.names.lookup id==some .local && pos.line==(ts.head?.map (·.pos.line)).getD 0 then some id else none
  |_=>none
def swOk (ts:List PySem.Expr) (sc:Scope) (ns:List Str):PySem.Expr->Bool
 | .Tuple vs _ _=>((!(ts.length==2 || ts.length==3) || vs.length !=ts.length) || (vs.any fun | .Starred .. =>true |_=>false) || ((zK ts sc).length !=ts.length || (zK ts sc).eraseDups.length !=(zK ts sc).length) || vs.all (foldedForSure 8) || !(vs.all (constantsAlone 8))) && decide (zK ts sc=ns)
 |_=>true
theorem Ye {ts:List PySem.Expr} {k:Nat} {tp:Pos} {ns:List Str} {env:Env} {e:PySem.Expr} (hk:env.scope.kind= .function) (h:swOk ts env.scope ns e=true):swappedStores [.Tuple ts k tp] e env=pure none\/swappedStores [.Tuple ts k tp] e env=pure (some ns):=by
 cases e with
 |Tuple _ _ _=>exact cw (cp.mp h).2▸sw4 (by unfold Env.blockKind;rw [hk];rfl) (cp.mp h).1
 |_=>exact .inl rfl
abbrev DS (g:G) (base:Heap) (k:Nat) (e:SE) (x:Stmt):={v:Sx // ∀ c,be g base k e c->∀ L outer,mi c L outer->fJ c x v}
abbrev DB (g:G) (base:Heap) (k:Nat) (e:SE) (x:List Stmt):={v:Sx // ∀ c,be g base k e c->∀ L outer,mi c L outer->k9 c x v}
def gS {x:Stmt}:DS g base k e x:=⟨badS,fun j j j j j j j j j j j j f=>f.elim⟩
def dB (d:∀ x,DS g base k e x):(b:List Stmt)->DB g base k e b
 |[]=>⟨ae,fun j j j j j=>LD⟩
 |x::b=>⟨sq (d x).1 (dB d b).1,fun c f L o t=>TY ((d x).2 c f L o t) ((dB d b).2 c f L o t)⟩
def dSet (z:Str) (pos' pos:Pos):(v:PySem.Expr)->DS g base k e (.Assign [.Name z pos'] v pos)
 | .ListComp elt [⟨tgt,iter,am,i⟩] s _=>match hz:e.slot z,hi:decide (i=0),V2 r (e:=e) elt s tgt iter am with
  |some n,true,some d=>⟨set n (eG d.h d.tg d.t d.y),fun c f j j j=>have ⟨a1,a2,a3,a4⟩:=d.ok c f;cw hi▸Rt (f.slot hz) a1 a2 a3 (fun cl C Z=>(a4 cl C Z).1) (fun cl C Z=>(a4 cl C Z).2.1) fun cl C Z=>(a4 cl C Z).2.2⟩
  |_,_,_=>gS
 |v=>match hz:e.slot z,pv:dJ v with
  |some n,true=>⟨set n (r.E e v).1,fun c f j j j=>Wy pv (f.slot hz) ((r.E e v).2 c f)⟩
  |_,_=>gS
abbrev StP (g:G) (base:Heap) (k:Nat) (p:Str×(V->V->av->ai->RS)):Prop:=∃ n,p.1=Str.ofString n/\∀ e c,be g base k e c->CW c n p.2
def stats:List {p:Str×(V->V->av->ai->RS) // StP g base k p}:=[⟨(Str.ofString "at",NO),_,rfl,fun j j f=>ZY (f.KX H) (f.RK H)⟩,⟨(Str.ofString "family",M8),_,rfl,fun j j f=>WQ (f.KX H) (f.RK H)⟩,⟨(Str.ofString "table",OT),_,rfl,fun j j f=>W4 (f.KX H) (f.RK H)⟩]
theorem aaI {o v:PySem.Expr} {b a:Ex} {F:V->V->av->ai->RS} (f:be g base k e c) (h:StP g base k (z,F)) (pv:dJ v=true) (h1:aK c o b) (h2:aK c v a):fJ c (.Assign [.Attribute o z pos'] v pos) (Fe F b a):=
 let ⟨_,h3,h4⟩:=h
 (show z=_ from h3)▸Sc (h4 e c f) pv h1 h2
def dAsg (v:PySem.Expr) (pos:Pos) (pv:dJ v=true):(t:PySem.Expr)->DS g base k e (.Assign [t] v pos)
 | .Tuple ts _ _=>match Ij (g:=g) (base:=base) (k:=k) (e:=e) ts with
  |some d=>match hn:decide d.1.2.Nodup,hw:swOk ts e.sc d.1.1 v with
   |true,true=>⟨fu d.1.2 (r.E e v).1,fun c f j j j=>WW pv (d.2 c f) (cw hn) ((r.E e v).2 c f) (Ye f.Ev.kind (f.scope.symm▸hw))⟩
   |_,_=>gS
  |none=>gS
 | .Attribute o z _=>match zU z (stats H) with
  |some u=>⟨Fe u.1 (r.E e o).1 (r.E e v).1,fun c f j j j=>aaI f u.2 pv ((r.E e o).2 c f) ((r.E e v).2 c f)⟩
  |none=>gS
 | .Subscript o i _=>⟨dF (r.E e o).1 (r.E e i).1 (r.E e v).1,fun c f j j j=>R6 pv ((r.E e v).2 c f) ((r.E e o).2 c f) ((r.E e i).2 c f)⟩
 |_=>gS
abbrev DIn (op:Operator):={f:V->V->ai->RE V // ∀ c,Oq c op f}
def inOf:(op:Operator)->Option (DIn op)
 | .Add=>some ⟨jl,fun j=>in_add⟩
 | .Sub=>some ⟨dQ,fun j=>in_sub⟩
 |_=>none
def dAug (op:Operator) (v:PySem.Expr) (pos:Pos) (z:Str) (pos':Pos):DS g base k e (.AugAssign (.Name z pos') op v pos):=match hz:e.slot z,inOf op,hc:z==("__classdict__" :Str) with
 |some n,some o,false=>⟨nE n o.1 (r.E e v).1,fun c f j j j=>XE (o.2 c) (f.slot hz) hc ((r.E e v).2 c f)⟩
 |_,_,_=>gS
def dAt (o:PySem.Expr) (z:Str) (pos':Pos) (n:Nat) (p1 pos:Pos):(op:Operator)->DS g base k e (.AugAssign (.Attribute o z pos') op (.Constant (.int 1) n p1) pos)
 | .Add=>match h:decide (z=Str.ofString "at") with
  |true=>⟨Pp (r.E e o).1,fun c f j j j=>cw h▸Xn (f.KX H) (f.RK H) ((r.E e o).2 c f)⟩
  |false=>gS
 | .Sub=>match h:decide (z=Str.ofString "at") with
  |true=>⟨R0 (r.E e o).1,fun c f j j j=>cw h▸TQ (f.KX H) (f.RK H) ((r.E e o).2 c f)⟩
  |false=>gS
 |_=>gS
def stepS (d:∀ x,DS g base k e x):(x:Stmt)->DS g base k e x
 | .Assign [.Name z pos'] v pos=>dSet r z pos' pos v
 | .Assign [y] v pos=>match pv:dJ v with
  |true=>dAsg r H v pos pv y
  |false=>gS
 | .AugAssign (.Name z pos') op v pos=>dAug r op v pos z pos'
 | .AugAssign (.Attribute o z pos') op (.Constant (.int 1) n p1) pos=>dAt r H o z pos' n p1 pos op
 | .Expr v _=>match pv:dJ v with
  |true=>⟨aE (r.E e v).1,fun c f j j j=>YB pv ((r.E e v).2 c f)⟩
  |false=>gS
 | .If y a b _=>⟨am (r.T e y).1 (dB d a).1 (dB d b).1,fun c f L o h=>snd_if ((r.T e y).2 c f) ((dB d a).2 c f L o h) ((dB d b).2 c f L o h)⟩
 | .While y b [] _=>⟨wh (r.T e y).1 (dB d b).1,fun c f L o h=>Pi h ((r.T e y).2 c f) ((dB d b).2 c f L o h)⟩
 | .For tgt it b [] _=>match aah (g:=g) (base:=base) (k:=k) (e:=e) tgt,hs:Ki it with
  |some tg,true=>⟨cI (r.H e it).1 tg.1 (dB d b).1,fun c f L o h=>XT h (GN hs) ((r.H e it).2 c f) (tg.2 c f) ((dB d b).2 c f L o h)⟩
  |_,_=>gS
 | .Return (some v) _=>⟨al (r.E e v).1,fun c f j j j=>WO ((r.E e v).2 c f)⟩
 | .Return none _=>⟨al (aN .none),fun j j j j j=>SA⟩
 | .Break _=>⟨brk,fun j j j j j=>WV⟩
 | .Raise (some v) none _=>⟨aV (r.E e v).1,fun c f j j j=>Pn (f.B H) (f.bt H) ((r.E e v).2 c f)⟩
 |_=>gS
def dS (e:SE) (n:Nat):∀ x,DS g base k e x:=n.rec (fun j=>gS) fun j d=>stepS r H d
end
section
section
variable {g:G} {base:Heap} {k:Nat} {mg mb:Str->Option Value} {bn:List Str} {T:lV} {f cd:Addr} {st:Stmt} {qual x:Str} {dfl pm:Value} {ns names:List Str} {ps:List (Option I)} {b:Sx} {n:Nat} {fd:FuncData} {F:Fn} {D:fj}
def FH (H:bH g base mg mb bn) (t:aq g base k T) (st:Stmt) (names:List Str):DB g base k ⟨dZ st,pG names⟩ (hA st):=dB (dS (den H t 40) H _ 40) _
theorem Py {l:List Str} {n:Nat}:((l.zipIdx n).map (·.2)).Nodup:=by
 rw [List.zipIdx_map_snd]
 exact List.nodup_range'
abbrev JF (st:Stmt):Prop:=∀ p∈(dZ st).names,p.2≠ .free
theorem B5 {L:Addr} {c:aS} (DO:gh base f (tF st qual dfl pm cd) (hA st) ns (pG names)) (hf:JF st) (h0:c.g=g) (h1:c.base=base) (h2:k<=c.d) (h3:c.env=callEnvC (tF st qual dfl pm cd) L f) (h5:c.ρ=pG names):be g base k ⟨dZ st,pG names⟩ c:=
 ⟨h0,h1,h3▸rfl,h5,Py,fun x q=>h3▸DO.cell (n:=L+1) (q.resolve_right fun q=>hf _ (bQ q) rfl),⟨h3▸DO.kind,h3▸rfl,h3▸rfl⟩,h2⟩
def kI (base:Heap) (f:Addr):Prop:=∃ ob fd,base.get? f=some ob/\ob.data= .func fd
theorem Do (H:bH g base mg mb bn) (t:aq g base k T) (hl:(K g.w.params).lookup f=some (fO st qual dfl pm cd)) (hc:codeIn (K g.w.params) (.ref cd) qual=true) (hk:qJ st ns names/\JF st)
  (hd:uQ g.D base (tF st qual dfl pm cd) ns ps):bE g base (k+1) f (fn ps (FH H t st names).1)/\kI base f:=
 have DO:=gh.of H.B.X hl hc hk.1
 ⟨Tw DO hd fun c' L outer h0 h1 h2 h3 h4 h5=>(FH H t st names).2 c' (B5 DO hk.2 h0 h1 h2 h3 h5) L outer ⟨h4,h3▸rfl⟩,let ⟨o,ho,hd⟩:=DO.ob;⟨o,_,ho,hd⟩⟩
theorem OA {n:Nat} {vs:List V} {l:av} (e:jP (List.replicate n none) vs=some l):l=vs.map some/\vs.length=n:=by
 induction n generalizing vs l with
 |zero=>cases vs with
  |nil=>cases e;exact ⟨rfl,rfl⟩
  |cons=>cases e
 |succ n ih=>cases vs with
  |nil=>cases e
  |cons v vs=>
   change (match jP (List.replicate n none) vs with |some l=>some (some v::l) |none=>none)=some l at e
   cases q:jP (List.replicate n none) vs with
   |none=>rw [q] at e;cases e
   |some l'=>rw [q] at e;cases e;exact ⟨aM (some v::·) (ih q).1,aM Nat.succ (ih q).2⟩
theorem pj (h:ML fd ns n) (hn:ns.length=n):uQ D base fd ns (List.replicate n none):=fun vs ys s φ l0 j r e=>
 have ⟨a,b⟩:=OA e
 have l:ys.length=n:=r.len.symm.trans b
 ⟨vs,ys,a,l.trans hn.symm,r,BindsTo.of_eq (Mx h l)⟩
theorem TU {X:Addr} {o:Obj} {i:Int} {tk:Tok} (ho:base.get? X=some o) (hn:ns.length=2) (h1:∀ (s:Shared) y,s.heap.get? X=some o->BindsTo s fd ⟨[y],[]⟩ (ns.zip [y,.int i tk])) (h2:∀ (s:Shared) y z,s.heap.get? X=some o->BindsTo s fd ⟨[y,z],[]⟩ (ns.zip [y,z])):uQ D base fd ns [none,some (.int i)]:=fun vs ys s φ l0 st r e=>by
 cases r with
 |nil=>cases e
 |cons r1 r=>cases r with
  |nil=>cases e;exact ⟨[_,.i (.int i)],[_,.int i tk],rfl,hn.symm,.cons r1 (.cons (.i (.int _ _)) .nil),h1 _ _ (st _ _ ho)⟩
  |cons r2 r=>cases r with
   |nil=>cases e;exact ⟨[_,_],[_,_],rfl,hn.symm,.cons r1 (.cons r2 .nil),h2 _ _ _ (st _ _ ho)⟩
   |cons=>cases e
theorem aq.up (t:aq g base k T):aq g base (k+1) T:=
 ⟨fun x a F h=>let ⟨a,b,c,d⟩:=t.fs x a F h;⟨a,b,c,d.up (iD _)⟩,fun x a F h=>let ⟨a,b,c,d,e⟩:=t.ms x a F h;⟨a,b,c,d,e.up (iD _)⟩,t.gs⟩
theorem uf {α:Type} {x y:Str} {a b:α} {l:List (Str×α)} {P:Str->α->Prop} (h:((x,a)::l).lookup y=some b) (h1:P x a) (h2:l.lookup y=some b->P y b):P y b:=by
 rw [rg] at h
 cases e:y==x with
 |true=>rw [e] at h;cases h;exact n9 e▸h1
 |false=>rw [e] at h;exact h2 h
noncomputable def aA (T:lV) (x:Str) (f:Addr) (F:Fn):lV:=⟨(x,f,F)::T.fs,T.ms,T.gs⟩
noncomputable def rz (T:lV) (x:Str) (f:Addr) (F:Fn):lV:=⟨T.fs,(x,f,F)::T.ms,T.gs⟩
theorem aq.fn (t:aq g base k T) (h:bE g base (k+1) f F/\kI base f) (hx:nsIn (K g.w.params) mainGlobals x=some (some (.ref f))) (hd:(x==("__debug__" :Str))=false):aq g base (k+1) (aA T x f F):=
 ⟨fun y a F q=>uf (b:=(a,F)) (P:=fun y z=>nsIn (K g.w.params) mainGlobals y=some (some (.ref z.1))/\(y==("__debug__" :Str))=false/\kI base z.1/\bE g base (k+1) z.1 z.2) q ⟨hx,hd,h.2,h.1⟩ (t.up.fs y a F),t.up.ms,t.gs⟩
theorem aq.me (t:aq g base k T) (h:bE g base (k+1) f F/\kI base f) (hx:findIn (K g.w.params) (.ref g.D.rd) x=some (some (.ref f))) (ht:typeIn (K g.w.params) (.ref f)=some (.type "function"))
  (na:∀ tok at' tg kno fv tv,dD [("tokens",tok),("at",at'),("tongue",tg),("known",kno),("family",fv),("table",tv)] x=none):aq g base (k+1) (rz T x f F):=
 ⟨t.up.fs,fun y a F q=>uf (b:=(a,F)) (P:=fun y z=>findIn (K g.w.params) (.ref g.D.rd) y=some (some (.ref z.1))/\typeIn (K g.w.params) (.ref z.1)=some (.type "function")/\
  (∀ tok at' tg kno fv tv,dD [("tokens",tok),("at",at'),("tongue",tg),("known",kno),("family",fv),("table",tv)] y=none)/\kI base z.1/\bE g base (k+1) z.1 z.2) q ⟨hx,ht,na,h.2,h.1⟩ (t.up.ms y a F),t.gs⟩
noncomputable def vf (F:Frag) (f:Addr):Value:=match F.lookup f with
 |some o=>match o.data with
  | .func fd=>fd.pyModule
  |_=> .none
 |none=> .none
def uB (x:Str) (s:Stmt) (n:Nat) (names:List Str):Prop:=(qJ s (names.take n) names/\JF s)/\(names.take n).length=n/\(x==("__debug__" :Str))=false
noncomputable instance (x:Str) (s:Stmt) (n:Nat) (names:List Str):Decidable (uB x s n names):=by unfold uB;infer_instance
def ZA (H:bH g base mg mb bn) (t:aq g base k T) (x:Str) (f:Addr) (s:Stmt) (n:Nat) (names:List Str):=
 ((K g.w.params).lookup f,codeIn (K g.w.params) (.ref (f - 1)) x,decide (uB x s n names),GJ n (fun ys=>bindArgs (tF s x .none (vf (K g.w.params) f) (f - 1)) ⟨ys,[]⟩),fn (List.replicate n none) (FH H t s names).1,nsIn (K g.w.params) mainGlobals x)
def aaS (g:G) (x:Str) (f:Addr) (s:Stmt) (n:Nat) (names:List Str) (F:Fn):=
 (some (fO s x .none (vf (K g.w.params) f) (f - 1)),true,true,GJ n (fun ys=>(pure ((names.take n).zip ys):Sem (List (Str×Value)))),F,some (some (Value.ref f)))
theorem aR (H:bH g base mg mb bn) (t:aq g base k T) (x:Str) (f:Addr) (s:Stmt) (n:Nat) (names:List Str) (F:Fn) (h:ZA H t x f s n names=aaS g x f s n names F:=by kernel_rfl):aq g base (k+1) (aA T x f F):=
 have a:=aT h
 have b:=aT a.2
 have c:=aT b.2
 have d:=aT c.2
 have e:=aT d.2
 have ⟨h1,h2,h3⟩:=cw c.1
 t.fn (e.1▸Do H t a.1 b.1 h1 (pj d.1 h2)) e.2 h3
def rowM (H:bH g base mg mb bn) (t:aq g base k T) (x q:Str) (f:Addr) (s:Stmt) (n:Nat) (names:List Str):=
 ((K g.w.params).lookup f,codeIn (K g.w.params) (.ref (f - 1)) q,decide (uB x s n names),GJ n (fun ys=>bindArgs (tF s q .none (vf (K g.w.params) f) (f - 1)) ⟨ys,[]⟩),fn (List.replicate n none) (FH H t s names).1,findIn (K g.w.params) (.ref g.D.rd) x,typeIn (K g.w.params) (.ref f),
  fun tok at' tg kno fv tv=>dD [("tokens",tok),("at",at'),("tongue",tg),("known",kno),("family",fv),("table",tv)] x)
def rowN (g:G) (q:Str) (f:Addr) (s:Stmt) (n:Nat) (names:List Str) (F:Fn):=
 (some (fO s q .none (vf (K g.w.params) f) (f - 1)),true,true,GJ n (fun ys=>(pure ((names.take n).zip ys):Sem (List (Str×Value)))),F,some (some (Value.ref f)),some (Value.type "function"),
  fun (_ _ _ _ _ _:Value)=>(none:Option Value))
theorem G2 (H:bH g base mg mb bn) (t:aq g base k T) (x q:Str) (f:Addr) (s:Stmt) (n:Nat) (names:List Str) (F:Fn) (h:rowM H t x q f s n names=rowN g q f s n names F:=by kernel_rfl):aq g base (k+1) (rz T x f F):=
 have a:=aT h
 have b:=aT a.2
 have c:=aT b.2
 have d:=aT c.2
 have e:=aT d.2
 have j:=aT e.2
 have m:=aT j.2
 have ⟨h1,h2,_⟩:=cw c.1
 t.me (e.1▸Do H t a.1 b.1 h1 (pj d.1 h2)) j.1 m.1 fun u v w x y z=>congrFun (congrFun (congrFun (congrFun (congrFun (congrFun m.2 u) v) w) x) y) z
end
end
section
noncomputable def fdA:Nat->Addr
 |0=>1097 |1=>1106 |2=>1113 |3=>1098 |4=>1100 |5=>1102 |_=>1104
def DD (la:Addr) (lv:List (Int×Tok)):fj:=⟨502,102,71,786,fdA,la,lv⟩
section
variable {la:Addr} {lv:List (Int×Tok)} {F:Frag} {h:Heap} {P:Params}
theorem B7 {a b:Bool} (q:(a && b)=true):a=true:=(cp.mp q).1
theorem Bv {a b:Bool} (q:(a && b)=true):b=true:=(cp.mp q).2
abbrev IC (la:Addr) (lv:List (Int×Tok)) (h:Heap) (x:I) (v:Value):={b:Bool // b=true->aX (DD la lv) h x v}
noncomputable def UJ (f:∀ x v,IC la lv h x v):(xs:List I)->(vs:List Value)->{b:Bool // b=true->IReps (DD la lv) h xs vs}
 |[],[]=>⟨true,fun j=> .nil⟩
 |x::xs,v::vs=>⟨(f x v).1 && (UJ f xs vs).1,fun q=> .cons ((f x v).2 (B7 q)) ((UJ f xs vs).2 (Bv q))⟩
 |_,_=>⟨false,nofun⟩
theorem irT {a:Addr} {c:String} {m:Option Addr} {vs:Array Value} {n:Nat} {z:Array (Option Value)} {xs:List I} (X:F.In h) (ho:F.lookup a=some ⟨.type c,m,.seq vs n,z⟩) (hc:(c== "tuple")=true) (hl:xs.length<=aJ) (r:IReps (DD la lv) h xs vs.toList):aX (DD la lv) h (.tup xs) (.ref a):=
 .tup ⟨_,X _ _ ho,aM Value.type (n9 hc),_,rfl⟩ hl r
def UM (X:F.In h) (n:Nat):∀ x v,IC la lv h x v:=n.rec (fun u u=>⟨false,nofun⟩) fun u rec x v=>match x,v with
 | .none,.none=>⟨true,fun u=> .none⟩
 | .int i,.int j t=>⟨decide (i=j),fun q=>cw q▸ .int _ _⟩
 | .str s,.str ⟨y⟩ t=>⟨decide (y=s.toArray/\dH s),fun q=>(cw q).1▸ .str _ _ (cw q).2⟩
 | .fd n,.ref a=>⟨decide (a=fdA n),fun q=>cw q▸ .fd _⟩
 | .fn,.ref a=>⟨decide (a=786),fun q=>cw q▸ .fn⟩
 | .tup xs,.ref a=>match ho:F.lookup a with
  |some ⟨.type c,_,.seq vs _,_⟩=>⟨(c== "tuple" && decide (xs.length<=aJ)) && (UJ rec xs vs.toList).1,fun q=>irT X ho (B7 (B7 q)) (cw (Bv (B7 q))) ((UJ rec xs vs.toList).2 (Bv q))⟩
  |_=>⟨false,nofun⟩
 |_,_=>⟨false,nofun⟩
theorem erC {y:Array Nat} {s:T} {v:Value} {x:I} {kvs:List (I×I)} {es:List (Str×Value)} (q1:y=s.toArray/\dH s) (q2:aX (DD la lv) h x v) (r:cW (DD la lv) h kvs es):cW (DD la lv) h ((.str s,x)::kvs) ((⟨y⟩,v)::es):=q1.1▸ .cons q1.2 q2 r
def Va (X:F.In h):(kvs:List (I×I))->(es:List (Str×Value))->{b:Bool // b=true->cW (DD la lv) h kvs es}
 |[],[]=>⟨true,fun j=> .nil⟩
 |(.str s,x)::kvs,(⟨y⟩,v)::es=>⟨decide (y=s.toArray/\dH s) && ((UM (la:=la) (lv:=lv) X 6 x v).1 && (Va X kvs es).1),fun q=>erC (cw (B7 q)) ((UM X 6 x v).2 (B7 (Bv q))) ((Va X kvs es).2 (Bv (Bv q)))⟩
 |_,_=>⟨false,nofun⟩
end
section
variable {la:Addr} {lv:List (Int×Tok)} {g:G} {base:Heap} {mg mb:Str->Option Value} {bn:List Str} {p:Program} {w:World}
noncomputable abbrev enT (P:Params) (e:Str×Tok×Value):DictEntry:=en P e.1 e.2.1 e.2.2
theorem IY:∀ {es:List (Str×Tok×Value)},Pairs (strKind p w) (es.map (enT w.params)) (es.map fun e=>(e.1,e.2.2))
 |[]=> .nil
 |e::_=> .cons (ES e.1) rfl IY
theorem Yu {es:List (Str×Tok×Value)}:∀ e∈es.map (enT w.params),∃ k,(strKind p w).is k e.key=true/\e.hash=(strKind p w).hash k:=fun j m=>
 let ⟨a,_,q⟩:=cZ.mp m
 ⟨a.1,q▸ES a.1,q▸rfl⟩
theorem l7 (X:(K w.params).In base) (a:Addr) (es:List (Str×Tok×Value)) (n:Nat) (kvs:List (I×I)) (hl:(K w.params).lookup a=some ⟨.type "dict",none,.dict (es.map (enT w.params)).toArray n,#[]⟩) (hr:(Va (la:=la) (lv:=lv) X kvs (es.map fun e=>(e.1,e.2.2))).1=true) (nd:decide ((es.map fun e=>(e.1,e.2.2)).map (·.1)).Nodup=true):
  ∃ xs,base.DictOf (strKind p w) a xs/\cW (DD la lv) base kvs xs:=
 ⟨_,⟨_,_,_,X _ _ hl,⟨rfl,rfl,rfl⟩,rfl,fun e m=>Yu e (List.mem_toArray.mp m),IY,cw nd⟩,(Va X kvs _).2 hr⟩
theorem wr_ok (X:(K w.params).In base) (h1:∃ o,base.get? 1=some o) (hl:base.IsList la (lv.map fun p=>Value.int p.1 p.2).toArray) (hll:lv.length<=aJ):Wr ⟨p,w,DD la lv⟩ base:=by
 refine ⟨fun n hn=>?_,fun n hn=>?_,h1,hl,hll⟩
 ·match n,hn with
  |0,_=>exact l7 X 1097 [(S "ipv4_addr",1709,.ref 1099),(S "inet_service",1713,.ref 1101),(S "inet_proto",1720,.ref 1103),(S "integer",1730,.ref 1105)] 4 (FD 0) (by kernel_rfl) (by kernel_rfl) (by kernel_rfl)
  |1,_=>exact l7 X 1106 [(S "ip saddr",1739,.ref 1108),(S "tcp dport",1747,.ref 1110)] 2 (FD 1) (by kernel_rfl) (by kernel_rfl) (by kernel_rfl)
  |2,_=>exact l7 X 1113 [(S "ipv4_addr",1772,.ref 1117),(S "inet_service",1782,.ref 1121)] 2 (FD 2) (by kernel_rfl) (by kernel_rfl) (by kernel_rfl)
  |3,_=>exact l7 X 1098 [] 0 (FD 3) (by kernel_rfl) (by kernel_rfl) (by kernel_rfl)
  |4,_=>exact l7 X 1100 [(S "ssh",1717,.int 22 1718)] 1 (FD 4) (by kernel_rfl) (by kernel_rfl) (by kernel_rfl)
  |5,_=>exact l7 X 1102 [(S "tcp",1724,.int 6 1725),(S "udp",1726,.int 17 1727)] 2 (FD 5) (by kernel_rfl) (by kernel_rfl) (by kernel_rfl)
  |6,_=>exact l7 X 1104 [] 0 (FD 6) (by kernel_rfl) (by kernel_rfl) (by kernel_rfl)
  |n+7,h=>exact absurd h (EC (ib 7 n))
 ·match n with
  |0 |1 |2 |3 |4 |5=>exact cw rfl
  |n+6=>exact cw rfl
theorem rdK_ok (P:Params):sM (K P) (DD la lv):=by
 refine ⟨⟨by kernel_rfl,by kernel_rfl,by kernel_rfl,by kernel_rfl,by kernel_rfl⟩,⟨by kernel_rfl,by kernel_rfl,by kernel_rfl,by kernel_rfl,by kernel_rfl⟩,b9.mpr ⟨?_,b9.mpr ⟨?_,b9.mpr ⟨?_,b9.mpr ⟨?_,b9.mpr ⟨?_,b9.mpr ⟨?_,nofun⟩⟩⟩⟩⟩⟩,b9.mpr ⟨?_,b9.mpr ⟨?_,nofun⟩⟩⟩<;>(show findIn _ _ _=_;kernel_rfl)
theorem aaD (B:dw w base mg mb bn) (h1:∃ o,base.get? 1=some o) (hl:base.IsList la (lv.map fun p=>Value.int p.1 p.2).toArray) (hll:lv.length<=aJ) (hb:∀ x,x∈([("Exception" :Str),Str.ofString "len",Str.ofString "ord",Str.ofString "str",Str.ofString "tuple",Str.ofString "list",Str.ofString "range",Str.ofString "sorted",Str.ofString "enumerate"]:List Str)->x∈bn):bH ⟨p,w,DD la lv⟩ base mg mb bn:=
 ⟨B,wr_ok B.X h1 hl hll,rdK_ok _,rfl,by kernel_rfl,hb⟩
abbrev GsP (P:Params) (la:Addr) (lv:List (Int×Tok)) (p:Str×I):Prop:=∃ y,nsIn (K P) mainGlobals p.1=some (some y)/\(p.1==("__debug__" :Str))=false/\∀ h,(K P).In h->aX (DD la lv) h p.2 y
theorem nG {P:Params} (x:Str) (i:I) (y:Value) (h1:nsIn (K P) mainGlobals x=some (some y):=by kernel_rfl) (h2:(x==("__debug__" :Str))=false:=by kernel_rfl) (h3:∀ h X,(UM (la:=la) (lv:=lv) (F:=K P) (h:=h) X 12 i y).1=true:=by intros;kernel_rfl):GsP P la lv (x,i):=⟨y,h1,h2,fun h X=>(UM X 12 i y).2 (h3 h X)⟩
def Zn:List (Str×I):=[("_law_families",fk),("_law_hooks",AC),("_law_rules",sY),("_law_faults",eJ),("_law_types",.fd 0),("_law_fields",.fd 1),("_law_keys",.fd 2),("read_judgement",.fn)]
end
end
end Mine
end
noncomputable section
namespace Mine
section
section
variable {pre rest:List I} {kn:List (I×I)} {fam tab x:I} {a:Nat}
theorem nth_at:Ee (pre.reverse++rest) (.ofNat (pre.length+a))=rest[a]?:=
 (wz (by rw [Gu];exact mr _ _)).trans (by rw [Gu,Nat.add_sub_cancel_left])
def Vw (b:Bool):Sx:=sq (am (fun j σ=> .ok b σ) (sq (set 2 (af dQ (un bC (un (bp 0) (aa 0))) (ci 1))) ae) ae) (sq (al (af ag (un (bp 0) (aa 0)) (aa 2))) ae)
theorem Iz {b:Bool} (h:decide (Int.ofNat (pre.length+rest.length)<=Int.ofNat (pre.length+a))=b) {k:Nat} {t:Int} (ht:Vw b [some (.ref 0),some (.i (.int (.ofNat a))),some (.i (.int (.ofNat (pre.length+a))))] [.rd pre rest kn fam tab]=sq (al fun j σ=>tL (Ee (pre.reverse++rest) t) σ) ae [some (.ref 0),some (.i (.int (.ofNat a))),some (.i (.int t))] [.rd pre rest kn fam tab]) (e:t= .ofNat (pre.length+k)) (hx:rest[k]?=some x):
  (JN [some (.ref 0),some (.i (.int (.ofNat a)))] [.rd pre rest kn fam tab]).fin= .ok (.i x) [.rd pre rest kn fam tab]:=by
 subst e
 rw [nth_at,hx] at ht
 exact aM RS.fin ((show _=Vw _ _ _ from rfl).trans (h▸ht))
theorem MK:zd pre rest kn fam tab a= .bad\/zd pre rest kn fam tab a=(JN [some (.ref 0),some (.i (.int (.ofNat a)))] [.rd pre rest kn fam tab]).fin:=by
 unfold zd
 cases hx:rest[a]? with
 |some x=>exact .inr (Iz (tq fun q=>Nat.not_le_of_lt (gL.mp hx).1 (Nat.le_of_add_le_add_left (Int.ofNat_le.mp q))) rfl rfl hx).symm
 |none=>cases rest with
  |nil=>exact .inl rfl
  |cons x r=>cases r with
   |cons=>exact .inl rfl
   |nil=>cases a with
    |zero=>exact .inl rfl
    |succ a=>cases a with
     |zero=>exact .inr (Iz (pre:=pre) (rest:=[x]) (k:=0) (jn (Int.le_refl _)) rfl (Int.add_sub_cancel (pre.length:Int) 1) rfl).symm
     |succ=>exact .inl rfl
end
theorem Ks {β:Type} {C:β->Prop} {k0:β} {k:Nat->β} {n:β} {vs:List V} (hn:C n) (h0:vs=[.ref 0]->C k0) (h1:∀ m,vs=[.ref 0,.i (.int (.ofNat m))]->C (k m)):C (N5 k0 k n vs):=by
 cases vs with
 |nil=>exact hn
 |cons u r=>cases u with
  |ref m=>cases m with
   |succ=>exact hn
   |zero=>cases r with
    |nil=>exact h0 rfl
    |cons v r=>cases r with
     |cons=>exact hn
     |nil=>cases v with
      |i x=>cases x with
       |int i=>cases i with
        |ofNat m=>exact h1 m rfl
        |negSucc=>exact hn
       |_=>exact hn
      |_=>exact hn
  |_=>exact hn
theorem Mc {β:Type} {C:β->Prop} {k:aF->β} {n:β} {σ:ai} (hn:C n) (h:∀ c,σ=[c]->C (k c)):C (RF k n σ):=by
 cases σ with
 |nil=>exact hn
 |cons c r=>cases r with
  |nil=>exact h c rfl
  |cons=>exact hn
theorem WX (vs:List V) (σ:ai):Ia vs σ= .bad\/Ia vs σ=pK vs σ:=
 show (fun r:RE V=>r= .bad\/r=pK vs σ) (Ia vs σ) from Mc (C:=fun r:RE V=>r= .bad\/r=pK vs σ) (.inl rfl) fun c e=>by
  subst e
  cases c with
  |rd pre rest kn fam tab=>exact Ks (C:=fun r:RE V=>r= .bad\/r=pK vs [.rd pre rest kn fam tab]) (.inl rfl) (fun e=>e▸MK) fun m e=>e▸MK
  |_=>exact .inl rfl
end
end Mine
end
noncomputable section
open PySem PySem.W PySem.Calls
namespace Mine
section
section
variable {la:Addr} {lv:List (Int×Tok)} {g:G} {base:Heap} {mg mb:Str->Option Value} {bn:List Str} {p:Program} {w:World} {k:Nat} {T:lV}
theorem tab0 (X:(K w.params).In base):aq ⟨p,w,DD la lv⟩ base 0 ⟨[],[],Zn⟩:=by
 have all:∀ p∈Zn,GsP w.params la lv p:=b9.mpr ⟨nG _ _ (.ref 1111),b9.mpr ⟨nG _ _ (.ref 1112),b9.mpr ⟨nG _ _ (.ref 1150),b9.mpr ⟨nG _ _ (.ref 1164),b9.mpr ⟨nG _ _ (.ref 1097),b9.mpr ⟨nG _ _ (.ref 1106),b9.mpr ⟨nG _ _ (.ref 1113),b9.mpr ⟨nG _ _ (.ref 786),nofun⟩⟩⟩⟩⟩⟩⟩⟩
 exact ⟨nofun,nofun,fun x i q=>let ⟨y,h1,h2,h3⟩:=all _ (bQ q);⟨y,h1,h2,fun h st=>h3 h (X.keeps st)⟩⟩
theorem JY (X:(K w.params).In base) (fd:FuncData) (ns:List Str) (Z:Addr) (o:Obj) (i:Int) (tk:Tok) (ho:(K w.params).lookup Z=some o) (hn:ns.length=2) (h1:∀ (s:Shared) y,s.heap.get? Z=some o->BindsTo s fd ⟨[y],[]⟩ (ns.zip [y,.int i tk])) (h2:∀ (s:Shared) y z,s.heap.get? Z=some o->BindsTo s fd ⟨[y,z],[]⟩ (ns.zip [y,z])):uQ (DD la lv) base fd ns [none,some (.int i)]:=TU (X _ _ ho) hn h1 h2
end
section
variable {la:Addr} {lv:List (Int×Tok)} {p:Program} {w:World} {base:Heap} {mg mb:Str->Option Value} {bn:List Str} (H:bH ⟨p,w,DD la lv⟩ base mg mb bn)
include H
def t_0:lV:=⟨[],[],Zn⟩
theorem k_0:aq ⟨p,w,DD la lv⟩ base 0 t_0:=tab0 H.B.X
def t_1:=aA t_0 "priorities" 21 lf
theorem k_1:aq ⟨p,w,DD la lv⟩ base 1 t_1:=aR H (k_0 H) "priorities" 21 (st 1) 2 ["family", "hook", "names"] lf
def t_2:=aA t_1 "field_named" 113 nR
theorem k_2:aq ⟨p,w,DD la lv⟩ base 2 t_2:=aR H (k_1 H) "field_named" 113 (st 9) 2 ["fields", "name"] nR
def t_3:=aA t_2 "is_worked" 120 mN
theorem k_3:aq ⟨p,w,DD la lv⟩ base 3 t_3:=aR H (k_2 H) "is_worked" 120 (st 10) 1 ["e"] mN
def t_4:=aA t_3 "field_under" 127 jN
theorem k_4:aq ⟨p,w,DD la lv⟩ base 4 t_4:=aR H (k_3 H) "field_under" 127 (st 11) 3 ["fields", "e", "what"] jN
def t_5:=aA t_4 "bits_of_e" 141 tR
theorem k_5:aq ⟨p,w,DD la lv⟩ base 5 t_5:=aR H (k_4 H) "bits_of_e" 141 (st 13) 2 ["fields", "e", "field"] tR
def t_6:=aA t_5 "type_of" 148 yX
theorem k_6:aq ⟨p,w,DD la lv⟩ base 6 t_6:=aR H (k_5 H) "type_of" 148 (st 14) 2 ["fields", "e", "field"] yX
def t_7:=aA t_6 "parts_of" 155 v8
theorem k_7:aq ⟨p,w,DD la lv⟩ base 7 t_7:=aR H (k_6 H) "parts_of" 155 (st 15) 1 ["e"] v8
def t_8:=aA t_7 "kinds_of" 162 pg
theorem k_8:aq ⟨p,w,DD la lv⟩ base 8 t_8:=aR H (k_7 H) "kinds_of" 162 (st 16) 2 ["fields", "e", "kinds", "part"] pg
def t_9:=aA t_8 "without_repeats" 183 jw
theorem k_9:aq ⟨p,w,DD la lv⟩ base 9 t_9:=aR H (k_8 H) "without_repeats" 183 (st 20) 1 ["elements", "pairs", "number", "found", "box"] jw
def t_10:=aA t_9 "is_for_joining" 190 j7
theorem k_10:aq ⟨p,w,DD la lv⟩ base 10 t_10:=aR H (k_9 H) "is_for_joining" 190 (st 21) 1 ["literals", "is_ranged", "literal"] j7
def t_11:=aA t_10 "check_apart" 204 n6
theorem k_11:aq ⟨p,w,DD la lv⟩ base 11 t_11:=aR H (k_10 H) "check_apart" 204 (st 23) 1 ["literals", "first", "box", "other"] n6
def t_12:=aA t_11 "tidy_set" 211 vU
theorem k_12:aq ⟨p,w,DD la lv⟩ base 12 t_12:=aR H (k_11 H) "tidy_set" 211 (st 24) 1 ["elements", "literals"] vU
def t_13:=aA t_12 "decimal_of" 218 lJ
theorem k_13:aq ⟨p,w,DD la lv⟩ base 13 t_13:=aR H (k_12 H) "decimal_of" 218 (st 26) 2 ["text", "most", "number", "sign"] lJ
def aau:=aA t_13 "ip4_of" 232 vC
theorem k_14:aq ⟨p,w,DD la lv⟩ base 14 aau:=aR H (k_13 H) "ip4_of" 232 (st 28) 1 ["text", "parts", "number", "part", "octet"] vC
def Zu:=aA aau "mask_of" 260 sL
theorem k_15:aq ⟨p,w,DD la lv⟩ base 15 Zu:=aR H (k_14 H) "mask_of" 260 (st 32) 2 ["length", "bits"] sL
def Zd:=aA Zu "prefix_span" 267 n8
theorem k_16:aq ⟨p,w,DD la lv⟩ base 16 Zd:=aR H (k_15 H) "prefix_span" 267 (st 33) 3 ["base", "length", "bits", "low"] n8
def t_17:=aA Zd "prefix_of" 274 tK
theorem k_17:aq ⟨p,w,DD la lv⟩ base 17 t_17:=aR H (k_16 H) "prefix_of" 274 (st 34) 1 ["text", "parts", "nfproto", "bits", "base", "length"] tK
def t_18:=aA t_17 "based_number" 288 ft
theorem k_18:aq ⟨p,w,DD la lv⟩ base 18 t_18:=aR H (k_17 H) "based_number" 288 (st 38) 2 ["digits", "base", "number", "sign", "digit"] ft
def aar:=aA t_18 "number_word" 295 d6
theorem k_19:aq ⟨p,w,DD la lv⟩ base 19 aar:=aR H (k_18 H) "number_word" 295 (st 39) 1 ["word"] d6
def t_20:=aA aar "time_units" 302 rV
theorem k_20:aq ⟨p,w,DD la lv⟩ base 20 t_20:=aR H (k_19 H) "time_units" 302 (st 40) 0 [] rV
def Y9:=aA t_20 "part_end" 309 pd
theorem k_21:aq ⟨p,w,DD la lv⟩ base 21 Y9:=aR H (k_20 H) "part_end" 309 (st 41) 3 ["word", "at", "is_digits"] pd
def t_22:=aA Y9 "time_word" 316 m3
theorem k_22:aq ⟨p,w,DD la lv⟩ base 22 t_22:=aR H (k_21 H) "time_word" 316 (st 42) 1 ["word", "seconds", "units", "total", "first", "at", "middle", "behind", "number", "found", "place"] m3
def t_23:=aA t_22 "value_of_word" 351 eU
theorem k_23:aq ⟨p,w,DD la lv⟩ base 23 t_23:=aR H (k_22 H) "value_of_word" 351 (st 47) 3 ["a_type", "bits", "word", "sort", "number"] eU
def t_24:=aA t_23 "address_span" 358 mC
theorem k_24:aq ⟨p,w,DD la lv⟩ base 24 t_24:=aR H (k_23 H) "address_span" 358 (st 48) 3 ["sort", "bits", "word", "prefix"] mC
def YW:=aA t_24 "ends_span" 365 tV
theorem k_25:aq ⟨p,w,DD la lv⟩ base 25 YW:=aR H (k_24 H) "ends_span" 365 (st 49) 3 ["a_type", "bits", "word", "place", "low", "high"] tV
def t_26:=aA YW "span_of_word" 372 mF
theorem k_26:aq ⟨p,w,DD la lv⟩ base 26 t_26:=aR H (k_25 H) "span_of_word" 372 (st 50) 3 ["a_type", "bits", "word", "sort", "span", "number"] mF
def t_27:=aA t_26 "is_word_sign" 379 ev
theorem k_27:aq ⟨p,w,DD la lv⟩ base 27 t_27:=aR H (k_26 H) "is_word_sign" 379 (st 52) 1 ["sign"] ev
def ZZ:=aA t_27 "run_end" 386 sD
theorem k_28:aq ⟨p,w,DD la lv⟩ base 28 ZZ:=aR H (k_27 H) "run_end" 386 (st 53) 2 ["text", "at"] sD
def aab:=aA ZZ "string_end" 393 kR
theorem k_29:aq ⟨p,w,DD la lv⟩ base 29 aab:=aR H (k_28 H) "string_end" 393 (st 54) 4 ["text", "at", "row", "column", "behind"] kR
def t_30:=aA aab "put_run" 400 nu
theorem k_30:aq ⟨p,w,DD la lv⟩ base 30 t_30:=aR H (k_29 H) "put_run" 400 (st 55) 4 ["tokens", "run", "row", "column", "is_cut"] nu
def Zh:=aA t_30 "read_tokens" 407 b8
theorem k_31:aq ⟨p,w,DD la lv⟩ base 31 Zh:=aR H (k_30 H) "read_tokens" 407 (st 56) 1 ["text", "tokens", "at", "row", "begin", "sign", "column", "behind"] b8
def t_32:=aA Zh "token_words" 414 nV
theorem k_32:aq ⟨p,w,DD la lv⟩ base 32 t_32:=aR H (k_31 H) "token_words" 414 (st 57) 1 ["token"] nV
def t_33:=aA t_32 "unexpected" 421 qh
theorem k_33:aq ⟨p,w,DD la lv⟩ base 33 t_33:=aR H (k_32 H) "unexpected" 421 (st 58) 2 ["token", "what", "why"] qh
def t_34:=rz t_33 "look" 443 bo
theorem k_34:aq ⟨p,w,DD la lv⟩ base 34 t_34:=
 have ⟨h1,h2⟩:=Do (f:=443) (cd:=442) (st:=mt 59 1) (qual:= "Reader.look") (dfl:= .ref 436) (pm:=vf (K w.params) 443) (ns:=["self", "ahead"]) (names:=["self", "ahead", "place"]) H (k_33 H) (by kernel_rfl) (by kernel_rfl) (cw (by kernel_rfl)) (JY H.B.X _ _ 436 ⟨.type "tuple",none,.seq #[.int 0 797] 0,#[]⟩ 0 797 (by kernel_rfl) rfl (fun s y h=>CN rfl h rfl rfl rfl) fun s y z h=>CN rfl h rfl rfl rfl)
 (k_33 H).me ⟨((show _=pK by kernel_rfl)▸h1:bE _ base 34 443 pK).imp WX,h2⟩ (by kernel_rfl) (by kernel_rfl) (by intros;kernel_rfl)
def t_35:=aA t_34 "expected" 513 a8
theorem k_35:aq ⟨p,w,DD la lv⟩ base 35 t_35:=aR H (k_34 H) "expected" 513 (st 60) 2 ["reader", "what"] a8
def t_36:=rz t_35 "take" 450 bb
theorem k_36:aq ⟨p,w,DD la lv⟩ base 36 t_36:=G2 H (k_35 H) "take" "Reader.take" 450 (mt 59 2) 1 ["self", "token"] bb
def t_37:=rz t_36 "is_sign" 457 bR
theorem k_37:aq ⟨p,w,DD la lv⟩ base 37 t_37:=G2 H (k_36 H) "is_sign" "Reader.is_sign" 457 (mt 59 3) 2 ["self", "text", "token"] bR
def ZV:=rz t_37 "is_word" 464 bq
theorem k_38:aq ⟨p,w,DD la lv⟩ base 38 ZV:=G2 H (k_37 H) "is_word" "Reader.is_word" 464 (mt 59 4) 2 ["self", "text", "token"] bq
def ZW:=rz ZV "skip_sign" 471 bB
theorem k_39:aq ⟨p,w,DD la lv⟩ base 39 ZW:=G2 H (k_38 H) "skip_sign" "Reader.skip_sign" 471 (mt 59 5) 2 ["self", "text"] bB
def t_40:=rz ZW "want_sign" 478 bY
theorem k_40:aq ⟨p,w,DD la lv⟩ base 40 t_40:=G2 H (k_39 H) "want_sign" "Reader.want_sign" 478 (mt 59 6) 2 ["self", "text"] bY
def t_41:=rz t_40 "want_word" 485 jG
theorem k_41:aq ⟨p,w,DD la lv⟩ base 41 t_41:=G2 H (k_40 H) "want_word" "Reader.want_word" 485 (mt 59 7) 1 ["self"] jG
def t_42:=rz t_41 "skip_rows" 492 fh
theorem k_42:aq ⟨p,w,DD la lv⟩ base 42 t_42:=G2 H (k_41 H) "skip_rows" "Reader.skip_rows" 492 (mt 59 8) 1 ["self"] fh
def Z2:=rz t_42 "fault" 499 de
theorem k_43:aq ⟨p,w,DD la lv⟩ base 43 Z2:=G2 H (k_42 H) "fault" "Reader.fault" 499 (mt 59 9) 2 ["self", "why", "token"] de
def Zl:=aA Z2 "number_here" 520 dp
theorem k_44:aq ⟨p,w,DD la lv⟩ base 44 Zl:=aR H (k_43 H) "number_here" 520 (st 61) 1 ["reader", "token", "number"] dp
def t_45:=aA Zl "keyword" 527 c7
theorem k_45:aq ⟨p,w,DD la lv⟩ base 45 t_45:=aR H (k_44 H) "keyword" 527 (st 63) 2 ["reader", "word"] c7
def t_46:=aA t_45 "number_to" 541 fg
theorem k_46:aq ⟨p,w,DD la lv⟩ base 46 t_46:=aR H (k_45 H) "number_to" 541 (st 65) 2 ["reader", "top", "token", "n"] fg
def t_47:=aA t_46 "read_text" 548 hY
theorem k_47:aq ⟨p,w,DD la lv⟩ base 47 t_47:=aR H (k_46 H) "read_text" 548 (st 66) 1 ["reader"] hY
def t_48:=aA t_47 "read_comment" 555 i1
theorem k_48:aq ⟨p,w,DD la lv⟩ base 48 t_48:=aR H (k_47 H) "read_comment" 555 (st 67) 1 ["reader"] i1
def t_49:=aA t_48 "read_time" 562 jC
theorem k_49:aq ⟨p,w,DD la lv⟩ base 49 t_49:=aR H (k_48 H) "read_time" 562 (st 68) 1 ["reader", "token", "ms"] jC
def t_50:=aA t_49 "type_here" 569 hK
theorem k_50:aq ⟨p,w,DD la lv⟩ base 50 t_50:=aR H (k_49 H) "type_here" 569 (st 69) 2 ["reader", "name"] hK
def t_51:=aA t_50 "is_mask_kind" 576 i8
theorem k_51:aq ⟨p,w,DD la lv⟩ base 51 t_51:=aR H (k_50 H) "is_mask_kind" 576 (st 70) 2 ["reader", "kind"] i8
def Za:=aA t_51 "resolved" 583 pi
theorem k_52:aq ⟨p,w,DD la lv⟩ base 52 Za:=aR H (k_51 H) "resolved" 583 (st 71) 4 ["reader", "kind", "text", "answer"] pi
def t_53:=aA Za "span_of_text" 590 mx
theorem k_53:aq ⟨p,w,DD la lv⟩ base 53 t_53:=aR H (k_52 H) "span_of_text" 590 (st 72) 3 ["reader", "kind", "text"] mx
def t_54:=aA t_53 "value_of_text" 597 iz
theorem k_54:aq ⟨p,w,DD la lv⟩ base 54 t_54:=aR H (k_53 H) "value_of_text" 597 (st 73) 3 ["reader", "kind", "text"] iz
def t_55:=aA t_54 "read_from" 604 m8
theorem k_55:aq ⟨p,w,DD la lv⟩ base 55 t_55:=aR H (k_54 H) "read_from" 604 (st 74) 3 ["reader", "kind", "least", "token", "n"] m8
def Z0:=aA t_55 "read_value" 611 gq
theorem k_56:aq ⟨p,w,DD la lv⟩ base 56 Z0:=aR H (k_55 H) "read_value" 611 (st 75) 2 ["reader", "kind"] gq
def YV:=aA Z0 "read_span" 618 mZ
theorem k_57:aq ⟨p,w,DD la lv⟩ base 57 YV:=aR H (k_56 H) "read_span" 618 (st 76) 2 ["reader", "kind", "token", "is_star", "span", "n"] mZ
def t_58:=aA YV "barred" 632 vn
theorem k_58:aq ⟨p,w,DD la lv⟩ base 58 t_58:=aR H (k_57 H) "barred" 632 (st 78) 3 ["reader", "kind", "n"] vn
def t_59:=aA t_58 "find_field" 639 lO
theorem k_59:aq ⟨p,w,DD la lv⟩ base 59 t_59:=aR H (k_58 H) "find_field" 639 (st 79) 1 ["reader", "words", "fields", "many", "name"] lO
def t_60:=aA t_59 "read_field" 646 qn
theorem k_60:aq ⟨p,w,DD la lv⟩ base 60 t_60:=aR H (k_59 H) "read_field" 646 (st 80) 1 ["reader", "found", "step"] qn
def t_61:=aA t_60 "begins_expr" 653 nQ
theorem k_61:aq ⟨p,w,DD la lv⟩ base 61 t_61:=aR H (k_60 H) "begins_expr" 653 (st 81) 1 ["reader"] nQ
def aaU:=aA t_61 "masked" 667 vj
theorem k_62:aq ⟨p,w,DD la lv⟩ base 62 aaU:=aR H (k_61 H) "masked" 667 (st 83) 2 ["reader", "e", "tags", "many", "tag", "kind", "n"] vj
def t_63:=aA aaU "read_plain" 674 kK
theorem k_63:aq ⟨p,w,DD la lv⟩ base 63 t_63:=aR H (k_62 H) "read_plain" 674 (st 84) 1 ["reader", "e"] kK
def Y6:=aA t_63 "read_expr" 681 uc
theorem k_64:aq ⟨p,w,DD la lv⟩ base 64 Y6:=aR H (k_63 H) "read_expr" 681 (st 85) 1 ["reader", "parts"] uc
def aag:=aA Y6 "read_verdict" 688 iW
theorem k_65:aq ⟨p,w,DD la lv⟩ base 65 aag:=aR H (k_64 H) "read_verdict" 688 (st 86) 1 ["reader", "token"] iW
def t_66:=aA aag "read_box" 695 kM
theorem k_66:aq ⟨p,w,DD la lv⟩ base 66 t_66:=aR H (k_65 H) "read_box" 695 (st 87) 2 ["reader", "kinds", "box", "kind", "low", "high"] kM
def Zf:=aA t_66 "read_datum" 702 qs
theorem k_67:aq ⟨p,w,DD la lv⟩ base 67 Zf:=aR H (k_66 H) "read_datum" 702 (st 88) 3 ["reader", "data", "is_whole", "verdict", "key", "kind"] qs
def Zo:=aA Zf "read_literal" 709 gw
theorem k_68:aq ⟨p,w,DD la lv⟩ base 68 Zo:=aR H (k_67 H) "read_literal" 709 (st 89) 4 ["reader", "kinds", "data", "is_whole", "box", "timeout", "comment"] gw
def aaQ:=aA Zo "read_braces" 716 gY
theorem k_69:aq ⟨p,w,DD la lv⟩ base 69 aaQ:=aR H (k_68 H) "read_braces" 716 (st 90) 4 ["reader", "kinds", "data", "is_whole", "found"] gY
def t_70:=aA aaQ "read_literals" 723 c9
theorem k_70:aq ⟨p,w,DD la lv⟩ base 70 t_70:=aR H (k_69 H) "read_literals" 723 (st 91) 3 ["reader", "kinds", "data"] c9
def t_71:=aA t_70 "read_elements" 730 ir
theorem k_71:aq ⟨p,w,DD la lv⟩ base 71 t_71:=aR H (k_70 H) "read_elements" 730 (st 92) 3 ["reader", "kinds", "data"] ir
def t_72:=aA t_71 "read_name" 737 mU
theorem k_72:aq ⟨p,w,DD la lv⟩ base 72 t_72:=aR H (k_71 H) "read_name" 737 (st 93) 1 ["reader"] mU
def t_73:=aA t_72 "read_right" 744 rT
theorem k_73:aq ⟨p,w,DD la lv⟩ base 73 t_73:=aR H (k_72 H) "read_right" 744 (st 94) 3 ["reader", "kinds", "is_mask", "kind", "low", "high"] rT
def t_74:=aA t_73 "read_where" 751 rx
theorem k_74:aq ⟨p,w,DD la lv⟩ base 74 t_74:=aR H (k_73 H) "read_where" 751 (st 95) 3 ["reader", "kinds", "data"] rx
def aaH:=aA t_74 "read_op" 765 yT
theorem k_75:aq ⟨p,w,DD la lv⟩ base 75 aaH:=aR H (k_74 H) "read_op" 765 (st 98) 1 ["reader", "sign"] yT
def t_76:=aA aaH "begins_expect" 772 iA
theorem k_76:aq ⟨p,w,DD la lv⟩ base 76 t_76:=aR H (k_75 H) "begins_expect" 772 (st 99) 1 ["reader"] iA
def ZM:=aA t_76 "read_match" 779 qN
theorem k_77:aq ⟨p,w,DD la lv⟩ base 77 ZM:=aR H (k_76 H) "read_match" 779 (st 100) 1 ["reader", "e", "kinds", "is_mask", "op", "right"] qN
def aaG:=aA ZM "read_judgement" 786 j2
theorem k_78:aq ⟨p,w,DD la lv⟩ base 78 aaG:=aR H (k_77 H) "read_judgement" 786 (st 101) 1 ["reader"] j2
def aas:=aA aaG "verdict_words" 793 lK
theorem k_79:aq ⟨p,w,DD la lv⟩ base 79 aas:=aR H (k_78 H) "verdict_words" 793 (st 102) 0 ["words", "word"] lK
def t_80:=aA aas "size_unit" 800 mO
theorem k_80:aq ⟨p,w,DD la lv⟩ base 80 t_80:=aR H (k_79 H) "size_unit" 800 (st 103) 2 ["word", "many", "units"] mO
def Zv:=aA t_80 "sized" 807 zH
theorem aaq:aq ⟨p,w,DD la lv⟩ base 81 Zv:=aR H (k_80 H) "sized" 807 (st 104) 3 ["reader", "n", "unit"] zH
def t_82:=aA Zv "read_size" 815 hM
theorem k_82:aq ⟨p,w,DD la lv⟩ base 82 t_82:=
 have ⟨h1,h2⟩:=Do (f:=815) (cd:=814) (st:=st 105) (qual:= "read_size") (dfl:= .ref 808) (pm:=vf (K w.params) 815) (ns:=["reader", "many"]) (names:=["reader", "many", "n", "token", "unit", "octets"]) H (aaq H) (by kernel_rfl) (by kernel_rfl) (cw (by kernel_rfl)) (JY H.B.X _ _ 808 ⟨.type "tuple",none,.seq #[.int 4 1290] 0,#[]⟩ 4 1290 (by kernel_rfl) rfl (fun s y h=>CN rfl h rfl rfl rfl) fun s y z h=>CN rfl h rfl rfl rfl)
 (aaq H).fn ⟨((show _=hM by kernel_rfl)▸h1:bE _ base 82 815 hM),h2⟩ (by kernel_rfl) (by kernel_rfl)
def t_83:=aA t_82 "read_over" 822 mV
theorem k_83:aq ⟨p,w,DD la lv⟩ base 83 t_83:=aR H (k_82 H) "read_over" 822 (st 106) 1 ["reader", "is_over"] mV
def Z5:=aA t_83 "read_counter_body" 829 ik
theorem k_84:aq ⟨p,w,DD la lv⟩ base 84 Z5:=aR H (k_83 H) "read_counter_body" 829 (st 107) 1 ["reader", "packets"] ik
def t_85:=aA Z5 "read_quota_body" 836 ji
theorem k_85:aq ⟨p,w,DD la lv⟩ base 85 t_85:=aR H (k_84 H) "read_quota_body" 836 (st 108) 1 ["reader", "is_over", "octets"] ji
def Y2:=aA t_85 "cut_word" 843 pt
theorem k_86:aq ⟨p,w,DD la lv⟩ base 86 Y2:=aR H (k_85 H) "cut_word" 843 (st 109) 1 ["reader", "token", "at"] pt
def YQ:=aA Y2 "read_rate" 850 ug
theorem k_87:aq ⟨p,w,DD la lv⟩ base 87 YQ:=aR H (k_86 H) "read_rate" 850 (st 110) 1 ["reader", "head", "tail", "rate", "size"] ug
def t_88:=aA YQ "read_limit_body" 857 jk
theorem k_88:aq ⟨p,w,DD la lv⟩ base 88 t_88:=aR H (k_87 H) "read_limit_body" 857 (st 111) 1 ["reader", "is_over", "rate", "unit", "is_octets", "burst"] jk
def aan:=aA t_88 "read_statement" 864 ke
theorem k_89:aq ⟨p,w,DD la lv⟩ base 89 aan:=aR H (k_88 H) "read_statement" 864 (st 112) 2 ["reader", "words", "token"] ke
def aaP:=aA aan "is_at_end" 871 mR
theorem k_90:aq ⟨p,w,DD la lv⟩ base 90 aaP:=aR H (k_89 H) "is_at_end" 871 (st 113) 1 ["reader"] mR
def t_91:=aA aaP "read_rule" 878 mS
theorem k_91:aq ⟨p,w,DD la lv⟩ base 91 t_91:=aR H (k_90 H) "read_rule" 878 (st 114) 2 ["reader", "words", "statements", "comment"] mS
def aaf:=aA t_91 "skip_ends" 885 fe
theorem k_92:aq ⟨p,w,DD la lv⟩ base 92 aaf:=aR H (k_91 H) "skip_ends" 885 (st 116) 1 ["reader"] fe
def t_93:=aA aaf "want_end" 892 dn
theorem k_93:aq ⟨p,w,DD la lv⟩ base 93 t_93:=aR H (k_92 H) "want_end" 892 (st 117) 1 ["reader"] dn
def t_94:=aA t_93 "open_block" 899 cC
theorem k_94:aq ⟨p,w,DD la lv⟩ base 94 t_94:=aR H (k_93 H) "open_block" 899 (st 118) 1 ["reader"] cC
def t_95:=aA t_94 "word_in" 906 fW
theorem k_95:aq ⟨p,w,DD la lv⟩ base 95 t_95:=aR H (k_94 H) "word_in" 906 (st 119) 2 ["reader", "words", "token"] fW
def t_96:=aA t_95 "one_of" 913 gN
theorem k_96:aq ⟨p,w,DD la lv⟩ base 96 t_96:=aR H (k_95 H) "one_of" 913 (st 120) 3 ["reader", "words", "why", "word"] gN
def Zq:=aA t_96 "kinds_told" 918 fF
theorem k_97:aq ⟨p,w,DD la lv⟩ base 97 Zq:=aR H (k_96 H) "kinds_told" 918 (st 121) 2 ["tongue", "names", "name"] fF
def Zb:=aA Zq "read_type" 925 mM
theorem k_98:aq ⟨p,w,DD la lv⟩ base 98 Zb:=aR H (k_97 H) "read_type" 925 (st 122) 1 ["reader", "token"] mM
def YT:=aA Zb "read_types" 932 lN
theorem k_99:aq ⟨p,w,DD la lv⟩ base 99 YT:=aR H (k_98 H) "read_types" 932 (st 123) 1 ["reader", "names"] lN
def UG:=aA YT "read_set_flags" 937 jT
theorem k_100:aq ⟨p,w,DD la lv⟩ base 100 UG:=aR H (k_99 H) "read_set_flags" 937 (st 124) 1 ["reader", "known", "told", "is_more", "flag"] jT
def U8:=aA UG "read_set_row" 944 iX
theorem k_101:aq ⟨p,w,DD la lv⟩ base 101 U8:=aR H (k_100 H) "read_set_row" 944 (st 125) 3 ["reader", "kind", "told", "rows", "word", "keys"] iX
def U4:=aA U8 "read_set_body" 951 iw
theorem k_102:aq ⟨p,w,DD la lv⟩ base 102 U4:=aR H (k_101 H) "read_set_body" 951 (st 126) 2 ["reader", "kind", "told", "flags", "spec"] iw
def Uv:=aA U4 "has_data" 958 vR
theorem k_103:aq ⟨p,w,DD la lv⟩ base 103 Uv:=aR H (k_102 H) "has_data" 958 (st 127) 1 ["reader", "ahead"] vR
def U3:=aA Uv "read_meter" 965 rh
theorem k_104:aq ⟨p,w,DD la lv⟩ base 104 U3:=aR H (k_103 H) "read_meter" 965 (st 128) 2 ["reader", "kind", "is_closed", "about"] rh
def UV:=aA U3 "read_expectation" 970 eK
theorem k_105:aq ⟨p,w,DD la lv⟩ base 105 UV:=aR H (k_104 H) "read_expectation" 970 (st 129) 1 ["reader", "families", "rows", "told", "word"] eK
def Wf:=aA UV "read_devices" 977 md
theorem k_106:aq ⟨p,w,DD la lv⟩ base 106 Wf:=aR H (k_105 H) "read_devices" 977 (st 130) 1 ["reader", "devices"] md
def UU:=aA Wf "name_here" 984 f9
theorem k_107:aq ⟨p,w,DD la lv⟩ base 107 UU:=aR H (k_106 H) "name_here" 984 (st 132) 1 ["reader", "token", "sign"] f9
def Ux:=aA UU "read_family" 991 oa
theorem k_108:aq ⟨p,w,DD la lv⟩ base 108 Ux:=aR H (k_107 H) "read_family" 991 (st 133) 1 ["reader", "family"] oa
def UE:=aA Ux "kinds_for" 998 tU
theorem k_109:aq ⟨p,w,DD la lv⟩ base 109 UE:=aR H (k_108 H) "kinds_for" 998 (st 134) 1 ["verb", "told", "kinds"] tU
def Wb:=aA UE "read_kind" 1005 mW
theorem k_110:aq ⟨p,w,DD la lv⟩ base 110 Wb:=aR H (k_109 H) "read_kind" 1005 (st 135) 2 ["reader", "verb", "kinds", "kind"] mW
def VO:=aA Wb "command_of" 1012 cO
theorem k_111:aq ⟨p,w,DD la lv⟩ base 111 VO:=aR H (k_110 H) "command_of" 1012 (st 136) 5 ["reader", "verb", "kind", "name", "about"] cO
def UR:=aA VO "priority_of" 1019 jM
theorem k_112:aq ⟨p,w,DD la lv⟩ base 112 UR:=aR H (k_111 H) "priority_of" 1019 (st 137) 2 ["names", "text", "at", "head", "tail", "n", "more"] jM
def Vn:=aA UR "read_priority" 1026 cn
theorem k_113:aq ⟨p,w,DD la lv⟩ base 113 Vn:=aR H (k_112 H) "read_priority" 1026 (st 138) 3 ["reader", "family", "hook", "begin", "text", "n"] cn
def Vd:=aA Vn "read_base" 1033 mP
theorem k_114:aq ⟨p,w,DD la lv⟩ base 114 Vd:=aR H (k_113 H) "read_base" 1033 (st 139) 1 ["reader", "chain_type", "hooks", "hook", "device"] mP
def V0:=aA Vd "read_chain" 1040 lP
theorem k_115:aq ⟨p,w,DD la lv⟩ base 115 V0:=aR H (k_114 H) "read_chain" 1040 (st 140) 4 ["reader", "verb", "name", "words", "about", "policy", "rules", "statements", "comment"] lP
def VX:=aA V0 "read_rule_about" 1047 eY
theorem k_116:aq ⟨p,w,DD la lv⟩ base 116 VX:=aR H (k_115 H) "read_rule_about" 1047 (st 141) 3 ["reader", "verb", "words", "place", "sort", "statements", "comment"] eY
def U0:=aA VX "read_set" 1054 kP
theorem k_117:aq ⟨p,w,DD la lv⟩ base 117 U0:=aR H (k_116 H) "read_set" 1054 (st 142) 4 ["reader", "verb", "kind", "name", "spec", "elements", "commands"] kP
def UZ:=aA U0 "read_element_about" 1061 gM
theorem k_118:aq ⟨p,w,DD la lv⟩ base 118 UZ:=aR H (k_117 H) "read_element_about" 1061 (st 143) 3 ["reader", "verb", "name", "place", "spec", "data"] gM
def US:=aA UZ "read_flowtable" 1068 fM
theorem k_119:aq ⟨p,w,DD la lv⟩ base 119 US:=aR H (k_118 H) "read_flowtable" 1068 (st 144) 1 ["reader", "priority", "devices"] fM
def Uq:=aA US "read_made" 1075 hO
theorem k_120:aq ⟨p,w,DD la lv⟩ base 120 Uq:=aR H (k_119 H) "read_made" 1075 (st 145) 5 ["reader", "verb", "kind", "name", "words", "about"] hO
def UD:=aA Uq "in_ranks" 1082 kF
theorem k_121:aq ⟨p,w,DD la lv⟩ base 121 UD:=aR H (k_120 H) "in_ranks" 1082 (st 146) 1 ["commands", "ranks", "found", "rank", "command"] kF
def Ur:=aA UD "read_table" 1089 kO
theorem k_122:aq ⟨p,w,DD la lv⟩ base 122 Ur:=aR H (k_121 H) "read_table" 1089 (st 147) 3 ["reader", "verb", "words", "flags", "found", "kind"] kO
def VR:=aA Ur "read_command" 1096 ew
theorem k_123:aq ⟨p,w,DD la lv⟩ base 123 VR:=aR H (k_122 H) "read_command" 1096 (st 148) 2 ["reader", "words", "verbs", "verb", "kind", "is_making", "name", "about"] ew
def Vh:=aA VR "_law_own" 1157 pB
theorem k_124:aq ⟨p,w,DD la lv⟩ base 124 Vh:=aR H (k_123 H) "_law_own" 1157 (st 156) 0 [] pB
end
end
section
section
variable {g:G} {base:Heap} {k:Nat} {a:Addr} {F F':Fn} {c:aS} {φ φ':a9} {l:av} {σ:ai} {s s':Shared} {Q E:Value->Shared->Prop} {h:Heap} {D:fj}
theorem bE.numF {f:Int->List V->List (Nat×Nat)} (hf:∀ n r,j0 (n.fmod (2 ^ 120)) (f n r)) (hF:bE g base k a F):bE g base k a (Mine.numF f F):=fun c φ l σ s vs ys Q E hg hb hk I r z=>by
 unfold et at z
 cases q:b6 σ (bz vs []) with
 |none=>rw [q] at z;exact z.elim
 |some cs=>
  rw [q] at z
  cases r with
  |nil=>exact z.elim
  |@cons v y vs ys r1 rr=>cases v with
   |i x=>cases x with
    |int n=>
     refine r1.iE.intE fun t=>?_
     refine hF c φ l σ s _ _ Q E hg hb hk I (.cons (.i (.num (hf n (vs.map (gH (eP (bz vs []))))))) rr) ?_
     unfold et
     rw [show b6 σ (bz (.i (.num (f n (vs.map (gH (eP (bz vs []))))))::vs) [])=some cs from q]
     exact z
    |_=>exact z.elim
   |_=>exact z.elim
theorem tkL_ok {x:I} {b:Addr} {xs:List I} {vs:List Value} (d:aX D h x (.ref b)) (ht:PyProof.Rows.IsTup h b vs.toArray) (rr:IReps D h xs vs):aX D h (tkL x xs) (.ref b):=by
 cases xs with
 |nil=>exact d
 |cons p xs=>cases xs with
  |nil=>exact d
  |cons q xs=>cases xs with
   |nil=>exact d
   |cons u xs=>cases xs with
    |nil=>exact d
    |cons w xs=>cases xs with
     |cons=>exact d
     |nil=>cases p with
      |str=>cases q with
       |str=>cases u with
        |int=>cases w with
         |int=>
          revert ht
          exact rr.consE fun j j r1 rr=>rr.consE fun j j r2 rr=>rr.consE fun j j r3 rr=>rr.consE fun j j r4 rr=>rr.nilE (r1.strE fun j q1=>r2.strE fun j q2=>r3.intE fun j=>r4.intE fun j ht=> .tk ht q1 q2)
         |_=>exact d
        |_=>exact d
       |_=>exact d
      |_=>exact d
theorem aa5 {x:I} {v:Value} (r:aX D h x v):aX D h (zg x) v:=by
 cases x with
 |tup xs=>exact r.tupE fun b vs ht hl rr=>tkL_ok (.tup ht hl rr) ht rr
 |_=>exact r
theorem IReps.tk {xs:List I} {vs:List Value} (r:IReps D h xs vs):IReps D h (xs.map zg) vs:=r.ind (P:=fun xs vs=>IReps D h (xs.map zg) vs) .nil fun a j=> .cons (aa5 a)
theorem ay.tell {n:Nat} {xs:List I} (I:ay c φ l σ s.heap) (e:aP σ n=some (.list xs)):∃ vs,IReps c.g.D s.heap xs vs/\∀ xs',IReps c.g.D s.heap xs' vs->xs'.length=xs.length->ay c φ l (putAt σ n (.list xs')) s.heap:=
 let ⟨_,q,cr⟩:=I.sto.at e
 match cr with | .list ho rr ll=>⟨_,rr,fun j r hl=>I.put (t:=s.toks) q (fun j j j z=>z) (fun j=> .list ho r (hl▸ll)) fun j j J=>J⟩
theorem NP {x x':aF}:putAt (σ++[x]) σ.length x'=σ++[x']:=(List.set_append_right _ _ (cR _)).trans (by rw [wr];rfl)
theorem Lg {x:aF}:aP (σ++[x]) σ.length=some x:=List.getElem?_concat_length
theorem AE {σ σ':ai}:cT σ [] σ'=σ:=by cases σ'<;>rfl
theorem J9 {n:Nat} {r:List Nat} (h:b6 σ (n::r)=some []):False:=by
 unfold b6 at h
 cases q:aP σ n with
 |none=>rw [q] at h;cases h
 |some x=>cases q':b6 σ r with
  |none=>rw [q,q'] at h;cases h
  |some=>rw [q,q'] at h;cases h
theorem bE.tkF (hF:bE g base k a F):bE g base k a (Mine.tkF F):=fun c φ l σ s vs ys Q E hg hb hk I r z=>by
 refine hF c φ l σ s vs ys Q E hg hb hk I r ?_
 unfold et at z ⊢
 cases hc:b6 σ (bz vs []) with
 |none=>rw [hc] at z;exact z.elim
 |some cs=>
  rw [hc] at z
  cases cs with
  |cons=>exact z.elim
  |nil=>
   show bJ c φ l s (dX σ (bz vs []) (F (vs.map (gH (eP (bz vs [])))) [])) Q E
   have z:bJ c φ l s (dX σ (bz vs []) (Mine.tkF F (vs.map (gH (eP (bz vs [])))) [])) Q E:=z
   unfold Mine.tkF at z
   cases hr:F (vs.map (gH (eP (bz vs [])))) [] with
   |bad=>rw [hr] at z;exact z
   |exc=>rw [hr] at z;exact z
   |ok v σ'=>
    rw [hr] at z
    cases v with
    |ref n=>
     have z:bJ c φ l s (dX σ (bz vs []) (ph (fun xs=> .ok (.ref 0) [.list (xs.map zg)]) .bad (aP σ' n))) Q E:=z
     cases he:aP σ' n with
     |none=>rw [he] at z;exact z.elim
     |some cell=>
      rw [he] at z
      cases cell with
      |list xs=>
       have e0:bz vs []=[]:=by
        cases q:bz vs [] with
        |nil=>rfl
        |cons n r=>exact (J9 (q▸hc)).elim
       rw [e0] at z ⊢
       have e1:dX σ [] (.ok (.ref n) σ')= .ok (.ref σ.length) (σ++[.list xs]):=by show sj σ [] σ' n .ref=_;unfold sj;rw [he,AE];rfl
       rw [e1]
       intro φ' y s' st J rv
       have ⟨_,rr,J⟩:=J.tell Lg
       exact z φ' y s' st (NP (σ:=σ)▸J _ rr.tk (cD _)) rv
      |_=>exact z.elim
    |_=>exact z.elim
def Pr (F:Fn):Prop:=∀ (i:Int) (m:Nat),0< m->Nat.blt m 1048576=true->F [.ref 0,.i (.int (.ofNat m))] [.list [.int i]]= .ok (.i (.int (i.fmod (.ofNat m)))) [.list [.int (i.fdiv (.ofNat m))]]
theorem RH {f:Nat->Nat} {i:Int} {vs:List V} (e:vs.map (gH f)=[.ref 0,.i (.int i)]):∃ n,vs=[.ref n,.i (.int i)]:=by
 cases vs with
 |nil=>cases e
 |cons v r=>cases r with
  |nil=>exact nomatch (iH e).2
  |cons w r=>cases r with
   |cons=>exact nomatch (iH (iH e).2).2
   |nil=>
    have h:gH f v= .ref 0:=(iH e).1
    have h':gH f w= .i (.int i):=(iH (iH e).2).1
    cases v with
    |ref n=>cases w with
     |i x=>exact ⟨n,aM (fun v=>[.ref n,v]) h'⟩
     |ref n=>exact V.noConfusion h'
     |sub k n=>exact V.noConfusion h'
     |pr a n=>exact V.noConfusion h'
    |i x=>exact V.noConfusion h
    |sub k n=>exact V.noConfusion h
    |pr a n=>exact V.noConfusion h
theorem Ru {β:Type} {C:β->Prop} {k:Nat->Nat->List (Nat×Nat)->β} {n:β} {xs:List I} (hn:C n) (h:∀ d j ds,xs=[.dig ((d,j)::ds)]->C (k d j ds)):C (Vq k n xs):=by
 cases xs with
 |nil=>exact hn
 |cons x r=>cases r with
  |cons=>exact hn
  |nil=>cases x with
   |dig ds=>cases ds with
    |nil=>exact hn
    |cons p ds=>exact h _ _ _ rfl
   |_=>exact hn
theorem bE.takeX (hT:Pr F) (hF:bE g base k a F):bE g base k a (Mine.takeX F):=fun c φ l σ s vs ys Q E hg hb hk I r z=>by
 unfold et at z
 cases hc:b6 σ (bz vs []) with
 |none=>rw [hc] at z;exact z.elim
 |some cs=>
  rw [hc] at z
  have key:bJ c φ l s (dX σ (bz vs []) (F (vs.map (gH (eP (bz vs [])))) cs)) Q E->c.wp (PySem.call (.ref a) ys) Q E s:=fun z=>hF c φ l σ s vs ys Q E hg hb hk I r (by unfold et;rw [hc];exact z)
  refine Ks (C:=fun q=>bJ c φ l s (dX σ (bz vs []) q) Q E->c.wp (PySem.call (.ref a) ys) Q E s) key (fun u=>key) (fun m e=>?_) z
  refine Mc (C:=fun q=>bJ c φ l s (dX σ (bz vs []) q) Q E->c.wp (PySem.call (.ref a) ys) Q E s) key fun x e2=>?_
  cases x with
  |list xs=>
   refine Ru (C:=fun q=>bJ c φ l s (dX σ (bz vs []) q) Q E->c.wp (PySem.call (.ref a) ys) Q E s) key fun d j ds e3 f=>?_
   obtain ⟨n,rfl⟩:=RH e
   subst e2 e3
   clear z key
   cases q1:Nat.beq m j && Nat.blt j 1048576 with
   |false=>rw [q1] at f;exact f.elim
   |true=>
    rw [q1] at f
    have ⟨q1,q2⟩:=cp.mp q1
    cases Nat.eq_of_beq_eq_true q1
    have hcell:aP σ n=some (.list [.dig ((d,m)::ds)]):=by
     have hc:(match aP σ n,some ([]:ai) with |some c,some cs=>some (c::cs) |_,_=>none)=some [aF.list [.dig ((d,m)::ds)]]:=hc
     cases q:aP σ n with
     |none=>rw [q] at hc;cases hc
     |some x=>rw [q] at hc;cases hc;rfl
    obtain ⟨vs2,rr,I2⟩:=I.tell hcell
    revert I2
    refine rr.consE fun u u r1 rr=>rr.nilE (r1.digE fun i t dg lo hi I2=>?_)
    obtain ⟨pm,hd,dg⟩:=dg
    have at2:∀ {y:aF},aP (putAt σ n y) n=some y:=List.getElem?_set_self (gL.mp hcell).1
    refine hF c φ l (putAt σ n (.list [.int i])) s [.ref n,.i (.int (.ofNat m))] ys Q E hg hb hk (I2 [.int i] (.cons (.int i t) .nil) rfl) r ?_
    have e1:et F [.ref n,.i (.int (.ofNat m))] (putAt σ n (.list [.int i]))= .ok (.i (.int (i.fmod m))) (putAt σ n (.list [.int (i.fdiv m)])):=by
     unfold et
     rw [show b6 (putAt σ n (.list [.int i])) (bz [V.ref n,.i (.int (.ofNat m))] [])=some [.list [.int i]] by show b6 _ [n]=_;unfold b6;rw [at2];rfl]
     show dX _ _ (F (List.map _ _) _)=_
     rw [e,hT i m pm q2]
     exact aM (RE.ok _) (List.set_set ..)
    rw [e1]
    intro φ' y s' st J rv
    have ⟨_,rr,J⟩:=J.tell at2
    revert J
    refine rr.consE fun u u r1 rr=>rr.nilE (r1.intE fun t J=>?_)
    have J:=J [.dig ds] (.cons (.dig dg (Int.fdiv_nonneg lo (x9 m)) (Int.lt_of_le_of_lt (Int.fdiv_le_self _ lo) hi)) .nil) rfl
    exact f φ' y s' st (cast (aM (fun σ=>ay c φ' l σ s'.heap) (List.set_set ..)) J) (hd▸rv:)
  |_=>exact key
end
end
section
theorem Yg {m:Nat} (h:Nat.blt m 1048576=true):sw (.ofNat m)=true:=gp (ba (aI h) (aI rfl))
theorem Xq {o k e:Ex} {l:av} {σ σ':ai} {v:V} (h:e l σ= .ok v σ'):dF o k e l σ=dF o k (fun j j=> .ok v σ') l σ:=aM (fun r:RE V=>r.bindS fun v σ=>(o l σ).bindS fun o σ=>(k l σ).bindS fun k σ=>xX o k v l σ) h
theorem XL:Pr qB:=fun i m h0 h1=>by
 cases m with
 |zero=>exact absurd h0 (A8 0)
 |succ m=>
  show RS.fin (sq (dF (aa 0) (ci 0) (af f6 (af ag (aa 0) (ci 0)) (aa 1))) (sq (al (aa 2)) ae) [some (.ref 0),some (.i (.int (.ofNat (m+1)))),some (.i (.int (i.fmod (.ofNat (m+1)))))] [.list [.int i]])=_
  unfold sq
  rw [Xq (v:= .i (.int (i.fdiv (.ofNat (m+1))))) (σ':=[.list [.int i]]) (by show gd (Cp _ && sw _) _=_;rw [Yg h1];rfl)]
  rfl
section
variable {g:G} {base:Heap} {k:Nat} {mg mb:Str->Option Value} {bn:List Str} {T:lV}
theorem stG (H:bH g base mg mb bn) (t:aq g base k T) (x:Str) (f:Addr) (s:Stmt) (n:Nat) (names:List Str) (F G:Fn) (hG:bE g base (k+1) f F->bE g base (k+1) f G) (h:ZA H t x f s n names=aaS g x f s n names F:=by kernel_rfl):aq g base (k+1) (aA T x f G):=
 have a:=aT h
 have b:=aT a.2
 have c:=aT b.2
 have d:=aT c.2
 have e:=aT d.2
 have ⟨h1,h2,h3⟩:=cw c.1
 have ⟨d1,d2⟩:=Do H t a.1 b.1 h1 (pj d.1 h2)
 t.fn ⟨hG (e.1▸d1),d2⟩ e.2 h3
end
section
variable {la:Addr} {lv:List (Int×Tok)} {p:Program} {w:World} {base:Heap} {mg mb:Str->Option Value} {bn:List Str} (H:bH ⟨p,w,DD la lv⟩ base mg mb bn)
include H
def Vl:=aA Vh "_law_take" 1171 aH
theorem k_125:aq ⟨p,w,DD la lv⟩ base 125 Vl:=stG H (k_124 H) "_law_take" 1171 (st 158) 2 ["tape", "many", "digit"] qB aH (bE.takeX XL)
def VD:=aA Vl "_law_block" 1176 cB
theorem k_126:aq ⟨p,w,DD la lv⟩ base 126 VD:=aR H (k_125 H) "_law_block" 1176 (st 159) 3 ["head", "rows", "tape", "way", "row"] cB
def UQ:=aA VD "_law_meter" 1183 rP
theorem k_127:aq ⟨p,w,DD la lv⟩ base 127 UQ:=aR H (k_126 H) "_law_meter" 1183 (st 160) 3 ["tape", "kind", "name", "is_over", "n", "told", "body", "about", "head"] rP
def Wo:=aA UQ "_law_expectation" 1190 iJ
theorem k_128:aq ⟨p,w,DD la lv⟩ base 128 Wo:=aR H (k_127 H) "_law_expectation" 1190 (st 161) 3 ["tape", "family", "name", "rows", "protocol", "nfproto", "way", "turn"] iJ
def Uu:=aA Wo "_law_names" 1197 pV
theorem k_129:aq ⟨p,w,DD la lv⟩ base 129 Uu:=aR H (k_128 H) "_law_names" 1197 (st 162) 2 ["family", "hook", "names", "places"] pV
def Vo:=aA Uu "_law_priority" 1204 dG
theorem k_130:aq ⟨p,w,DD la lv⟩ base 130 Vo:=aR H (k_129 H) "_law_priority" 1204 (st 163) 3 ["tape", "family", "hook", "names", "name", "n", "more", "way"] dG
def U7:=aA Vo "_law_flowtable" 1211 fD
theorem k_131:aq ⟨p,w,DD la lv⟩ base 131 U7:=aR H (k_130 H) "_law_flowtable" 1211 (st 164) 3 ["tape", "family", "name", "text", "n", "rows"] fD
def Ws:=aA U7 "_law_chain" 1216 lD
theorem k_132:aq ⟨p,w,DD la lv⟩ base 132 Ws:=aR H (k_131 H) "_law_chain" 1216 (st 165) 4 ["tape", "family", "table", "name", "about", "rows", "rules", "_", "a_type", "hook", "device", "text", "n", "policy", "rule", "made"] lD
def Vb:=aA Ws "_law_elements" 1221 iB
theorem k_133:aq ⟨p,w,DD la lv⟩ base 133 Vb:=aR H (k_132 H) "_law_elements" 1221 (st 166) 3 ["tape", "types", "data", "texts", "literals", "_", "picked", "name", "text", "one", "timeout", "datum"] iB
def UO:=aA Vb "_law_set" 1226 pC
theorem k_134:aq ⟨p,w,DD la lv⟩ base 134 UO:=aR H (k_133 H) "_law_set" 1226 (st 167) 4 ["tape", "family", "table", "name", "kind", "types", "data", "head", "picks", "flags", "k", "flag", "timeout", "size", "is_merge", "rows", "text", "literals", "told", "made"] pC
def V9:=aA UO "_law_piece" 1233 df
theorem k_135:aq ⟨p,w,DD la lv⟩ base 135 V9:=aR H (k_134 H) "_law_piece" 1233 (st 168) 4 ["number", "family", "table", "name", "tape", "way", "kind", "text", "about"] df
def Vx:=aA V9 "_law_command" 1240 eC
theorem H5:aq ⟨p,w,DD la lv⟩ base 136 Vx:=aR H (k_135 H) "_law_command" 1240 (st 169) 3 ["number", "family", "table", "tape", "way", "rule", "n", "at", "verb", "word", "sort", "text", "box"] eC
end
end
section
structure Gr (dx:Addr) (s s':Shared):Prop where
 keep:∀ b o,b≠dx->s.heap.get? b=some o->s'.heap.get? b=some o
 same:s'.gens=s.gens/\s'.drawn=s.drawn/\s'.os=s.os
structure AM (g:G) (base:Heap) (env:Env) (m:Str->Option Value) (C x dx:Addr) (kvs:List (String×Value)) (s:Shared):Prop where
 st:base.StaysIn s.heap
 nb:base.get? dx=none
 ns:s.heap.Ns env.locals m
 obj:s.heap.get? x=some (instObj C dx)
 D:cX g.w.params s.heap dx kvs
 nl:env.locals≠dx
section
variable {g:G} {A:Around} {E:Value->Shared->Prop} {base:Heap} {s s' s₁ s₂:Shared} {env:Env} {mg mb:Str->Option Value} {bn:List Str} {C x dx:Addr} {kvs:List (String×Value)} {m:Str->Option Value} {v:Value} {h':Heap} {z:Str} {pos:Pos} {t:Nat} {k:String} {f f':Value} {R:Result->Shared->Prop}
theorem Gr.trans (a:Gr dx s s₁) (b:Gr dx s₁ s₂):Gr dx s s₂:=⟨fun c o n h=>b.keep c o n (a.keep c o n h),b.same.1.trans a.same.1,b.same.2.1.trans a.same.2.1,b.same.2.2.trans a.same.2.2⟩
theorem AM.ne (M:AM g base env m C x dx kvs s):x≠dx:=fun q=>by
 obtain ⟨es,n,h,_⟩:=M.D
 have o:=M.obj
 rw [q,h] at o;cases o
theorem AM.grow (M:AM g base env m C x dx kvs s) (k:∀ b o,s.heap.get? b=some o->s'.heap.get? b=some o):AM g base env m C x dx kvs s':=
 ⟨fun b o e=>k b o (M.st b o e),M.nb,M.ns.at' (fun o=>k _ o),k _ _ M.obj,M.D.keep (k _),M.nl⟩
theorem Pa {E':Value->Shared->Prop} {Q:Value->Shared->Prop} (M:AM g base env m C x dx kvs s) (hk:env.scope.kind= .function) (hl:env.kindOf z=some .local) (hv:m z=some v) (hd:(z==("__debug__" :Str))=false) (h:Q v s):wpAny g.M A (eval (.Name z pos) env) Q E' s:=
 wpAny_Name (HG hk hl M.ns hv h) hd
theorem Xi {Q:Unit->Shared->Prop} (X:(K g.w.params).In s.heap) (CK:rH (K g.w.params) C) (hx:s.heap.get? x=some (instObj C dx)) (D:cX g.w.params s.heap dx kvs) (hz:kvs.length<=1000) (na:ul (K g.w.params) C (Str.ofString k)) (hf:dD kvs (Str.ofString k)=none)
  (q:∀ h' t,(∀ b,b≠dx->h'.get? b=s.heap.get? b)->cX g.w.params h' dx (kvs++[(k,v)])->Q () {s with heap:=h',toks:=t}):wpAny g.M A (setAttr (.ref x) (Str.ofString k) v) Q E s:=by
 obtain ⟨es,n,hd,r⟩:=id D
 have J:=zY hx hd
 refine set_plain X J CK.sa (osa_open X J CK.po (r:=none) (by unfold takerIn;rw [na];rfl) fun b=>?_)
 obtain ⟨cd,hcd,hdd⟩:=any_some CK.hd
 refine ax (aY (ax (ax (zG hx ?_))))
 refine ax (looks_clsIn X hcd _ _ _ _ (fun j j e=>e) ?_)
 rw [hdd]
 refine aY (a:=some dx) (ax (aY (ax (B9 (s:={s with toks:=s.toks+1}) D hf fun h' t ot D'=>?_))))
 obtain ⟨es',n',hd',ar⟩:=id D'
 exact ax (wpAny_lookBehind hd' (pastItsLine_dict (by rw [e7,ar.len,wj,bd];exact ba (gu hz) (aI rfl))) (aY (q h' t ot D')))
theorem f4 {p1 pos' pos:Pos} {val:PySem.Expr} {Q:PySem.Flow->Shared->Prop} (X:(K g.w.params).In base) (CK:rH (K g.w.params) C) (hk:env.scope.kind= .function) (kl:env.kindOf (S "self")=some .local) (ms:m (S "self")=some (.ref x)) (M:AM g base env m C x dx kvs s) (pv:dJ val=true) (hz:kvs.length<=1000)
  (na:ul (K g.w.params) C (Str.ofString k)) (hf:dD kvs (Str.ofString k)=none)
  (hv:wpAny g.M A (eval val env) (fun y s₁=>Gr dx s s₁/\AM g base env m C x dx kvs s₁/\∀ s',(∀ b,b≠dx->s'.heap.get? b=s₁.heap.get? b)->Gr dx s s'->AM g base env m C x dx (kvs++[(k,y)]) s'->Q .next s') E s):
  wpAny g.M A (exec (.Assign [.Attribute (.Name (S "self") p1) (Str.ofString k) pos'] val pos) env) Q E s:=
 OH (cQ hv (fun y s₁ ⟨gr,M₁,q⟩=>Pa M₁ hk kl ms (by decide) (Xi (X.keeps M₁.st) CK M₁.obj M₁.D hz na hf fun h' t ot D'=>q _ ot (gr.trans ⟨fun b o n e=>(ot b n).trans e,rfl,rfl,rfl⟩)
  ⟨fun b o e=>(ot b fun q=>nomatch (q▸M₁.nb).symm.trans e).trans (M₁.st b o e),M₁.nb,M₁.ns.at' (fun o e=>(ot _ M₁.nl).trans e),(ot _ M₁.ne).trans M₁.obj,D',M₁.nl⟩)) fun j j q=>q) (eE pv)
theorem Jy {f cd:Addr} {st:Stmt} {qual:Str} {dfl pm:Value} {ns:List Str} {body:List Stmt} {ys:List Value} (X:(K g.w.params).In base) (hl:(K g.w.params).lookup f=some (fO st qual dfl pm cd)) (hc:codeIn (K g.w.params) (.ref cd) qual=true) (hk:qJ st ns ns) (hb:hA st=body)
  (bt:BindsTo s (tF st qual dfl pm cd) ⟨ys,[]⟩ (ns.zip ys)) (hl:ys.length=ns.length) (nl:base.NoLimit) (sy:base.StaysIn s.heap) (hx:s.heap.get? x=some (instObj C dx)) (D:cX g.w.params s.heap dx []) (nb:base.get? dx=none) (room:A.depth< recursionLimit)
  (q:∀ env m s₁,env.scope.kind= .function->(∀ x,(dZ st).names.lookup x=some .local->env.kindOf x=some .local)->(∀ x y,(x,y)∈ns.zip ys->(dZ st).names.lookup x=some .local->m x=some y)->(∀ b o,s.heap.get? b=some o->s₁.heap.get? b=some o)->Gr dx s s₁->AM g base env m C x dx [] s₁->
   wpAny g.M (A.deeper env) (execs body env) (fun f s'=>f= .next/\R (.ok (.ret .none)) s') (fun e s'=>wpAny g.M (A.deeper env) (leaving env e) (fun j s''=>R (.error e) s'') (fun e' s''=>R (.error e') s'') s') s₁):codeAny g.M A (.call (.ref f) ⟨ys,[]⟩) R s:=by
 have DO:=gh.of X ‹_› hc hk
 rw [hb] at DO
 refine ei DO sy nl room bt (fun x hx=>(Cs hx).1) fun s₁ ic=>?_
 obtain ⟨⟨⟨h1,tk,rfl⟩,ns1,keep,_⟩,_,_,_⟩:=ic
 refine cQ (q _ _ _ DO.kind (fun j=>id) (fun x y m hk=>(BK (by rw [HE (FF hl.symm)];exact DO.nd)).2 y m hk) keep ⟨fun b o j=>keep b o,rfl,rfl,rfl⟩ ⟨fun b o z=>keep b o (sy b o z),nb,ns1,keep _ _ hx,D.keep (keep _),fun z=>?_⟩) (fun f s' z=>?_) fun j j z=>z
 ·obtain ⟨es,n,d,_⟩:=D
  rw [<-z] at d
  exact nomatch (a0 s.heap).symm.trans d
 ·obtain ⟨rfl,z⟩:=z
  exact z
theorem b99:∃ p1 p2 p3 p4 p5 p6 p7 p8,hA (mt 8 0)=[.Assign [.Attribute (.Name (S "self") p1) (S "fields") p2] (.Name (S "fields") p3) p4,.Assign [.Attribute (.Name (S "self") p5) (S "types") p6] (.Name (S "types") p7) p8]:=⟨_,_,_,_,_,_,_,_,rfl⟩
theorem b435:∃ p1 p2 p3 p4 p5 p6 p7 p8 p9 q1 q2 q3 q4 q5 q6 q7 q8 q9 r1 r2 r3 r4 r5 r6 k1 k2 k3,hA (mt 59 0)=[.Assign [.Attribute (.Name (S "self") p1) (S "tokens") p2] (.Name (S "tokens") p3) p4,.Assign [.Attribute (.Name (S "self") p5) (S "at") p6] (.Constant (.int 0) k1 p7) p8,.Assign [.Attribute (.Name (S "self") p9) (S "tongue") q1] (.Name (S "tongue") q2) q3,
 .Assign [.Attribute (.Name (S "self") q4) (S "known") q5] (.Dict [] [] q6) q7,.Assign [.Attribute (.Name (S "self") q8) (S "family") q9] (.Constant (.str (S "")) k2 r1) r2,.Assign [.Attribute (.Name (S "self") r3) (S "table") r4] (.Constant (.str (S "")) k3 r5) r6]:=⟨_,_,_,_,_,_,_,_,_,_,_,_,_,_,_,_,_,_,_,_,_,_,_,_,_,_,_,rfl⟩
theorem run99 (B:dw g.w base mg mb bn) (CK:rH (K g.w.params) 102) (nl:base.NoLimit) (sy:base.StaysIn s.heap) (hx:s.heap.get? x=some (instObj 102 dx)) (D:cX g.w.params s.heap dx []) (nb:base.get? dx=none) (room:A.depth< recursionLimit)
  (q:∀ s',Gr dx s s'->s'.heap.get? x=some (instObj 102 dx)->cX g.w.params s'.heap dx [("fields",f),("types",f')]->R (.ok (.ret .none)) s'):codeAny g.M A (.call (.ref 99) ⟨[.ref x,f,f'],[]⟩) R s:=by
 obtain ⟨p1,p2,p3,p4,p5,p6,p7,p8,hb⟩:=b99
 refine Jy (f:=99) (st:=mt 8 0) (qual:=S "Tongue.__init__") (dfl:= .none) (pm:= .str (S "siftwall.fields") 292) (cd:=98) (ns:=[S "self",S "fields",S "types"]) B.X (by kernel_rfl) (by kernel_rfl) (cw (by kernel_rfl)) hb (BindsTo.of_eq (by kernel_rfl)) rfl nl sy hx D nb room fun env m s₁ hk kl mm kp gr M=>?_
 have ks:=kl (S "self") (by kernel_rfl)
 have ms:m (S "self")=some (.ref x):=mm _ _ (.head _) (by kernel_rfl)
 refine iS (f4 (k:= "fields") B.X CK hk ks ms M rfl (dI _) (by show findIn _ _ _=_;kernel_rfl) rfl (Pa M hk (kl _ (by kernel_rfl)) (mm _ f (.tail _ (.head _)) (by kernel_rfl)) (by decide) ⟨⟨fun j j j e=>e,rfl,rfl,rfl⟩,M,fun s2 j g2 M2=>?_⟩))
 refine iS (f4 (k:= "types") B.X CK hk ks ms M2 rfl (aI rfl) (by show findIn _ _ _=_;kernel_rfl) (by kernel_rfl) (Pa M2 hk (kl _ (by kernel_rfl)) (mm _ f' (.tail _ (.tail _ (.head _))) (by kernel_rfl)) (by decide) ⟨⟨fun j j j e=>e,rfl,rfl,rfl⟩,M2,fun s3 j g3 M3=>?_⟩))
 exact yh ⟨rfl,q s3 (gr.trans (g2.trans g3)) M3.obj M3.D⟩
theorem Zt (B:dw g.w base mg mb bn) (CK:rH (K g.w.params) 502) (nl:base.NoLimit) (sy:base.StaysIn s.heap) (hx:s.heap.get? x=some (instObj 502 dx)) (D:cX g.w.params s.heap dx []) (nb:base.get? dx=none) (room:A.depth< recursionLimit)
  (q:∀ s' kn t1 t2 t3,Gr dx s s'->s'.heap.get? x=some (instObj 502 dx)->cX g.w.params s'.heap dx [("tokens",f),("at",.int 0 t1),("tongue",f'),("known",.ref kn),("family",.str "" t2),("table",.str "" t3)]->s.heap.get? kn=none->s'.heap.get? kn=some {cls:= .type "dict",data:= .dict #[]}->R (.ok (.ret .none)) s'):codeAny g.M A (.call (.ref 435) ⟨[.ref x,f,f'],[]⟩) R s:=by
 obtain ⟨p1,p2,p3,p4,p5,p6,p7,p8,p9,q1,q2,q3,q4,q5,q6,q7,q8,q9,r1,r2,r3,r4,r5,r6,k1,k2,k3,hb⟩:=b435
 refine Jy (f:=435) (st:=mt 59 0) (qual:=S "Reader.__init__") (dfl:= .none) (pm:= .str (S "siftwall.tokens") 707) (cd:=434) (ns:=[S "self",S "tokens",S "tongue"]) B.X (by kernel_rfl) (by kernel_rfl) (cw (by kernel_rfl)) hb (BindsTo.of_eq (by kernel_rfl)) rfl nl sy hx D nb room fun env m s₁ hk kl mm kp gr M=>?_
 have ks:=kl (S "self") (by kernel_rfl)
 have ms:m (S "self")=some (.ref x):=mm _ _ (.head _) (by kernel_rfl)
 have rf:∀ {s:Shared} {t:Nat},Gr dx s {s with toks:=t}:=⟨fun j j j e=>e,rfl,rfl,rfl⟩
 refine iS (f4 (k:= "tokens") B.X CK hk ks ms M rfl (dI _) (by show findIn _ _ _=_;kernel_rfl) rfl (Pa M hk (kl _ (by kernel_rfl)) (mm _ f (.tail _ (.head _)) (by kernel_rfl)) (by decide) ⟨rf,M,fun s2 j g2 M2=>?_⟩))
 refine iS (f4 (k:= "at") B.X CK hk ks ms M2 rfl (aI rfl) (by show findIn _ _ _=_;kernel_rfl) (by kernel_rfl) (D2 ⟨rf,M2.grow fun j j e=>e,fun s3 j g3 M3=>?_⟩))
 refine iS (f4 (k:= "tongue") B.X CK hk ks ms M3 rfl (aI rfl) (by show findIn _ _ _=_;kernel_rfl) (by kernel_rfl) (Pa M3 hk (kl _ (by kernel_rfl)) (mm _ f' (.tail _ (.tail _ (.head _))) (by kernel_rfl)) (by decide) ⟨rf,M3,fun s4 j g4 M4=>?_⟩))
 have g4:=gr.trans (g2.trans (g3.trans g4))
 have nk:s4.heap.objs.size≠dx:=fun z=>by
  obtain ⟨es,n,d,_⟩:=M4.D
  rw [<-z] at d
  exact nomatch (a0 s4.heap).symm.trans d
 refine iS (f4 (k:= "known") B.X CK hk ks ms M4 rfl (aI rfl) (by show findIn _ _ _=_;kernel_rfl) (by kernel_rfl) (wpAny_Dict_empty ⟨⟨fun b o j e=>eB _ e,rfl,rfl,rfl⟩,M4.grow fun b o e=>eB _ e,fun s5 o5 g5 M5=>?_⟩))
 refine iS (f4 (k:= "family") B.X CK hk ks ms M5 rfl (aI rfl) (by show findIn _ _ _=_;kernel_rfl) (by kernel_rfl) (wpAny_Constant_str ⟨rf,M5.grow fun j j e=>e,fun s6 j g6 M6=>?_⟩))
 refine iS (f4 (k:= "table") B.X CK hk ks ms M6 rfl (aI rfl) (by show findIn _ _ _=_;kernel_rfl) (by kernel_rfl) (wpAny_Constant_str ⟨rf,M6.grow fun j j e=>e,fun s7 j g7 M7=>?_⟩))
 exact yh ⟨rfl,q s7 _ _ _ _ (g4.trans (g5.trans (g6.trans g7))) M7.obj M7.D (kJ.mpr fun o z=>nomatch (a0 s4.heap).symm.trans (g4.keep _ o nk z)) ((g6.trans g7).keep _ _ nk ((o5 _ nk).trans (fB _ rfl)))⟩
end
end
section
section
variable {g:G} {A:Around} {E:Value->Shared->Prop} {base:Heap} {s s':Shared} {mg mb:Str->Option Value} {bn:List Str} {x dx:Addr} {f f':Value} {Q:Value->Shared->Prop} {c:aS} {e:SE} {k:Nat}
theorem GK {C i:Addr} {ys:List Value} (X:(K g.w.params).In s.heap) (h1:makesIn (K g.w.params) C=true) (h2:findIn (K g.w.params) (.ref C) "__init__" =some (some (.ref i))) (h3:typeIn (K g.w.params) (.ref i)=some (.type "function"))
  (q:∀ x dx s₁,(∀ b o,s.heap.get? b=some o->s₁.heap.get? b=some o)->s.heap.get? x=none->s.heap.get? dx=none->s₁.heap.get? x=some (instObj C dx)->cX g.w.params s₁.heap dx []->s₁.gens=s.gens/\s₁.drawn=s.drawn/\s₁.os=s.os->
   codeAny g.M (A.under (.builtin "type.__call__" ⟨.ref C::ys,[]⟩)) (.call (.ref i) ⟨.ref x::ys,[]⟩) (InitBack x (fun r s'=>match r with | .ok (.ret v)=>Q v s' | .ok _=>False | .error e=>E e s')) s₁):wpAny g.M A (PySem.call (.ref C) ys) Q E s:=by
 obtain ⟨h,g',d,t,os⟩:=s
 have hz:(h.push emptyDict).objs.size=h.objs.size+1:=Heap.size_push ..
 have o1:=fB (h.push emptyDict) (o:=instObj C h.objs.size) rfl
 rw [hz] at o1
 exact zA (make_core (init:= .ref i) (makes_of X h1) (looks_findIn X h2) (fun self=>bind_fn X self h3) (.inl rfl) (q _ _ _ (fun b o e=>eB _ (eB _ e)) (BE (iD _)) (a0 _) o1 ⟨[],0,eB _ (fB _ rfl),.nil⟩ ⟨rfl,rfl,rfl⟩))
theorem z7 (st:base.StaysIn s.heap) {b:Addr} (n:s.heap.get? b=none):base.get? b=none:=kJ.mpr fun o z=>nomatch n.symm.trans (st b o z)
theorem Lz (B:dw g.w base mg mb bn) (CK:rH (K g.w.params) 102) (nl:base.NoLimit) (st:base.StaysIn s.heap) (room:A.depth+10< recursionLimit)
  (q:∀ s' x dx,(∀ b o,s.heap.get? b=some o->s'.heap.get? b=some o)->s.heap.get? x=none->s.heap.get? dx=none->x≠dx->s'.heap.get? x=some (instObj 102 dx)->cX g.w.params s'.heap dx [("fields",f),("types",f')]->s'.gens=s.gens/\s'.drawn=s.drawn/\s'.os=s.os->Q (.ref x) s'):wpAny g.M A (PySem.call (.ref 102) [f,f']) Q E s:=
 GK (i:=99) (B.X.keeps st) (by kernel_rfl) (by kernel_rfl) (by kernel_rfl) fun x dx s₁ kp nx nd ox D sm=>run99 B CK nl (fun b o z=>kp b o (st b o z)) ox D (z7 st nd) (by
  have hw:(Code.builtin "type.__call__" ⟨.ref 102::[f,f'],[]⟩).weight=1:=by kernel_rfl
  show A.depth+(Code.builtin "type.__call__" ⟨.ref 102::[f,f'],[]⟩).weight< recursionLimit
  omega) fun s' gr o' D'=>⟨rfl,q s' x dx (fun b o z=>gr.keep b o (fun y=>nomatch (y▸nd).symm.trans z) (kp b o z)) nx nd (fun y=>by
   obtain ⟨es,n,d,_⟩:=D'
   rw [<-y,o'] at d;cases d) o' D' ⟨gr.same.1.trans sm.1,gr.same.2.1.trans sm.2.1,gr.same.2.2.trans sm.2.2⟩⟩
theorem Lv (B:dw g.w base mg mb bn) (CK:rH (K g.w.params) 502) (nl:base.NoLimit) (st:base.StaysIn s.heap) (room:A.depth+10< recursionLimit)
  (q:∀ s' x dx kn t1 t2 t3,(∀ b o,s.heap.get? b=some o->s'.heap.get? b=some o)->s.heap.get? x=none->s.heap.get? dx=none->s.heap.get? kn=none->x≠dx->x≠kn->dx≠kn->s'.heap.get? x=some (instObj 502 dx)->cX g.w.params s'.heap dx [("tokens",f),("at",.int 0 t1),("tongue",f'),("known",.ref kn),("family",.str "" t2),("table",.str "" t3)]->
   s'.heap.get? kn=some {cls:= .type "dict",data:= .dict #[]}->s'.gens=s.gens/\s'.drawn=s.drawn/\s'.os=s.os->Q (.ref x) s'):wpAny g.M A (PySem.call (.ref 502) [f,f']) Q E s:=
 GK (i:=435) (B.X.keeps st) (by kernel_rfl) (by kernel_rfl) (by kernel_rfl) fun x dx s₁ kp nx nd ox D sm=>Zt B CK nl (fun b o z=>kp b o (st b o z)) ox D (z7 st nd) (by
  have hw:(Code.builtin "type.__call__" ⟨.ref 502::[f,f'],[]⟩).weight=1:=by kernel_rfl
  show A.depth+(Code.builtin "type.__call__" ⟨.ref 502::[f,f'],[]⟩).weight< recursionLimit
  omega) fun s' kn t1 t2 t3 gr o' D' nk ok=>⟨rfl,q s' x dx kn t1 t2 t3 (fun b o z=>gr.keep b o (fun y=>nomatch (y▸nd).symm.trans z) (kp b o z)) nx nd (z7 kp nk) (fun y=>by
   obtain ⟨es,n,d,_⟩:=D'
   rw [<-y,o'] at d;cases d) (fun y=>nomatch (y▸ox).symm.trans nk) (fun y=>by
   obtain ⟨es,n,d,_⟩:=D
   rw [y,nk] at d;cases d) o' D' ok ⟨gr.same.1.trans sm.1,gr.same.2.1.trans sm.2.1,gr.same.2.2.trans sm.2.2⟩⟩
end
section
variable {D:fj} {g:G} {φ₁ φ₂:a9} {h h₁ h₂ h₄:Heap} {σ₁:ai} {c:aS} {l:av}
def V1 (n:Nat):V->Prop
 | .i _=>True
 | .ref m=>m< n
 | .sub _ m=>m< n
 | .pr _ m=>m< n
theorem Er {φ:a9} {n:Nat} {as:List Addr} (e:φ[n]?=some as):n< φ.length:=(gL.mp e).1
theorem aB.vin {φ:a9} {v:V} {y:Value} (r:aB D φ h v y):V1 φ.length v:=r.rec (motive:=fun v j j=>V1 φ.length v) (fun j=>trivial) Er Er Er Er fun j j=>Er
theorem yJ {z:a9} {n:Nat} {as:List Addr} (e:(φ₁++z)[n]?=some as) (q:n< φ₁.length):φ₁[n]?=some as:=(List.getElem?_append_left q).symm.trans e
theorem aB.cut {z:a9} {v:V} {y:Value} (q:aB D (φ₁++z) h v y):V1 φ₁.length v->aB D φ₁ h v y:=q.rec (motive:=fun v y j=>V1 φ₁.length v->aB D φ₁ h v y) (fun a j=> .i a) (fun e n=> .ref (yJ e n)) (fun e n=> .tng (yJ e n)) (fun e n=> .tks (yJ e n)) (fun e n=> .kno (yJ e n)) fun a b e n=> .pr a b (yJ e n)
theorem SR.init {x:aF} {as:List Addr} {φ:a9} {σ:ai} (S:SR g h (σ++[x]) (φ++[as])) (e:σ.length=φ.length):SR g h σ φ/\CR g h x as:=by
 induction σ generalizing φ with
 |nil=>cases φ with
  |nil=>cases S with |cons a _=>exact ⟨.nil,a⟩
  |cons=>cases e
 |cons y σ ih=>cases φ with
  |nil=>cases e
  |cons b φ=>cases S with |cons a S=>exact ⟨.cons a (ih S (EK e)).1,(ih S (EK e)).2⟩
theorem ay.drop {x:aF} {as:List Addr} (I₁:ay c φ₁ l σ₁ h₁) (I:ay c (φ₁++[as]) l (σ₁++[x]) h):ay c φ₁ l σ₁ h:=
 ⟨I.st,I.stay,I.frm,(I.sto.init I₁.sto.len).1,I₁.nd,fun b m=>I.off b (uk (j3 _ _) m),fun x n v h1 h2=>let ⟨_,_,r'⟩:=I₁.vars x n v h1 h2;let ⟨y,a,r⟩:=I.vars x n v h1 h2;⟨y,a,r.cut r'.vin⟩,I.nsx,I.cells⟩
end
end
section
section
variable {c:aS} {φ₁:a9} {l:av} {σ σ₁:ai} {s₁ s₂ s₄:Shared} {mg mb:Str->Option Value} {bn:List Str} {k:Nat}
theorem nd6 {a b t d e f:Addr} {h h':Heap} (k:∀ b o,h.get? b=some o->h'.get? b=some o) (h1:a≠b) (h2:a≠d) (h3:b≠d) (h4:e≠f) (na:h'.get? a=none) (nb:h'.get? b=none) (nd:h'.get? d=none) (ht:∃ o,h.get? t=some o) (ne:h.get? e=none) (nf:h.get? f=none) (he:∃ o,h'.get? e=some o) (hf:∃ o,h'.get? f=some o):([a,b,t,d,e,f]:List Addr).Nodup:=by
 have n1:∀ {x y:Addr},(∃ o,h'.get? x=some o)->h'.get? y=none->x≠y:=fun ⟨o,e⟩ n q=>nomatch (q▸e).symm.trans n
 have n2:∀ {y:Addr},h.get? y=none->t≠y:=fun n q=>let ⟨o,e⟩:=ht;nomatch (q▸e).symm.trans n
 have ht':∃ o,h'.get? t=some o:=ht.imp fun o=>k _ o
 have c1:∀ {x y:Addr} {l:List Addr},x≠y->x∉l->x∉y::l:=List.not_mem_cons_of_ne_of_not_mem
 exact ej.mpr ⟨c1 h1 (c1 (n1 ht' na).symm (c1 h2 (c1 (n1 he na).symm (c1 (n1 hf na).symm fK)))),ej.mpr ⟨c1 (n1 ht' nb).symm (c1 h3 (c1 (n1 he nb).symm (c1 (n1 hf nb).symm fK))),ej.mpr ⟨c1 (n1 ht' nd) (c1 (n2 ne) (c1 (n2 nf) fK)),ej.mpr ⟨c1 (n1 he nd).symm (c1 (n1 hf nd).symm fK),ej.mpr ⟨c1 h4 fK,ej.mpr ⟨fK,.nil⟩⟩⟩⟩⟩⟩
theorem ay.reader {ts:List I} {tok x dx kn tg tgd:Addr} {t1 t2 t3:Tok} (I₁:ay c φ₁ l σ₁ s₁.heap) (st:aL c φ₁ s₁ (φ₁++[[tok]]) s₂) (I₂:ay c (φ₁++[[tok]]) l (σ₁++[.list ts]) s₂.heap) (keep:∀ b o,s₂.heap.get? b=some o->s₄.heap.get? b=some o) (same:s₄.gens=s₂.gens/\s₄.drawn=s₂.drawn/\s₄.os=s₂.os)
  (n:∀ b∈[x,dx,tok,kn,tg,tgd],b=tok\/s₂.heap.get? b=none) (nd:([x,dx,tok,kn,tg,tgd]:List Addr).Nodup) (hx:s₄.heap.get? x=some (instObj c.g.D.rd dx)) (D:cX c.g.w.params s₄.heap dx [("tokens",.ref tok),("at",.int 0 t1),("tongue",.ref tg),("known",.ref kn),("family",.str "" t2),("table",.str "" t3)])
  (hk:s₄.heap.get? kn=some {cls:= .type "dict",data:= .dict #[]}) (hg:s₄.heap.get? tg=some (instObj c.g.D.tg tgd)) (G:cX c.g.w.params s₄.heap tgd [("fields",.ref (c.g.D.fd 1)),("types",.ref (c.g.D.fd 0))]):
  ay c (φ₁++[[x,dx,tok,kn,tg,tgd]]) l (σ₁++[.rd [] ts [] (.str []) (.str [])]) s₄.heap/\aL c φ₁ s₁ (φ₁++[[x,dx,tok,kn,tg,tgd]]) s₄:=by
 have mt:tok∈own (φ₁++[[tok]]):=eA.mpr (.inr (.head _))
 have nt:tok∉own φ₁:=fun m=>by
  have q:=I₂.nd
  rw [l9] at q
  exact (C0.mp q).2.2 tok m tok (.head _) rfl
 have IR:∀ t,aX c.g.D s₄.heap (.str []) (.str "" t):=fun t=> .str [] t ⟨dI _,nofun⟩
 cases (I₂.sto.init I₁.sto.len).2 with |list ho rr hl=>
 have J:=I₁.drop I₂
 have g:fR c (fun j=>False) s₂.heap s₄.heap:= .all keep
 have tk:=g.tk nofun I₂.nsx
 exact ⟨J.to g nofun (j3 _ _) ((J.mono g).sto.snoc (.rd ⟨hx,⟨t1,_,_,D,IR _,IR _⟩,⟨_,_,keep _ _ ho,rr.keep tk,hl⟩,⟨[],⟨_,#[],0,hk,⟨rfl,rfl,rfl⟩,rfl,rfl,nofun,.nil⟩,.nil,dI _⟩,hg,G⟩)) (ut I₁.nd nd fun b m q=>(n b m).elim (fun e=>nt (e▸q)) fun e=>(I₂.new e).2 (uk (j3 _ _) q))
   fun b m=>(eA.mp m).imp id fun m=>(n b m).elim (fun e=>e▸I₂.off _ mt) fun e=>(I₂.new e).1,
  j3 _ _,fun b m=>(eA.mp m).elim .inl fun m=>(n b m).elim (fun e=>e▸st.new _ mt) fun e=> .inr (st.no I₁ I₂ e),fun b o e n1 n2=>(st.keep b o e n1 n2).imp fun j=> .imp (keep _ _) id,fun b hb o e=>(st.tch b hb o e).imp fun j=> .imp (keep _ _) id,same.1.trans st.same.1,same.2.1.trans st.same.2.1,same.2.2.trans st.same.2.2⟩
theorem PR {C:Addr} {x:Str} {e1 e2:PySem.Expr} {p pos:Pos} {s:Shared} {W E:Value->Shared->Prop} (X:(K c.g.w.params).In c.base) (hg:dh c x (.ref C)) (hk:keepIn (K c.g.w.params) (.ref C)=true) (n1:bI e1=true) (n2:bI e2=true) (st:c.base.StaysIn s.heap)
  (h:c.wp (eval e1 c.env) (fun y s₁=>c.wp (eval e2 c.env) (fun z s₂=>c.base.StaysIn s₂.heap/\c.wp (PySem.call (.ref C) [y,z]) W E s₂) E s₁) E s):c.wp (eval (.Call (.Name x p) [e1,e2] [] pos) c.env) W E s:=
 zp (hg s _ _ _ st (by
  rw [show backTo pos (starEach [e1,e2] c.env)=[(false,eval e1 c.env),(false,eval e2 c.env)] by rw [eO n1,eO n2];rfl]
  exact callWith_of (P:=fun h=>(K c.g.w.params).In h) rfl (keeps_K hk) (A5 (cQ h (fun j j q=>cQ q (fun j j q=>⟨X.keeps q.1,q.2⟩) fun j j q=>q) fun j j q=>q))))
theorem Ol {z:Str} {n:Nat} {p4 p5 p6 p7:Pos} {ts:List I} {y2:Value} {φ₂:a9} {Q:PySem.Flow->Shared->Prop} {E:Value->Shared->Prop} (B:dw c.g.w c.base mg mb bn) (RK:sM (K c.g.w.params) c.g.D) (d1:c.g.D.rd=502) (d2:c.g.D.tg=102) (d3:c.g.D.fd 1=1106) (d4:c.g.D.fd 0=1097)
  (g3:dh c (S "Tongue") (.ref 102)) (g4:dh c (S "_law_fields") (.ref 1106)) (g5:dh c (S "_law_types") (.ref 1097)) (sl:kU c z n) (I₁:ay c φ₁ l σ₁ s₁.heap) (st2:aL c φ₁ s₁ φ₂ s₂) (I₂:ay c φ₂ l (σ₁++[.list ts]) s₂.heap) (rv:aB c.g.D φ₂ s₂.heap (.ref σ₁.length) y2)
  (f:bh c φ₁ s₁ (.ok .nxt (bK l n (.ref σ₁.length)) (σ₁++[aF.rd [] ts [] (.str []) (.str [])])) Q E):
  c.wp (eval (.Call (.Name (S "Tongue") p4) [.Name (S "_law_fields") p5,.Name (S "_law_types") p6] [] p7) c.env) (fun v s₃=>c.base.StaysIn s₃.heap/\c.wp (PySem.call (.ref 502) [y2,v]) (fun v s₄=>c.wp (storeName c.env z v) (fun j=>Q .next) E s₄) E s₃) E s₂:=by
 have nl:=I₁.st.nolim
 have room:c.A.depth+10< recursionLimit:=by have:=I₁.st.room;omega
 obtain ⟨zz,rfl⟩:=st2.pre
 have hl:zz.length=1:=by
  have a1:=I₂.sto.len
  rw [bd,bd,I₁.sto.len] at a1
  exact (Nat.add_left_cancel a1).symm
 obtain ⟨as,rfl⟩:=List.length_eq_one_iff.mp hl
 have q0:∀ as:List Addr,(φ₁++[as])[σ₁.length]?=some as:=fun as=>by rw [I₁.sto.len];exact List.getElem?_concat_length
 cases (I₂.sto.init I₁.sto.len).2 with |@list _ tok _ _ hto _ _=>
 refine rv.refE fun a as q=>?_
 cases (q0 _).symm.trans q
 have no:∀ {s s':Shared} {b:Addr},(∀ b o,s.heap.get? b=some o->s'.heap.get? b=some o)->s'.heap.get? b=none->s.heap.get? b=none:=fun k n=>z7 k n
 refine PR B.X g3 (by kernel_rfl) rfl rfl I₂.stay (g4 s₂ _ _ _ I₂.stay (g5 s₂ _ _ _ I₂.stay ⟨I₂.stay,Lz B (d2▸RK.tg) nl I₂.stay room fun s3 tg tgd k3 n1 n2 ne o3 D3 sm3=>?_⟩))
 have st3:c.base.StaysIn s3.heap:=fun b o z=>k3 b o (I₂.stay b o z)
 refine ⟨st3,Lv B (d1▸RK.rd) nl st3 room fun s4 x dx kn u1 u2 u3 k4 n3 n4 n5 e1 e2 e3 o4 D4 hk sm4=>?_⟩
 obtain ⟨J,st4⟩:=I₁.reader st2 I₂ (fun b o z=>k4 b o (k3 b o z)) ⟨sm4.1.trans sm3.1,sm4.2.1.trans sm3.2.1,sm4.2.2.trans sm3.2.2⟩
  (b9.mpr ⟨.inr (no k3 n3),b9.mpr ⟨.inr (no k3 n4),b9.mpr ⟨.inl rfl,b9.mpr ⟨.inr (no k3 n5),b9.mpr ⟨.inr n1,b9.mpr ⟨.inr n2,nofun⟩⟩⟩⟩⟩⟩)
  (nd6 k3 e1 e2 e3 ne n3 n4 n5 ⟨_,hto⟩ n1 n2 ⟨_,o3⟩ (let ⟨_,_,d,_⟩:=D3;⟨_,d⟩)) (d1▸o4) D4 hk (d2▸k4 _ _ o3) (d3▸d4▸D3.keep (k4 _))
 exact gR J sl (.ref (q0 _)) fun s' st' I'=>f _ _ _ (st4.trans st') I' trivial
theorem Uh {R:Fn} {x:I} {y:Value} {s:Shared} {n:Nat} {Q:PySem.Flow->Shared->Prop} {W E:Value->Shared->Prop} (hR:bE c.g c.base k 407 R) (hk:k<=c.d) (I:ay c φ₁ l σ₁ s.heap) (ri:aX c.g.D s.heap x y)
  (f:bh c φ₁ s (match R [.i x] [] with
   | .ok v σ'=>cy σ' (fun j ts=> .ok .nxt (bK l n (.ref σ₁.length)) (σ₁++[aF.rd [] ts [] (.str []) (.str [])])) .bad v
   | .exc w r c=> .exc w r c
   | .bad=> .bad) Q E)
  (h:∀ ts φ₂ y2 s₂,aL c φ₁ s φ₂ s₂->ay c φ₂ l (σ₁++[.list ts]) s₂.heap->aB c.g.D φ₂ s₂.heap (.ref σ₁.length) y2->bh c φ₁ s (.ok .nxt (bK l n (.ref σ₁.length)) (σ₁++[aF.rd [] ts [] (.str []) (.str [])])) Q E->W y2 s₂):c.wp (PySem.call (.ref 407) [y]) W E s:=by
 refine hR c φ₁ l σ₁ s [.i x] [y] _ _ rfl rfl hk I (.cons (.i ri) .nil) ?_
 show bJ c φ₁ l s (dX σ₁ [] (R [.i x] [])) _ _
 cases hx:R [.i x] [] with
 |bad=>rw [hx] at f;exact f
 |exc=>rw [hx] at f;exact f
 |ok v' σ'=>
  rw [hx] at f
  cases v' with
  |ref m=>
   have f:bh c φ₁ s (ph (fun ts=> .ok .nxt (bK l n (.ref σ₁.length)) (σ₁++[aF.rd [] ts [] (.str []) (.str [])])) .bad (aP σ' m)) Q E:=f
   cases hc:aP σ' m with
   |none=>rw [hc] at f;exact f.elim
   |some x=>cases x with
    |list ts=>
     rw [hc] at f
     rw [show dX σ₁ [] (.ok (.ref m) σ')= .ok (.ref σ₁.length) (σ₁++[.list ts]) by show sj σ₁ [] σ' m .ref=_;unfold sj;rw [hc,AE];rfl]
     exact fun φ₂ y2 s₂ st2 I₂ rv=>h ts φ₂ y2 s₂ st2 I₂ rv f
    |_=>rw [hc] at f;exact f.elim
  |_=>exact f.elim
theorem PA {R:Fn} {z:Str} {n:Nat} {p0 p1 p2 p3 p4 p5 p6 p7 p8 pos:Pos} {a:PySem.Expr} {ea:Ex} (B:dw c.g.w c.base mg mb bn) (RK:sM (K c.g.w.params) c.g.D) (d1:c.g.D.rd=502) (d2:c.g.D.tg=102) (d3:c.g.D.fd 1=1106) (d4:c.g.D.fd 0=1097) (g1:dh c (S "Reader") (.ref 502)) (g2:dh c (S "read_tokens") (.ref 407))
  (g3:dh c (S "Tongue") (.ref 102)) (g4:dh c (S "_law_fields") (.ref 1106)) (g5:dh c (S "_law_types") (.ref 1097)) (hR:bE c.g c.base k 407 R) (hk:k<=c.d) (hob:kI c.base 407) (sl:kU c z n) (ns:bI a=true) (ha:aK c a ea):
  fJ c (.Assign [.Name z p0] (.Call (.Name (S "Reader") p1) [.Call (.Name (S "read_tokens") p2) [a] [] p3,.Call (.Name (S "Tongue") p4) [.Name (S "_law_fields") p5,.Name (S "_law_types") p6] [] p7] [] p8) pos) (HV R n ea):=fun φ l σ s Q E I f=>
 let ⟨_,_,ho,hd⟩:=hob
 wpAny_Assign_Name (PR B.X g1 (by kernel_rfl) rfl rfl I.stay (zp (g2 s _ _ _ I.stay (CG (iO (.cons ns ha .nil) (H1 (ha _ _ _ _ _ _ I (f.bind fun v σ₁ φ₁ s₁ y st I₁ r f=>PyProof.Rows.spliced_none ⟨⟨I₁.stay _ _ ho,hd⟩,
  wy (F:=fun q=>bh c φ₁ s₁ q Q E) f r (fun x ri f=>Uh hR hk I₁ ri f fun ts φ₂ y2 s₂ st2 I₂ rv f=>Ol B RK d1 d2 d3 d4 g3 g4 g5 sl I₁ st2 I₂ rv f) False.elim⟩)) (eO ns))))))) (eE rfl)
end
end
section
def rs (i:Nat):Stmt:=(hA (st 170)).getD i default
noncomputable def Jr:List Str:=["text", "reader", "words", "commands", "fault"]
def eR:SE:=⟨dZ (st 170),pG Jr⟩
section
variable {la:Addr} {lv:List (Int×Tok)} {p:Program} {w:World} {base:Heap} {mg mb:Str->Option Value} {bn:List Str} {k:Nat} {T:lV} {c:aS} {R:Fn} {L:Addr} {outer:List Env}
theorem QN:hA (st 170)=[rs 0,rs 1,rs 2,rs 3,rs 4]:=by kernel_rfl
theorem read_0 (H:bH ⟨p,w,DD la lv⟩ base mg mb bn) (f:be ⟨p,w,DD la lv⟩ base k eR c) (hR:bE ⟨p,w,DD la lv⟩ base k 407 R) (hob:kI base 407):fJ c (rs 0) (HV R 1 (aa 0)):=by
 obtain ⟨g,b,frs,A,env,ρ,d⟩:=c
 have e1:=f.g
 have e2:=f.base
 dsimp only at e1 e2
 subst e1 e2
 exact PA (z:=S "reader") (f.B H) H.RK rfl rfl rfl rfl (f.own H (by kernel_rfl) (by decide) (by kernel_rfl)) (f.own H (by kernel_rfl) (by decide) (by kernel_rfl)) (f.own H (by kernel_rfl) (by decide) (by kernel_rfl)) (f.own H (by kernel_rfl) (by decide) (by kernel_rfl)) (f.own H (by kernel_rfl) (by decide) (by kernel_rfl))
  hR f.d hob (f.slot (by kernel_rfl)) rfl (Ma (n:=0) (by rw [f.ρ];kernel_rfl) (by kernel_rfl) (by kernel_rfl))
def zO:List Stmt:=match rs 3 with
 | .Try b .. =>b
 |_=>[]
theorem read_3 {b:Sx} (H:bH ⟨p,w,DD la lv⟩ base mg mb bn) (f:be ⟨p,w,DD la lv⟩ base k eR c) (T1:mi c L outer) (hb:k9 c zO b):Dq c (rs 3) (Kp b):=
 XJ (body:=zO) (fx:=S "fault") T1 (f.B H) (f.bt H) f.Ev ((f.kind _).trans (by kernel_rfl)) ((f.kind _).trans (by kernel_rfl)) (by decide) hb
abbrev vN (H:bH ⟨p,w,DD la lv⟩ base mg mb bn) (t:aq ⟨p,w,DD la lv⟩ base k T) (x:Stmt):DS ⟨p,w,DD la lv⟩ base k eR x:=dS (den H t 40) H eR 40 x
def Np (H:bH ⟨p,w,DD la lv⟩ base mg mb bn) (t:aq ⟨p,w,DD la lv⟩ base k T) (R:Fn):Sx:=sq (HV R 1 (aa 0)) (sq (vN H t (rs 1)).1 (sq (vN H t (rs 2)).1 (sq (Kp (dB (vN H t) zO).1) (sq (vN H t (rs 4)).1 ae))))
theorem YZ (H:bH ⟨p,w,DD la lv⟩ base mg mb bn) (t:aq ⟨p,w,DD la lv⟩ base k T) (hR:bE ⟨p,w,DD la lv⟩ base k 407 R) (hob:kI base 407):bE ⟨p,w,DD la lv⟩ base (k+1) 1247 (pickF (fun j=>true) (fn [none] (Np H t R)) (fn [none] (Np H t R)))/\kI base 1247:=
 have hk:uB (S "_law_read") (st 170) 1 Jr:=cw (by kernel_rfl)
 have DO:=gh.of (pm:=vf (K w.params) 1247) (dfl:= .none) (f:=1247) (cd:=1246) (qual:=S "_law_read") H.B.X (by kernel_rfl) (by kernel_rfl) hk.1.1
 ⟨PC DO (pj (n:=1) (by kernel_rfl) hk.2.1) fun c' L outer h0 h1 h2 h3 h4 h5=>
  have f:=B5 (st:=st 170) (names:=Jr) DO hk.1.2 h0 h1 h2 h3 h5
  have T1:mi c' L outer:=⟨h4,h3▸rfl⟩
  have D:∀ x,Dq c' x (vN H t x).1:=fun x=>((vN H t x).2 c' f L outer T1).weak
  QN▸ng (read_0 H f hR hob).weak (ng (D _) (ng (D _) (ng (read_3 H f T1 ((dB (vN H t) zO).2 c' f L outer T1)) (ng (D _) LD.weak)))),let ⟨o,ho,hd⟩:=DO.ob;⟨o,_,ho,hd⟩⟩
def Gn (p:Mine.T->Bool):Fn:=pickF p (eF b8) (eF (tkF b8))
theorem TX {q:Mine.T->Bool} {A B:Fn} (vs:List V) (σ:ai):pickF q A B vs σ= .bad\/pickF q A B vs σ=pickF q (pickF (fun j=>true) A A) (pickF (fun j=>true) B B) vs σ:=by
 cases vs with
 |nil=>exact .inl rfl
 |cons v r=>cases r with
  |cons=>exact .inl rfl
  |nil=>cases v with
   |i x=>cases x with
    |str t=>exact .inr rfl
    |_=>exact .inl rfl
   |_=>exact .inl rfl
theorem Xk {x:Str} {a:Addr} {F:Fn} {g:G} (t:aq g base k T) (h:T.fs.lookup x=some (a,F)):bE g base k a F/\kI base a:=let ⟨_,_,h3,h4⟩:=t.fs _ _ _ h;⟨h4,h3⟩
theorem Qb (H:bH ⟨p,w,DD la lv⟩ base mg mb bn) (hR:bE ⟨p,w,DD la lv⟩ base 136 407 R) (hob:kI base 407):bE ⟨p,w,DD la lv⟩ base 137 1247 (pickF (fun j=>true) (eF R) (eF R))/\kI base 1247:=
 (show fn [none] (Np H (H5 H) R)=eF R by kernel_rfl)▸YZ H (H5 H) hR hob
theorem XV (H:bH ⟨p,w,DD la lv⟩ base mg mb bn) (q:Mine.T->Bool):bE ⟨p,w,DD la lv⟩ base 137 1247 (Gn q)/\kI base 1247:=
 have ⟨hr,hob⟩:=Xk (x:= "read_tokens") (a:=407) (F:=b8) (H5 H) (by kernel_rfl)
 have ⟨h1,h3⟩:=Qb H hr hob
 have ⟨h2,_⟩:=Qb H hr.tkF hob
 ⟨(bE.pickF (p:=q) h1 h2).imp TX,h3⟩
end
end
section
section
variable {la:Addr} {lv:List (Int×Tok)} {p:Program} {w:World} {base:Heap} {mg mb:Str->Option Value} {bn:List Str} {k:Nat} {T:lV} {x:Str} {a:Addr} {F G:Fn} {g:Mine.G} {gP gC:Int->List V->List (Nat×Nat)} {q:Mine.T->Bool} {s:Shared} {E:Value->Shared->Prop}
theorem aq.re (t:aq g base k T) (h:T.fs.lookup x=some (a,F)) (hG:bE g base k a F->bE g base k a G):aq g base k (aA T x a G):=
 have ⟨h1,h2,h3,h4⟩:=t.fs _ _ _ h
 ⟨fun y b F q=>uf (b:=(b,F)) (P:=fun y z=>nsIn (K g.w.params) mainGlobals y=some (some (.ref z.1))/\(y==("__debug__" :Str))=false/\kI base z.1/\bE g base k z.1 z.2) q ⟨h1,h2,h3,hG h4⟩ (t.fs y b F),t.ms,t.gs⟩
def t_end (gP gC:Int->List V->List (Nat×Nat)) (q:Mine.T->Bool):lV:=aA (aA (aA Vx "_law_piece" 1233 (numF gP df)) "_law_command" 1240 (numF gC eC)) "_law_read" 1247 (Gn q)
theorem Us (H:bH ⟨p,w,DD la lv⟩ base mg mb bn) (hP:∀ n r,j0 (n.fmod (2 ^ 120)) (gP n r)) (hC:∀ n r,j0 (n.fmod (2 ^ 120)) (gC n r)):aq ⟨p,w,DD la lv⟩ base 137 (t_end gP gC q):=
 aq.fn (((H5 H).re (x:= "_law_piece") (a:=1233) (F:=df) (by kernel_rfl) (bE.numF hP)).re (x:= "_law_command") (a:=1240) (F:=eC) (by kernel_rfl) (bE.numF hC)) (XV H q) (by kernel_rfl) (by decide)
noncomputable def Ie:List Str:=["script", "numbers", "text", "why", "column", "family", "table", "due", "rows", "inner", "place", "made", "kinds", "one", "told", "head", "number", "command"]
abbrev Th (gP gC:Int->List V->List (Nat×Nat)) (q:Mine.T->Bool):Sx:=DW (numF gP df) (numF gC eC) (Gn q)
theorem Sf (H:bH ⟨p,w,DD la lv⟩ base mg mb bn) (hP:∀ n r,j0 (n.fmod (2 ^ 120)) (gP n r)) (hC:∀ n r,j0 (n.fmod (2 ^ 120)) (gC n r)):(FH H (Us (q:=q) H hP hC) (st 171) Ie).1=Th gP gC q:=by kernel_rfl
theorem Nz {A:Around} {fd:FuncData} {body:List Stmt} {ns:List Str} {ρ:List (Str×Nat)} {b:Sx} {v:V} {vs:List V} {ys:List Value} {d:Nat} {l':av} {σ':ai} {Q:Value->Shared->Prop} (hand:A.handled=none) (room:A.depth+1+3*d+60< recursionLimit) (units:A.units+3+12*d+200< cLine) (stack:A.frames=some []) (nl:s.heap.NoLimit) (DO:gh s.heap a fd body ns ρ)
  (bt:BindsTo s fd ⟨ys,[]⟩ (ns.zip ys)) (hl:ys.length=ns.length) (r:bV g.D [] s.heap vs ys) (hb:∀ c' L outer,c'.g=g->c'.base=s.heap->c'.d=d->c'.env=callEnvC fd L a->c'.frames=c'.env::outer->c'.ρ=ρ->k9 c' body b) (run:b (vs.map some) []= .ok (.ret v) l' σ')
  (q:∀ φ y s',(∀ b o,s.heap.get? b=some o->s'.heap.get? b=some o)->s'.os=s.os->s'.gens=s.gens->aB g.D φ s'.heap v y->Q y s'):wpAny g.M A (PySem.call (.ref a) ys) Q E s:=by
 refine zA (ei DO (fun j j e=>e) nl (by omega) bt (fun x hx=>(Cs hx).1) fun s₁ ic=>?_)
 obtain ⟨fr,kp,sm,J⟩:=G1 (φ:=[]) (cs:=[]) hand room units stack nl (fun j j e=>e) trivial .nil .nil (fun j m=>(fK m).elim) DO hl r ic
 refine hb _ s.heap.objs.size [] rfl rfl rfl rfl rfl rfl [] _ [] s₁ _ _ J ?_
 rw [run]
 intro φ' y s' st J' r
 exact r.retE fun y r=>q _ _ _ (fun b o e=>J'.stay b o e) (st.same.2.2.trans sm.2.2) (st.same.1.trans sm.1) r
theorem P6 {l':av} {σ':ai} (H:bH ⟨p,w,DD la lv⟩ s.heap mg mb bn) (hP:∀ n r,j0 (n.fmod (2 ^ 120)) (gP n r)) (hC:∀ n r,j0 (n.fmod (2 ^ 120)) (gC n r)) (nl:s.heap.NoLimit)
  (run:Th gP gC q [some (.i (.fl (lv.map fun p=>I.int p.1)))] []= .ok (.ret (.i (.bool true))) l' σ'):
  wpAny (model p w) callerA (PySem.call (.ref 1252) [.ref la]) (fun v s'=>v= .bool true/\(∀ b o,s.heap.get? b=some o->s'.heap.get? b=some o)/\s'.os=s.os/\s'.gens=s.gens) E s:=
 have hk:uB (S "law") (st 171) 1 Ie:=cw (by kernel_rfl)
 have DO:=gh.of (pm:=vf (K w.params) 1252) (dfl:= .none) (f:=1252) (cd:=1251) (qual:=S "law") H.B.X (by kernel_rfl) (by kernel_rfl) hk.1.1
 have bt:ML (tF (st 171) (S "law") .none (vf (K w.params) 1252) 1251) (Ie.take 1) 1:=by kernel_rfl
 Nz (g:=⟨p,w,DD la lv⟩) (d:=140) rfl (by decide) (by decide) rfl nl DO (BindsTo.of_eq (Mx bt (ys:=[.ref la]) rfl)) rfl (.cons (.i .fl) .nil)
  (fun c' L outer h0 h1 h2 h3 h4 h5=>Sf (q:=q) H hP hC▸(FH H (Us (q:=q) H hP hC) (st 171) Ie).2 c' (B5 DO hk.1.2 h0 h1 (h2▸aI rfl) h3 h5) L outer ⟨h4,h3▸rfl⟩) run fun φ y s' k o e r=>r.iE.boolE ⟨rfl,k,o,e⟩
end
end
section
def IQ:Prop:=∀ ns:List Int,ns.length<=63->∃ gP gC p l' σ',(∀ n r,j0 (n.fmod (2 ^ 120)) (gP n r))/\(∀ n r,j0 (n.fmod (2 ^ 120)) (gC n r))/\Th gP gC p [some (.i (.fl (ns.map I.int)))] []= .ok (.ret (.i (.bool true))) l' σ'
theorem Qe {xs:List WData} (h:WShape.hasItems [] xs .int=true):∃ ns:List Int,xs=ns.map .int:=by
 induction xs with
 |nil=>exact ⟨[],rfl⟩
 |cons x r ih=>
  obtain ⟨i,rfl⟩:=hasW_int (B7 h)
  exact (ih (Bv h)).elim fun ns e=>⟨i::ns,aM (WData.int i::·) e⟩
theorem Pl {cl:Str->Option Addr} {h:Heap} {ns:List Int} {vs:List Value} {as:List Addr} (r:ReadsAllW [] cl h vs (ns.map .int) as):∃ lv:List (Int×Tok),vs=lv.map (fun p=>Value.int p.1 p.2)/\ns=lv.map (·.1):=by
 induction ns generalizing vs as with
 |nil=>exact ⟨[],(readsAllW_nil_inv r).1,rfl⟩
 |cons n ns ih=>
  obtain ⟨v,vs,_,_,rfl,_,a,b⟩:=readsAllW_cons_inv r
  obtain ⟨t,rfl,_⟩:=readsW_int_inv a
  exact (ih b).elim fun lv e=>⟨(n,t)::lv,aM (Value.int n t::·) e.1,aM (n::·) e.2⟩
noncomputable def Zm:List Str:=[("Exception" :Str),Str.ofString "len",Str.ofString "ord",Str.ofString "str",Str.ofString "tuple",Str.ofString "list",Str.ofString "range",Str.ofString "sorted",Str.ofString "enumerate"]
theorem free9:∀ x∈Zm,x∉startupNames/\x∉looseW qv lo/\x∉(PyProof.Rows.recsOf qv).map (·.name)/\x∉(PyProof.Rows.litsOf qv).map (·.1)/\x∉(PyProof.Rows.clssOf qv (looseW qv lo)).map (·.name):=by decide+kernel
theorem Q1 {d:Bool} (h:WTm.holds [] (.arg 0) {args:=[.bool (!d)]}=true):d=false:=by
 cases d with
 |false=>rfl
 |true=>exact ff h
theorem pre_ok {args:List WData} (h:PySem.Challenge.rw_pq1059_01.row.toRowW.claim.pre args=true):∃ ns:List Int,args=[.list (ns.map .int)]/\ns.length<=63:=by
 have h:(WShape.hasAll [] args [.list .int] && WTm.holds [] (.and (.not (.lt (.lit (.int 63)) (.len (.arg 0)))) (.lit (.bool true))) {args:=args})=true:=h
 have ⟨h1,h2⟩:=cp.mp h
 obtain ⟨x,r,rfl,hx,hr⟩:=hasAllW_cons h1
 cases hasAllW_nil hr
 obtain ⟨xs,rfl,hy⟩:=hasW_list hx
 obtain ⟨ns,rfl⟩:=Qe hy
 have h3:decide ((63:Int)< ((ns.map WData.int).length:Int))=false:=Q1 (holds_andW h2).1
 exact ⟨ns,rfl,(cD WData.int (as:=ns))▸(Int.ofNat_le.mp (Int.not_lt.mp (of_decide_eq_false h3)))⟩
theorem Wt (P:IQ):Walk:=by
 intro w s₀ s₁ mg mb G X a o pm cd doc dV kV ha hd hc hdf hm hgens args vals as hpre hlay hrd hwell hns
 obtain ⟨ns,rfl,hn⟩:=pre_ok hpre
 have B:dw w s₁.heap mg mb Zm:=⟨X,G.T.g,G.T.b,G.T.builtins,fun x hx=>let ⟨h1,h2,h3,h4,h5⟩:=free9 x hx;G.T.free x h1 h2 h3 h4 h5⟩
 have e1:mg (Str.ofString "law")=some (.ref 1252):=mg_of X G.T.g (by kernel_rfl)
 have e2:mg (Str.ofString "law")=some (.ref a):=hm
 rw [e1] at e2
 cases e2
 obtain ⟨_,_,_,_,rfl,_,r1,rr⟩:=readsAllW_cons_inv hrd
 cases (readsAllW_nil_inv rr).1
 obtain ⟨la,vs,_,rfl,hl,rl,_⟩:=readsW_list_inv r1
 obtain ⟨lv,hv,rfl⟩:=Pl rl
 have hL:s₁.heap.IsList la (lv.map fun p=>Value.int p.1 p.2).toArray:=hv▸hl
 have hll:lv.length<=aJ:=by
  rw [cD] at hn
  exact ba hn (aI rfl)
 have H:bH ⟨PySem.Challenge.rw_pq1059_01.row.toRowW.prog,w,DD la lv⟩ s₁.heap mg mb Zm:=aaD B ⟨_,X 1 ⟨.type "dict",none,.dict #[en w.params (S "builtins") 162 (.ref 4),en w.params (S "__main__") 163 (.ref 5)] 2,#[]⟩ (by kernel_rfl)⟩ hL hll fun x hx=>hx
 obtain ⟨gP,gC,p,l',σ',hP,hC,run⟩:=P (lv.map (·.1)) hn
 rw [List.map_map] at run
 refine cQ (P6 (q:=p) H hP hC G.T.nolimit run) (fun v s' q=>?_) fun j j q=>q
 obtain ⟨rfl,k,e3,e4⟩:=q
 have post:∀ (as ds:List WData),PySem.Challenge.rw_pq1059_01.row.toRowW.claim.post as (.bool true) ds=true:=fun as ds=>by kernel_rfl
 refine GoodW.toG ⟨.inl ⟨.bool true,.bool true,[],rfl,fun j=>rfl,.bool true,post _ _,fun j=>⟨.nil,fun j m=>(fK m).elim⟩⟩,k,e3,e4.trans hgens⟩
end
end Mine
end
noncomputable section
namespace Mine
section
section
variable {l l' l'':av} {σ σ' σ'':ai} {c:Tx} {a b k:Sx} {cs:List (Tx×Sx)} {n j:Nat}
theorem bc (h:a l σ= .ok .nxt l' σ'):sq a b l σ=b l' σ':=by unfold sq;rw [h]
theorem sk (h:c l σ= .ok true σ'):am c a b l σ=a l σ':=aM (fun r:RE Bool=>r.bindS fun r σ=>match r with |true=>a l σ |false=>b l σ) h
theorem pz (h:c l σ= .ok false σ'):am c a b l σ=b l σ':=aM (fun r:RE Bool=>r.bindS fun r σ=>match r with |true=>a l σ |false=>b l σ) h
theorem sq_nop:sq a ae l σ=a l σ:=by
 unfold sq
 cases a l σ with
 |ok f l σ=>cases f<;>rfl
 |_=>rfl
theorem uD (h:c l σ= .ok true σ'):kS ((c,a)::cs) l σ=a l σ':=by cases cs<;>exact sk h
theorem Qz (h:c l σ= .ok false σ):kS ((c,a)::cs) l σ=kS cs l σ:=by
 cases cs with
 |nil=>exact pz h
 |cons=>exact (pz h).trans sq_nop
theorem ku (k:Nat) (h:(cs.take k).map (fun p=>p.1 l σ)=List.replicate k (.ok false σ)):kS cs l σ=kS (cs.drop k) l σ:=by
 induction k generalizing cs with
 |zero=>rfl
 |succ k ih=>cases cs with
  |nil=>cases h
  |cons p cs=>exact (Qz (iH h).1).trans (ih (iH h).2)
theorem qi (h:c l σ= .ok true σ') (h2:b l σ'= .ok .nxt l' σ''):jq c b (n+1) l σ=jq c b n l' σ'':=by
 show (c l σ).bindS _=_
 rw [h]
 show (b l σ').loop _=_
 rw [h2];rfl
theorem aae {v:V} (h:c l σ= .ok true σ') (h2:b l σ'= .ok (.ret v) l' σ''):jq c b (n+1) l σ= .ok (.ret v) l' σ'':=by
 show (c l σ).bindS _=_
 rw [h]
 show (b l σ').loop _=_
 rw [h2];rfl
theorem uR (h:c l σ= .ok false σ'):jq c b (n+1) l σ= .ok .nxt l σ':=by
 show (c l σ).bindS _=_
 rw [h];rfl
theorem kQ {as:List Ex} {x:I} {acc:List I} (h0:bN l j=some (.ref 0)) (h:ah as l [.list acc]= .ok (.i x) [.list acc]) (ha:acc.length< aJ):sq (aE (bm a6 aO (aa j) (ah as))) k l [.list acc]=k l [.list (acc++[x])]:=by
 refine bc ?_
 show (bm a6 aO (aa j) (ah as) l [.list acc]).bindS _=_
 have e:bm a6 aO (aa j) (ah as) l [.list acc]= .ok (.i .none) [.list (acc++[x])]:=by
  show ((match bN l j with |some v=>RE.ok v [.list acc] |none=> .bad).bind _)=_
  rw [h0]
  show (ah as l [.list acc]).bind _=_
  rw [h]
  show gd (Nat.blt acc.length aJ) _=_
  rw [show Nat.blt acc.length aJ=true from gp ha];rfl
 rw [e];rfl
end
noncomputable def LT (S:T) (at_:Nat) (row bg:Int) (tl:av):av:=some (.i (.str S))::some (.ref 0)::some (.i (.int (.ofNat at_)))::some (.i (.int row))::some (.i (.int bg))::tl
def Tl (tl:av):Prop:=∀ u v w,bK (bK (bK tl 0 u) 1 v) 2 w=[some u,some v,some w]
noncomputable abbrev T3 (c:Nat) (col:Int) (b:Nat):av:=[some (.i (.str [c])),some (.i (.int col)),some (.i (.int (.ofNat b)))]
theorem tl_0:Tl []:=fun j j j=>rfl
theorem tl_3 {a b c:Option V}:Tl [a,b,c]:=fun j j j=>rfl
def ml (S:T) (i j:Nat) (ts:List I):Prop:=∀ row bg tl acc,Tl tl->acc.length+2<=aJ->∃ row' bg' tl' new,Tl tl'/\new.map zg=ts/\i7 (LT S i row bg tl) [.list acc]= .ok .nxt (LT S j row' bg' tl') [.list (acc++new)]
section
variable {S:T} {i j c d:Nat} {row bg col row' bg':Int} {tl tl':av} {acc acc' new:List I} {ts:List I}
theorem UA {c:Tx} {cs:List Tx} {l:av} {σ σ':ai} (h:c l σ= .ok false σ'):bv (c::cs) l σ= .ok false σ':=by
 show (c l σ).bind _=_
 rw [h];rfl
theorem Gj {c:Tx} {cs:List Tx} {l:av} {σ σ':ai} {r:RE Bool} (h:c l σ= .ok false σ') (h2:f5 cs l σ'=r):f5 (c::cs) l σ=r:=by
 show (c l σ).bind _=_
 rw [h];exact h2
theorem QY {t:Tx} {q:Bool} {l:av} {σ σ':ai} (h:t l σ= .ok q σ'):gE t l σ= .ok (.i (.bool q)) σ':=by
 show (t l σ).bind _=_
 rw [h];rfl
theorem dm {n:Nat} {e:Ex} {l:av} {σ σ':ai} {v:V} (h:e l σ= .ok v σ'):set n e l σ= .ok .nxt (bK l n v) σ':=aM (fun r:RE V=>r.bindS fun v σ=> .ok .nxt (bK l n v) σ) h
theorem Wc {σ:ai} (h0:S[i]?=some c):ag (.i (.str S)) (.i (.int (.ofNat i))) σ= .ok (.i (.str [c])) σ:=aM (fun r:Option Nat=>match r with |some c=>RE.ok (V.i (.str [c])) σ |none=> .bad) h0
theorem mK (h0:S[i]?=some c) (h:∀ row bg col acc,acc.length+2<=aJ->∃ row' bg' x y new,new.map zg=ts/\kS AG (LT S i row bg (T3 c col (i+1))) [.list acc]= .ok .nxt (LT S i row' bg' [x,y,some (.i (.int (.ofNat j)))]) [.list (acc++new)]):ml S i j ts:=fun row bg tl acc ht ha=>by
 obtain ⟨row',bg',x,y,new,e1,e2⟩:=h row bg (Int.ofNat i - bg+Int.ofNat 1) acc ha
 refine ⟨row',bg',[x,y,some (.i (.int (.ofNat j)))],new,tl_3,e1,(bc (dm (Wc h0))).trans ?_⟩
 show sq (kS AG) (sq (set 2 (aa 7)) ae) (some (.i (.str S))::some (.ref 0)::some (.i (.int (.ofNat i)))::some (.i (.int row))::some (.i (.int bg))::bK (bK (bK tl 0 (.i (.str [c]))) 1 (.i (.int (Int.ofNat i - bg+Int.ofNat 1)))) 2 (.i (.int (.ofNat (i+1))))) [.list acc]=_
 rw [ht]
 exact (bc e2).trans rfl
theorem WU (h0:S[i]?=some 10):ml S i (i+1) [.tk fE bX]:=mK h0 fun row bg col acc ha=>⟨row+1,.ofNat (i+1),_,_,[.tup [.str fE,.str [10],.int row,.int col]],rfl,(uD rfl).trans ((kQ rfl rfl (zh ha)).trans rfl)⟩
theorem Pw (h0:S[i]?=some 59):ml S i (i+1) [.tk fE iT]:=mK h0 fun row bg col acc ha=>⟨row,bg,_,_,[.tup [.str fE,.str [59],.int row,.int col]],rfl,(ku 1 rfl).trans ((uD rfl).trans ((kQ rfl rfl (zh ha)).trans rfl))⟩
noncomputable def two (S:T) (i:Nat):T:=(S.take (Nat.min (i+2) S.length)).drop (Nat.min i S.length)
abbrev Ow:I:= .tup [.str Ik,.str CA,.str V5,.str Vp,.str Vm,.str VG]
theorem VM {z:T} {q:Bool} {b:Nat} {σ:ai} (h2:two S i=z) (h:cJ (.i (.str z)) (.i Ow) σ= .ok q σ):aj cJ (bF (aa 0) (aa 2) (af au (aa 2) (ci (2)))) (ah [(cs Ik),(cs CA),(cs V5),(cs Vp),(cs Vm),(cs VG)]) (LT S i row bg (T3 c col b)) σ= .ok q σ:=by
 rw [<-h,<-h2];rfl
theorem VK {z:T} {σ:ai} (h2:two S i=z) (h:cJ (.i (.str z)) (.i Ow) σ= .ok false σ) (k6:((AG.take 6).map fun p=>p.1 (LT S i row bg (T3 c col (i+1))) σ)=List.replicate 6 (.ok false σ)):kS AG (LT S i row bg (T3 c col (i+1))) σ=kS (AG.drop 7) (LT S i row bg (T3 c col (i+1))) σ:=
 (ku 6 k6).trans (Qz (VM h2 h))
theorem Xa {u:T} (h0:S[i]?=some 32) (h2:two S i=32::u):ml S i (i+1) []:=mK h0 fun row bg col acc ha=>⟨row,bg,_,_,[],rfl,(VK h2 rfl rfl).trans ((ku 2 rfl).trans (by rw [dT];rfl))⟩
theorem Mo {u:T} (h0:S[i]?=some c) (h2:two S i=u) (h:∀ σ,cJ (.i (.str u)) (.i Ow) σ= .ok false σ) (k6:∀ row bg col σ,((AG.take 6).map fun p=>p.1 (LT S i row bg (T3 c col (i+1))) σ)=List.replicate 6 (.ok false σ)) (k7:mw c VC=true):ml S i (i+1) [.tk fY [c]]:=mK h0 fun row bg col acc ha=>⟨row,bg,_,_,[.tup [.str fY,.str [c],.int row,.int col]],rfl,(VK h2 (h _) (k6 ..)).trans ((uD (by show RE.ok (mw c VC) _=_;rw [k7])).trans ((kQ rfl rfl (zh ha)).trans rfl))⟩
theorem WN (h0:S[i]?=some 33) (h2:two S i=[33,61]):ml S i (i+2) [.tk fY CA]:=mK h0 fun row bg col acc ha=>⟨row,bg,_,_,[.tup [.str fY,.str (two S i),.int row,.int col]],by rw [h2];rfl,(ku 6 rfl).trans ((uD (VM h2 rfl)).trans ((kQ rfl rfl (zh ha)).trans rfl))⟩
end
section
variable {S w r:T} {i c d:Nat} {σ:ai}
theorem iY (h:S.drop i=c::r):S[i]?=some c:=by rw [<-Nat.add_zero i,<-List.getElem?_drop,h];rfl
theorem drop_none (h:S.drop i=[]):S[i]?=none:=by rw [<-Nat.add_zero i,<-List.getElem?_drop,h];rfl
theorem uq (h:S.drop i=c::r):i< S.length:=(gL.mp (iY h)).1
theorem rE (h:S.drop i=c::r):S.drop (i+1)=r:=by rw [<-List.drop_drop,h];rfl
theorem PG (h:S.drop i=w++r):S.drop (i+w.length)=r:=by rw [<-List.drop_drop,h];exact List.drop_left
theorem HM (n:Nat) (h:S.drop i=c::r):(S.take (Nat.min (i+n) S.length)).drop (Nat.min i S.length)=(c::r).take n:=by
 rw [show Nat.min i S.length=i from Nat.min_eq_left (Nat.le_of_lt (uq h)),show S.take (Nat.min (i+n) S.length)=S.take (i+n) from List.take_eq_take_min.symm,List.drop_take,h,Nat.add_sub_cancel_left]
theorem cut_D' (h:S.drop i=w++c::r):(S.take (Nat.min (i+w.length) S.length)).drop (Nat.min i S.length)=w:=by
 cases w with
 |nil=>exact (HM 0 h).trans rfl
 |cons d w=>exact (HM _ h).trans (List.take_left (l₁:=d::w))
theorem vv (h:S.drop i=c::r):two S i=c::r.take 1:=HM 2 h
theorem lt_T {x:Nat} (h:i< x):fz (.i (.int (.ofNat i))) (.i (.int (.ofNat x))) σ= .ok true σ:=aM (fun b=>RE.ok b σ) (jn (Int.ofNat_lt.mpr h))
theorem lt_F {x:Nat} (h:x<=i):fz (.i (.int (.ofNat i))) (.i (.int (.ofNat x))) σ= .ok false σ:=aM (fun b=>RE.ok b σ) (tq fun q=>Nat.not_le_of_lt (Int.ofNat_lt.mp q) h)
theorem LH (h:S.drop i=[]):S.length<=i:=List.drop_eq_nil_iff.mp h
def fb (c:Nat):Bool:=mw c VT
def Bd (r:T):Prop:=∀ c s,r=c::s->fb c=false
theorem D6 {l:av} {a:Tx} {k:Nat} {q:Bool} (h0:bN l 0=some (.i (.str S))) (hk:bN l k=some (.i (.int (.ofNat i)))) (h:S.drop i=c::r) (hq:a l σ= .ok q σ):bv [aj fz (aa k) (un bC (aa 0)),a] l σ= .ok q σ:=by
 have e:aj fz (aa k) (un bC (aa 0)) l σ= .ok true σ:=by
  show ((match bN l k with |some v=>RE.ok v σ |none=> .bad).bind fun x σ=>RE.bind ((match bN l 0 with |some v=>RE.ok v σ |none=> .bad).bind bC) fun y σ=>fz x y σ)=_
  rw [h0,hk]
  exact lt_T (uq h)
 show (aj fz (aa k) (un bC (aa 0)) l σ).bind _=_
 rw [e]
 show (a l σ).bind _=_
 rw [hq]
 cases q<;>rfl
theorem and_ge {l:av} {a:Tx} {k:Nat} (h0:bN l 0=some (.i (.str S))) (hk:bN l k=some (.i (.int (.ofNat i)))) (h:S.drop i=[]):bv [aj fz (aa k) (un bC (aa 0)),a] l σ= .ok false σ:=by
 have e:aj fz (aa k) (un bC (aa 0)) l σ= .ok false σ:=by
  show ((match bN l k with |some v=>RE.ok v σ |none=> .bad).bind fun x σ=>RE.bind ((match bN l 0 with |some v=>RE.ok v σ |none=> .bad).bind bC) fun y σ=>fz x y σ)=_
  rw [h0,hk]
  exact lt_F (LH h)
 show (aj fz (aa k) (un bC (aa 0)) l σ).bind _=_
 rw [e];rfl
theorem yu {xs:List I} {rs:List Nat}:bz (xs.map V.i) rs=rs:=by
 induction xs with
 |nil=>rfl
 |cons x xs ih=>exact ih
theorem EJ {f:Nat->Nat} {xs:List I}:(xs.map V.i).map (gH f)=xs.map V.i:=by
 induction xs with
 |nil=>rfl
 |cons x xs ih=>exact aM (V.i x::·) ih
theorem qt {F:Fn} {as:List Ex} {l:av} {xs:List I} {y:I} {cs:ai} (h:cS as l σ= .ok (xs.map .i) σ) (hF:F (xs.map .i) []= .ok (.i y) cs):call F as l σ= .ok (.i y) σ:=by
 show (cS as l σ).bind _=_
 rw [h]
 show et F _ _=_
 unfold et
 rw [yu]
 show dX σ [] (F ((xs.map V.i).map _) [])=_
 rw [EJ,hF]
 show RE.ok (V.i y) (cT σ [] cs)=_
 cases cs<;>rfl
theorem bk {e:Ex} {es:List Ex} {l:av} {v:V} {vs:List V} {σ₁ σ₂:ai} (h:e l σ= .ok v σ₁) (h':cS es l σ₁= .ok vs σ₂):cS (e::es) l σ= .ok (v::vs) σ₂:=by
 show (e l σ).bind _=_
 rw [h]
 show (cS es l σ₁).bind _=_
 rw [h'];rfl
theorem all_i {xs:List I}:zE (xs.map V.i)=some xs:=by
 induction xs with
 |nil=>rfl
 |cons x xs ih=>
  show (match zE (xs.map V.i) with |some xs=>some (x::xs) |none=>none)=_
  rw [ih]
theorem tup_ok {as:List Ex} {l:av} {xs:List I} {σ':ai} (h:cS as l σ= .ok (xs.map .i) σ') (hl:Nat.ble (xs.map V.i).length aJ=true):ah as l σ= .ok (.i (.tup xs)) σ':=by
 show (cS as l σ).bind _=_
 rw [h]
 show gd (Nat.ble (xs.map V.i).length aJ) (zT _ _ _)=_
 rw [hl]
 unfold zT
 rw [all_i];rfl
theorem gZ {e:Ex} {l:av} {v:V} {σ':ai} (h:e l σ= .ok v σ'):aE e l σ= .ok .nxt l σ':=aM (fun r:RE V=>r.bindS fun j σ=> .ok .nxt l σ) h
theorem JS {e:Ex} {l:av} {q:Bool} (h:e l σ= .ok (.i (.bool q)) σ):a7 e l σ= .ok q σ:=aM (fun r:RE V=>r.bind RJ) h
theorem HI {l:av} {k:Nat} (h0:bN l 0=some (.i (.str S))) (hk:bN l k=some (.i (.int (.ofNat i)))) (h:S.drop i=c::r):af ag (aa 0) (aa k) l σ= .ok (.i (.str [c])) σ:=by
 show ((match bN l 0 with |some v=>RE.ok v σ |none=> .bad).bind fun x σ=>RE.bind (match bN l k with |some v=>RE.ok v σ |none=> .bad) fun y σ=>ag x y σ)=_
 rw [h0,hk]
 exact Wc (iY h)
theorem T4 {n:Nat} (hw:∀ c∈w,fb c=true) (hr:Bd r) (h:S.drop i=w++r) (hn:w.length< n):jq si xU n [some (.i (.str S)),some (.i (.int (.ofNat i)))] []= .ok .nxt [some (.i (.str S)),some (.i (.int (.ofNat (i+w.length))))] []:=by
 induction w generalizing i n with
 |nil=>cases n with
  |zero=>exact absurd hn (ie _)
  |succ n=>cases r with
   |nil=>exact uR (and_ge rfl rfl h)
   |cons c s=>exact uR (c:=si) (D6 (k:=1) rfl rfl h (JS (qt (F:=ev) (xs:=[.str [c]]) (y:= .bool false) (bk (HI (k:=1) rfl rfl h) rfl) (by rw [<-hr c s rfl];rfl))))
 |cons c w ih=>cases n with
  |zero=>exact absurd hn (ie _)
  |succ n=>
   have e:=ih (fun d m=>hw d (.tail _ m)) (rE h) (rt hn)
   rw [mv,lQ 1] at e
   exact (qi (c:=si) (b:=xU) (D6 (k:=1) rfl rfl h (JS (qt (F:=ev) (xs:=[.str [c]]) (y:= .bool true) (bk (HI (k:=1) rfl rfl h) rfl) (by rw [<-hw c (.head _)];rfl)))) rfl).trans e
theorem du {ps:List (Option I)} {b:Sx} {vs:List V} {l l':av} {v:V} {σ':ai} (h1:jP ps vs=some l) (h2:b l σ= .ok (.ret v) l' σ'):fn ps b vs σ= .ok v σ':=by unfold fn;rw [h1];exact aM RS.fin h2
theorem Ed {ps:List (Option I)} {b:Sx} {vs:List V} {l l':av} {σ':ai} (h1:jP ps vs=some l) (h2:b l σ= .ok .nxt l' σ'):fn ps b vs σ= .ok (.i .none) σ':=by unfold fn;rw [h1];exact aM RS.fin h2
theorem aaE (hw:∀ c∈w,fb c=true) (hr:Bd r) (h:S.drop i=w++r) (hn:w.length< fw):sD [.i (.str S),.i (.int (.ofNat i))] []= .ok (.i (.int (.ofNat (i+w.length)))) []:=
 du rfl ((bc (T4 hw hr h hn)).trans rfl)
theorem eqc:bU [c] [d]=Nat.beq c d:=by show (match Nat.beq c d with |true=>true |false=>false)=_;cases Nat.beq c d<;>rfl
theorem Vg {f:V->V->ai->RE Bool} {e:Ex} {l:av} {v:V} {k:T} {R:RE Bool} (h:e l σ= .ok v σ) (hf:f v (.i (.str k)) σ=R):aj f e (cs k) l σ=R:=by
 show (e l σ).bind _=_
 rw [h];exact hf
theorem bj {a b:Sx} {l l':av} {σ':ai} {v:V} (h:a l σ= .ok (.ret v) l' σ'):sq a b l σ= .ok (.ret v) l' σ':=by unfold sq;rw [h]
abbrev Od (w:T):Prop:=∀ c∈w,Nat.beq c 34=false/\Nat.beq c 10=false
theorem S2 {n:Nat} {x y z:Option V} (hw:Od w) (h:S.drop i=w++34::r) (hn:w.length< n):jq lg lq n [some (.i (.str S)),x,y,z,some (.i (.int (.ofNat i)))] []= .ok (.ret (.i (.int (.ofNat (i+w.length+1))))) [some (.i (.str S)),x,y,z,some (.i (.int (.ofNat (i+w.length))))] []:=by
 have ne:∀ {i c r},S.drop i=c::r->Nat.beq c 10=false->aj cM (af ag (aa 0) (aa 4)) (cs bX) [some (.i (.str S)),x,y,z,some (.i (.int (.ofNat i)))] []= .ok true []:=fun h q=>Vg (HI rfl rfl h) (aM (fun b=>notB (.ok b [])) (eqc.trans q))
 have eq:∀ {i c r q},S.drop i=c::r->Nat.beq c 34=q->aj az (af ag (aa 0) (aa 4)) (cs s82) [some (.i (.str S)),x,y,z,some (.i (.int (.ofNat i)))] []= .ok q []:=fun h q=>Vg (HI rfl rfl h) (aM (fun b=>RE.ok b []) (eqc.trans q))
 induction w generalizing i n with
 |nil=>cases n with
  |zero=>exact absurd hn (ie _)
  |succ n=>exact aae (c:=lg) (b:=lq) (D6 (k:=4) rfl rfl h (ne h rfl)) (bj ((sk (eq h rfl)).trans rfl))
 |cons c w ih=>cases n with
  |zero=>exact absurd hn (ie _)
  |succ n=>
   have e:=ih (fun d m=>hw d (.tail _ m)) (rE h) (rt hn)
   rw [show i+1+w.length=i+(w.length+1) by rw [mv,lQ 1]] at e
   exact (qi (c:=lg) (b:=lq) (D6 (k:=4) rfl rfl h (ne h (hw c (.head _)).2)) ((bc (pz (eq h (hw c (.head _)).1))).trans rfl)).trans e
theorem Wz (h:S.drop i=34::(w++34::r)) (hw:Od w) (hn:w.length< fw) (x y:I):kR [.i (.str S),.i (.int (.ofNat i)),.i x,.i y] []= .ok (.i (.int (.ofNat (i+1+w.length+1)))) []:=
 du (l:=[some (.i (.str S)),some (.i (.int (.ofNat i))),some (.i x),some (.i y)]) rfl ((bc (dm (v:= .i (.int (.ofNat (i+1)))) rfl)).trans (bj (S2 hw (rE h) hn)))
theorem aaR {F:Fn} {as:List Ex} {l:av} {xs:List I} {c c':aF} {j:ai} (h:cS as l [c]= .ok (.ref 0::xs.map .i) [c]) (hF:F (.ref 0::xs.map .i) [c]= .ok (.i .none) (c'::j)):call F as l [c]= .ok (.i .none) [c']:=by
 show (cS as l [c]).bind _=_
 rw [h]
 show et F _ _=_
 unfold et
 rw [show bz (.ref 0::xs.map V.i) []=[0] from yu]
 show dX _ _ (F (.ref 0::(xs.map V.i).map _) _)=_
 rw [EJ,hF]
 show RE.ok _ (cT [c'] [] j)=_
 cases j<;>rfl
def IL (w:T):Bool:=(match w with |[]=>false |c::_=>!Nat.beq c 58) && (!bU (cut w (some (.negSucc 0)) none) [58] && (!bU w [46] && (!bU w [47] && (!bU w [] && w.all fb))))
def mB (w:T):Option I:=match bU w [58] with
 |true=>some (.tk fY jE)
 |false=>match bU w [46] with
  |true=>some (.tk fY uK)
  |false=>match IL w with
   |true=>some (.tk iR w)
   |false=>none
theorem Il {a b:T} (h:bU a b=true):a=b:=by
 induction a generalizing b with
 |nil=>cases b with
  |nil=>rfl
  |cons=>cases h
 |cons x a ih=>cases b with
  |nil=>cases h
  |cons y b=>
   change (match Nat.beq x y with |true=>bU a b |false=>false)=true at h
   cases q:Nat.beq x y with
   |true=>rw [q] at h;rw [kj q,ih h]
   |false=>rw [q] at h;exact ff h
end
section
variable {w:T} {acc:List I} {row col:Int}
theorem Cr {b:Bool} (h:(!b)=true):b=false:=by cases b with |false=>rfl |true=>cases h
theorem RY (h:IL w=true) (ha:acc.length< aJ):nu [.ref 0,.i (.str w),.i (.int row),.i (.int col)] [.list acc]= .ok (.i .none) [.list (acc++[.tup [.str iR,.str w,.int row,.int col]])]:=by
 have ⟨h0,h⟩:=cp.mp h
 have ⟨h1,h⟩:=cp.mp h
 have ⟨h2,h⟩:=cp.mp h
 have ⟨h3,h⟩:=cp.mp h
 have h4:=(cp.mp h).1
 cases w with
 |nil=>cases h0
 |cons c w=>
  have e0:aj az (af ag (aa 1) (ci 0)) (cs jE) [some (.ref 0),some (.i (.str (c::w))),some (.i (.int row)),some (.i (.int col))] [.list acc]= .ok false [.list acc]:=aM (fun b=>RE.ok b [.list acc]) (eqc.trans (Cr h0))
  have e1:aj az (bF (aa 1) (un ey (ci 1)) (aN .none)) (cs jE) [some (.ref 0),some (.i (.str (c::w))),some (.i (.int row)),some (.i (.int col))] [.list acc]= .ok false [.list acc]:=aM (fun b=>RE.ok b [.list acc]) (Cr h1)
  have e:∀ {k:T},bU (c::w) k=false->aj az (aa 1) (cs k) [some (.ref 0),some (.i (.str (c::w))),some (.i (.int row)),some (.i (.int col)),some (.i (.bool false))] [.list acc]= .ok false [.list acc]:=fun h=>aM (fun b=>RE.ok b [.list acc]) h
  have n3:aj cM (aa 1) (cs aQ) [some (.ref 0),some (.i (.str (c::w))),some (.i (.int row)),some (.i (.int col)),some (.i (.bool false))] [.list acc]= .ok true [.list acc]:=aM (fun b=>notB (.ok b [.list acc])) (Cr h4)
  refine Ed rfl ((bc (pz (UA e0))).trans ((bc (dm (v:= .i (.bool false)) (QY (UA e1)))).trans ((bc (pz rfl)).trans ((bc ((pz (Gj (e (Cr h2)) (Gj (e (Cr h3)) rfl))).trans ((bc ((sk n3).trans (kQ rfl rfl ha))).trans rfl))).trans rfl))))
theorem X4 {t:I} (h:mB w=some t) (ha:acc.length+2<=aJ):∃ x,zg x=t/\nu [.ref 0,.i (.str w),.i (.int row),.i (.int col)] [.list acc]= .ok (.i .none) [.list (acc++[x])]:=by
 have ha:=zh ha
 unfold mB at h
 cases q1:bU w [58] with
 |true=>
  rw [q1] at h;cases Il q1;cases h
  refine ⟨.tup [.str fY,.str jE,.int row,.int col],rfl,Ed (l':=[some (.ref 0),some (.i (.str [])),some (.i (.int row)),some (.i (.int (col+1))),some (.i (.bool false))]) rfl ?_⟩
  refine (bc (l':=[some (.ref 0),some (.i (.str [])),some (.i (.int row)),some (.i (.int (col+1)))]) ((sk (σ':=[.list acc]) rfl).trans ?_)).trans rfl
  exact (kQ (x:= .tup [.str fY,.str jE,.int row,.int col]) rfl rfl ha).trans rfl
 |false=>rw [q1] at h;cases q2:bU w [46] with
   |true=>
  rw [q2] at h;cases Il q2;cases h
  refine ⟨.tup [.str fY,.str uK,.int row,.int col],rfl,Ed (l':=[some (.ref 0),some (.i (.str [46])),some (.i (.int row)),some (.i (.int col)),some (.i (.bool false))]) rfl ?_⟩
  refine (bc (l':=[some (.ref 0),some (.i (.str [46])),some (.i (.int row)),some (.i (.int col))]) (σ':=[.list acc]) rfl).trans ?_
  refine (bc (l':=[some (.ref 0),some (.i (.str [46])),some (.i (.int row)),some (.i (.int col)),some (.i (.bool false))]) (σ':=[.list acc]) rfl).trans ((bc (l':=[some (.ref 0),some (.i (.str [46])),some (.i (.int row)),some (.i (.int col)),some (.i (.bool false))]) (σ':=[.list acc]) rfl).trans ?_)
  refine (bc (l':=[some (.ref 0),some (.i (.str [46])),some (.i (.int row)),some (.i (.int col)),some (.i (.bool false))]) (σ':=[.list (acc++[.tup [.str fY,.str uK,.int row,.int col]])]) ((sk (σ':=[.list acc]) rfl).trans ?_)).trans rfl
  exact (kQ (x:= .tup [.str fY,.str uK,.int row,.int col]) rfl rfl ha).trans rfl
   |false=>rw [q2] at h;cases q3:IL w with
  |true=>rw [q3] at h;cases h;exact ⟨_,rfl,RY q3 ha⟩
  |false=>rw [q3] at h;exact jc h
end
section
variable {S w r:T} {i c d:Nat} {ts:List I}
theorem IF {c:Nat} {s:T} (h:mw c s=true):c∈s:=by
 unfold mw at h
 generalize 0=n at h
 induction s generalizing n with
 |nil=>cases h
 |cons d s ih=>
  unfold oh at h
  cases q:Nat.beq d c with
  |true=>exact kj q▸ .head _
  |false=>rw [q] at h;exact .tail _ (ih _ h)
theorem k5 (hc:fb c=true) (row bg col:Int) (b:Nat) (σ:ai):(AG.take 5).map (fun p=>p.1 (LT S i row bg (T3 c col b)) σ)=List.replicate 5 (.ok false σ):=
 aW.mp (show VT.map (fun c=>(AG.take 5).map (fun p=>p.1 (LT S i row bg (T3 c col b)) σ))=VT.map (fun j=>List.replicate 5 (.ok false σ)) by kernel_rfl) c (IF hc)
theorem O2 (h:S.drop i=w++r) (hw:∀ c∈w,fb c=true) (hr:Bd r) {t:I} (ht:mB w=some t) (hn:w.length< fw):ml S i (i+w.length) [t]:=by
 cases w with
 |nil=>cases ht
 |cons c w=>
  refine mK (iY h) fun row bg col acc ha=>?_
  obtain ⟨t,rfl,e2⟩:=X4 (row:=row) (col:=col) ht ha
  refine ⟨row,bg,some (.i (.str [c])),some (.i (.int col)),[t],rfl,(ku 5 (k5 (hw c (.head _)) ..)).trans ((uD (JS (qt (F:=ev) (xs:=[.str [c]]) (y:= .bool true) rfl (by rw [<-hw c (.head _)];rfl)))).trans ?_)⟩
  have e3:bF (aa 0) (aa 2) (aa 7) (LT S i row bg (T3 c col (i+(c::w).length))) [.list acc]= .ok (.i (.str (c::w))) [.list acc]:=aM (fun t=>RE.ok (V.i (.str t)) [.list acc]) ((HM _ h).trans (List.take_left (l₁:=c::w)))
  refine (bc (dm (qt (xs:=[.str S,.int (.ofNat i)]) rfl (aaE hw hr h hn)))).trans ((bc (gZ (aaR (xs:=[.str (c::w),.int row,.int col]) (bk rfl (bk e3 rfl)) e2))).trans rfl)
theorem Uf (h:S.drop i=34::(w++34::r)) (hw:Od w) (hn:w.length< fw):ml S i (i+1+w.length+1) [.tk jL w]:=by
 refine mK (iY h) fun row bg col acc ha=>⟨row,bg,some (.i (.str [34])),some (.i (.int col)),[.tup [.str jL,.str w,.int row,.int col]],rfl,(ku 4 rfl).trans ((uD rfl).trans ?_)⟩
 have e3:bF (aa 0) (af au (aa 2) (ci 1)) (af dQ (aa 7) (ci 1)) (LT S i row bg (T3 34 col (i+1+w.length+1))) [.list acc]= .ok (.i (.str w)) [.list acc]:=by
  show Nd (.i (.str S)) (.i (.int (.ofNat (i+1)))) (.i (.int (((i+1+w.length:Nat):Int)+1 - 1))) _=_
  rw [Int.add_sub_cancel]
  exact aM (fun t=>RE.ok (V.i (.str t)) [.list acc]) (cut_D' (rE h))
 refine (bc (dm (qt (xs:=[.str S,.int (.ofNat i),.int row,.int col]) rfl (Wz h hw hn _ _)))).trans ((kQ rfl (tup_ok (xs:=[.str jL,.str w,.int row,.int col]) (bk rfl (bk e3 rfl)) rfl) (zh ha)).trans rfl)
end
inductive Pd where
 |no
 |w (u:T)
 |s (u:T)
 |bang
 |eq
def Jo (c:Nat):Option (List I×Pd):=
 match Nat.beq c 10 with
 |true=>some ([.tk fE bX],.no)
 |false=>match Nat.beq c 59 with
  |true=>some ([.tk fE iT],.no)
  |false=>match Nat.beq c 32 with
   |true=>some ([],.no)
   |false=>match Nat.beq c 34 with
    |true=>some ([],.s [])
    |false=>match Nat.beq c 33 with
     |true=>some ([],.bang)
     |false=>match Nat.beq c 61 with
      |true=>some ([],.eq)
      |false=>match mw c [123,125,44,64] with
       |true=>some ([.tk fY [c]],.no)
       |false=>none
noncomputable def stT (t:I):Option (List I×Pd)->Option (List I×Pd)
 |some q=>some (q.1++[t],q.2)
 |none=>none
def stp (p:Pd) (c:Nat):Option (List I×Pd):=match p with
 | .no=>match fb c with
  |true=>some ([],.w [c])
  |false=>Jo c
 | .w u=>match fb c with
  |true=>some ([],.w (u++[c]))
  |false=>match mB u with
   |some t=>stT t (Jo c)
   |none=>none
 | .s u=>match Nat.beq c 34 with
  |true=>some ([.tk jL u],.no)
  |false=>match Nat.beq c 10 with
   |true=>none
   |false=>some ([],.s (u++[c]))
 | .bang=>match Nat.beq c 61 with
  |true=>some ([.tk fY CA],.no)
  |false=>none
 | .eq=>match Nat.beq c 32 with
  |true=>some ([.tk fY [61]],.no)
  |false=>none
def fin:List I->Pd->Option (List I)
 |acc,.no=>some acc.reverse
 |acc,.w u=>match mB u with
  |some t=>some (t::acc).reverse
  |none=>none
 |_,_=>none
def tz:T->List I->Pd->Option (List I)
 |[],acc,p=>fin acc p
 |c::r,acc,p=>match stp p c with
  |some q=>tz r (q.1++acc) q.2
  |none=>none
section
variable {S u r:T} {i j m:Nat} {ts:List I} {acc L:List I} {t:I}
theorem Ft {c:Nat} {p:Pd} {q:Option (List I×Pd)} (e:stp p c=q) (h:tz (c::r) acc p=some L):∃ x,q=some x/\tz r (x.1++acc) x.2=some L:=by
 change (match stp p c with |some q=>tz r (q.1++acc) q.2 |none=>none)=some L at h
 rw [e] at h
 cases q with
 |none=>exact jc h
 |some x=>exact ⟨x,rfl,h⟩
theorem JU {c:Nat} {p:Pd} {x:List I×Pd} (e:stp p c=some x) (h:tz (c::r) acc p=some L):tz r (x.1++acc) x.2=some L:=let ⟨_,e,h⟩:=Ft e h;bO e▸h
theorem U1 {c:Nat} {p:Pd} {x:List I×Pd} (e:stp p c=some x) (h:tz r (x.1++acc) x.2=some L):tz (c::r) acc p=some L:=by
 show (match stp p c with |some q=>tz r (q.1++acc) q.2 |none=>none)=some L
 rw [e];exact h
theorem Q9 {α:Type} {b:Bool} {x y:α}:b=true->(match b with |true=>x |false=>y)=x:=by rintro rfl;rfl
theorem mf {α:Type} {b:Bool} {x y:α}:b=false->(match b with |true=>x |false=>y)=y:=by rintro rfl;rfl
theorem st_w1 {c:Nat} (q:fb c=true):stp (.w u) c=some ([],.w (u++[c])):=Q9 q
theorem st_w2 {c:Nat} (q:fb c=false) (q':mB u=none):stp (.w u) c=none:=(mf (α:=Option (List I×Pd)) q).trans (by rw [q'])
theorem Wj {c:Nat} (q:fb c=false) (q':mB u=some t):stp (.w u) c=stT t (Jo c):=(mf (α:=Option (List I×Pd)) q).trans (by rw [q'])
theorem st_n1 {c:Nat} (q:fb c=true):stp .no c=some ([],.w [c]):=Q9 q
theorem Og {c:Nat} (q:fb c=false):stp .no c=Jo c:=mf q
theorem st_s1 {c:Nat} (q:Nat.beq c 34=true):stp (.s u) c=some ([.tk jL u],.no):=Q9 q
theorem st_s2 {c:Nat} (q:Nat.beq c 34=false) (q':Nat.beq c 10=true):stp (.s u) c=none:=(mf (α:=Option (List I×Pd)) q).trans (Q9 q')
theorem st_s3 {c:Nat} (q:Nat.beq c 34=false) (q':Nat.beq c 10=false):stp (.s u) c=some ([],.s (u++[c])):=(mf (α:=Option (List I×Pd)) q).trans (mf q')
theorem tz_w (h:tz r acc (.w u)=some L):∃ w r' t,r=w++r'/\(∀ c∈w,fb c=true)/\Bd r'/\mB (u++w)=some t/\tz r' (t::acc) .no=some L:=by
 induction r generalizing u with
 |nil=>
  change (match mB u with |some t=>some (t::acc).reverse |none=>none)=some L at h
  cases q:mB u with
  |none=>rw [q] at h;exact jc h
  |some t=>rw [q] at h;exact ⟨[],[],t,rfl,fun j m=>(fK m).elim,nofun,(dT u).symm▸q,h⟩
 |cons c r ih=>cases q:fb c with
  |true=>
   have h:=JU (st_w1 q) h
   obtain ⟨w,r',t,rfl,h2,h3,h4,h5⟩:=ih h
   exact ⟨c::w,r',t,rfl,b9.mpr ⟨q,h2⟩,h3,List.append_cons u c w▸h4,h5⟩
  |false=>cases q':mB u with
   |none=>obtain ⟨_,e,_⟩:=Ft (st_w2 q q') h;exact jc e
   |some t=>
    obtain ⟨_,e,h⟩:=Ft (Wj q q') h
    cases q2:Jo c with
    |none=>rw [q2] at e;exact jc e
    |some x=>
     rw [q2] at e;cases e
     exact ⟨[],c::r,t,rfl,fun j m=>(fK m).elim,fun d s e=>(iH e).1▸q,(dT u).symm▸q',U1 ((Og q).trans q2) (bM x.1 [t] acc▸h)⟩
theorem tz_s (h:tz r acc (.s u)=some L):∃ w r',r=w++34::r'/\Od w/\tz r' (.tk jL (u++w)::acc) .no=some L:=by
 induction r generalizing u with
 |nil=>exact jc h
 |cons c r ih=>cases q:Nat.beq c 34 with
  |true=>have h:=JU (st_s1 q) h;exact ⟨[],r,by rw [kj q];rfl,fun j m=>(fK m).elim,(dT u).symm▸h⟩
  |false=>cases q':Nat.beq c 10 with
   |true=>obtain ⟨_,e,_⟩:=Ft (st_s2 q q') h;exact jc e
   |false=>
    have h:=JU (st_s3 q q') h
    obtain ⟨w,r',rfl,h2,h3⟩:=ih h
    exact ⟨c::w,r',rfl,b9.mpr ⟨⟨q,q'⟩,h2⟩,List.append_cons u c w▸h3⟩
theorem aaY {C:Prop} {c:Nat} {x:List I×Pd} (h:Jo c=some x) (h1:c=10->x=([.tk fE bX],.no)->C) (h2:c=59->x=([.tk fE iT],.no)->C) (h3:c=32->x=([],.no)->C) (h4:c=34->x=([],.s [])->C) (h5:c=33->x=([],.bang)->C) (h6:c=61->x=([],.eq)->C) (h7:mw c [123,125,44,64]=true->x=([.tk fY [c]],.no)->C):C:=by
 have go:∀ {n a b} {C:Prop},(match Nat.beq c n with |true=>some a |false=>b)=some x->(c=n->x=a->C)->(b=some x->C)->C:=fun {n a b C} h p q=>by
  cases e:Nat.beq c n with
  |true=>rw [e] at h;exact p (kj e) (bO h).symm
  |false=>rw [e] at h;exact q h
 exact go h h1 fun h=>go h h2 fun h=>go h h3 fun h=>go h h4 fun h=>go h h5 fun h=>go h h6 fun h=>by
  cases e:mw c [123,125,44,64] with
  |true=>rw [e] at h;exact h7 e (bO h).symm
  |false=>rw [e] at h;exact jc h
def Lp (S:T) (i:Nat) (ts:List I):Prop:=i<=S.length/\∀ n row bg tl acc,Tl tl->S.length< n+i->acc.length<=i->∃ row' bg' tl' new,new.map zg=ts/\acc.length+new.length<=S.length/\jq gy i7 n (LT S i row bg tl) [.list acc]= .ok .nxt (LT S S.length row' bg' tl') [.list (acc++new)]
theorem aai (h:S.length<=i) (h':i<=S.length):Lp S i []:=⟨h',fun n row bg tl acc htl hn ha=>by
 cases Nat.le_antisymm h h'
 cases n with
 |zero=>exact absurd hn (by rw [om];exact A8 _)
 |succ n=>exact ⟨row,bg,tl,[],rfl,ha,(uR (show gy (LT S S.length row bg tl) [.list acc]= .ok false [.list acc] from lt_F (cR _))).trans (by rw [dT])⟩⟩
theorem QU {l n x y:Nat} (h1:l< n+1+x) (h2:x< y):l< n+y:=ub h1 (by rw [Nat.add_right_comm,mv];exact f7 h2 n)
theorem MS {t1:List I} (hS:S.length+2<=aJ) (T:ml S i j t1) (hi:i< j) (ht:t1.length<=1) (k:Lp S j ts):Lp S i (t1++ts):=
 have h0:=ub hi k.1
 ⟨Nat.le_of_lt h0,fun n row bg tl acc htl hn ha=>by
 cases n with
 |zero=>exact absurd hn (by rw [om];exact Nat.not_lt_of_lt h0)
 |succ n=>
  obtain ⟨row1,bg1,tl1,new1,q1,q2,q3⟩:=T row bg tl acc htl (ba (fU (ba ha (Nat.le_of_lt h0)) 2) hS)
  have l1:(acc++new1).length<=j:=by
   rw [bd,<-cD (f:=zg) (as:=new1),q2]
   exact ba (d8 ha ht) hi
  obtain ⟨row2,bg2,tl2,new2,u2,u3,u4⟩:=k.2 n row1 bg1 tl1 (acc++new1) q1 (QU hn hi) l1
  rw [bM] at u4
  exact ⟨row2,bg2,tl2,new1++new2,by rw [iQ,q2,u2],by rw [bd,<-mv,<-bd];exact u3,(qi (show gy (LT S i row bg tl) [.list acc]= .ok true [.list acc] from lt_T h0) q3).trans u4⟩⟩
theorem O3 {c:Nat} (h0:S.drop i=c::r) (hc:mw c [123,125,44,64]=true):ml S i (i+1) [.tk fY [c]]:=by
 have go:∀ c,two S i=c::r.take 1->S[i]?=some c->(∀ u σ,cJ (.i (.str (c::u))) (.i Ow) σ= .ok false σ)->(∀ row bg col σ,((AG.take 6).map fun p=>p.1 (LT S i row bg (T3 c col (i+1))) σ)=List.replicate 6 (.ok false σ))->mw c VC=true->ml S i (i+1) [.tk fY [c]]:=fun c h2 h0 h k6 k7=>Mo h0 h2 (h _) k6 k7
 have m:=IF hc
 rcases List.mem_cons.mp m with rfl |m
 ·exact go _ (vv h0) (iY h0) (fun j j=>rfl) (fun j j j j=>rfl) rfl
 rcases List.mem_cons.mp m with rfl |m
 ·exact go _ (vv h0) (iY h0) (fun j j=>rfl) (fun j j j j=>rfl) rfl
 rcases List.mem_cons.mp m with rfl |m
 ·exact go _ (vv h0) (iY h0) (fun j j=>rfl) (fun j j j j=>rfl) rfl
 ·exact cY.mp m▸go 64 (cY.mp m▸vv h0) (cY.mp m▸iY h0) (fun j j=>rfl) (fun j j j j=>rfl) rfl
def Tt (S:T) (i:Nat) (acc L:List I):Prop:=∃ ts,L=acc.reverse++ts/\Lp S i ts
theorem tt_0 (hS:S.length+2<=aJ) (T:ml S i (i+1) []) (h:Tt S (i+1) acc L):Tt S i acc L:=let ⟨ts,e,k⟩:=h;⟨ts,e,MS hS T (yP _) (dI _) k⟩
theorem B1 (hS:S.length+2<=aJ) (T:ml S i j [t]) (hi:i< j) (h:Tt S j (t::acc) L):Tt S i acc L:=
 let ⟨ts,e,k⟩:=h
 ⟨t::ts,by rw [e,zi,bM];rfl,MS hS T hi (cR 1) k⟩
theorem len_w {w:T} (h:S.drop i=w++r) (hi:i<=S.length):i+w.length<=S.length:=by
 have e:=aM List.length h
 rw [Dd,bd] at e
 omega
theorem YO {c n:Nat} {p:Pd} {t:I} (e:∀ c,stp p c=match Nat.beq c n with |true=>some ([t],.no) |false=>none) (h:tz (c::r) acc p=some L):c=n/\tz r (t::acc) .no=some L:=by
 cases q:Nat.beq c n with
 |false=>obtain ⟨_,e,_⟩:=Ft ((e c).trans (mf (α:=Option (List I×Pd)) q)) h;exact jc e
 |true=>have h:=JU ((e c).trans (Q9 (α:=Option (List I×Pd)) q)) h;exact ⟨kj q,h⟩
theorem tz_tt (hS:S.length+2<=aJ) (hm:S.length< m+i) (h0:S.drop i=r) (hi:i<=S.length) (h:tz r acc .no=some L):Tt S i acc L:=by
 induction m generalizing i r acc with
 |zero=>exact absurd hm (EC (by rw [om];exact hi))
 |succ m ih=>
  have ih:∀ {j r acc},i< j->S.drop j=r->j<=S.length->tz r acc .no=some L->Tt S j acc L:=fun hj=>ih (QU hm hj)
  have ok:∀ {w r:T} {j},S.drop j=w++r->w.length< fw:=fun h=>eM (by have:=aM List.length h;rw [Dd,bd] at this;omega) (ub (HQ (bf 1)) hS)
  have n1:i< i+1:=yP _
  cases r with
  |nil=>cases h;exact ⟨[],(dT _).symm,aai (LH h0) hi⟩
  |cons c r=>
   cases q:fb c with
   |true=>
    have h:=JU (st_n1 q) h
    obtain ⟨w,r',t,rfl,h2,h3,h4,h5⟩:=tz_w h
    have h0:S.drop i=(c::w)++r':=h0
    have hj:i< i+(c::w).length:=HQ (bf _)
    exact B1 hS (O2 h0 (b9.mpr ⟨q,h2⟩) h3 h4 (ok h0)) hj (ih hj (PG h0) (len_w h0 hi) h5)
   |false=>
    have at0:=iY h0
    have d1:=rE h0
    have l1:i+1<=S.length:=uq h0
    obtain ⟨x,ex,h⟩:=Ft (Og q) h
    refine aaY ex (fun e z=>?_) (fun e z=>?_) (fun e z=>?_) (fun e z=>?_) (fun e z=>?_) (fun e z=>?_) fun e z=>?_
    ·subst z;exact B1 hS (WU (e▸at0)) n1 (ih n1 d1 l1 h)
    ·subst z;exact B1 hS (Pw (e▸at0)) n1 (ih n1 d1 l1 h)
    ·subst z;exact tt_0 hS (Xa (e▸at0) (e▸vv h0)) (ih n1 d1 l1 h)
    ·subst z
     obtain ⟨w,r',rfl,h2,h3⟩:=tz_s h
     have d2:=PG d1
     have hj:i< i+1+w.length+1:=ub n1 (ba (mr _ _) (iD _))
     exact B1 hS (Uf (e▸h0) h2 (ok d1)) hj (ih hj (rE d2) (uq d2) h3)
    ·subst z
     cases r with
     |nil=>exact jc h
     |cons d r=>
      obtain ⟨rfl,h⟩:=YO (fun u=>rfl) h
      have hj:i< i+2:=HQ (bf _)
      exact B1 hS (WN (e▸at0) (e▸vv h0)) hj (ih hj (rE d1) (uq d1) h)
    ·subst z
     cases r with
     |nil=>exact jc h
     |cons d r=>
      obtain ⟨rfl,h⟩:=YO (fun u=>rfl) h
      subst e
      exact B1 hS (Mo at0 (vv h0) (fun u=>rfl) (fun u u u u=>rfl) rfl) n1 (ih n1 d1 l1 (U1 rfl h))
    ·subst z;exact B1 hS (O3 h0 e) n1 (ih n1 d1 l1 h)
def lE:I:= .tk vJ aQ
theorem Q2 (h:tz S [] .no=some L) (hl:S.length+2<=aJ):tkF b8 [.i (.str S)] []= .ok (.ref 0) [.list (L++[lE])]:=by
 have lt:S.length< aJ:=ub (HQ (bf 1)) hl
 obtain ⟨ts,e,_,k⟩:=tz_tt (m:=S.length+1) hl (yP _) (i:=0) rfl (dI _) h
 cases e
 obtain ⟨row,bg,tl,new,h2,h3,h4⟩:=k fw 1 0 [] [] tl_0 lt (cR _)
 have run:b8 [.i (.str S)] []= .ok (.ref 0) [.list (new++[.tup [.str vJ,.str aQ,.int row,.int (Int.ofNat S.length - bg+Int.ofNat 1)]])]:=
  du (l':=LT S S.length row bg tl) rfl ((show wH [some (.i (.str S))] []=sq (wh gy i7) (sq (aE (bm a6 aO (aa 1) (ah [(cs vJ),(cs aQ),(aa 3),(af au (af dQ (aa 2) (aa 4)) (ci 1))]))) (sq (al (aa 1)) ae)) (LT S 0 1 0 []) [.list []] from rfl).trans ((bc h4).trans ((kQ rfl rfl (eM (om new.length▸h3) lt)).trans rfl)))
 unfold tkF
 rw [run]
 show RE.ok (V.ref 0) [aF.list ((new++[_]).map zg)]=_
 rw [iQ,h2];rfl
end
end
section
noncomputable def addR (ts:List I):Option (List I×Pd)->Option (List I×Pd)
 |some x=>some (x.1++ts,x.2)
 |none=>none
def run:T->Pd->Option (List I×Pd)
 |[],p=>some ([],p)
 |c::r,p=>match stp p c with
  |some q=>addR q.1 (run r q.2)
  |none=>none
def Rd (a:T) (ts:List I):Prop:=∀ acc r,Bd r->tz (a++r) acc .no=tz r (ts.reverse++acc) .no
def Rc (a:T) (ts:List I):Prop:=∀ acc r,tz (a++r) acc .no=tz r (ts.reverse++acc) .no
section
variable {a b r w:T} {acc ts us:List I} {p:Pd} {x:List I×Pd} {t:I} {c:Nat}
theorem Q0 (h:run a p=some x):tz (a++r) acc p=tz r (x.1++acc) x.2:=by
 induction a generalizing p acc x with
 |nil=>cases h;rfl
 |cons c a ih=>
  unfold run at h
  show (match stp p c with |some q=>tz (a++r) (q.1++acc) q.2 |none=>none)=_
  cases e:stp p c with
  |none=>rw [e] at h;exact jc h
  |some q=>
   rw [e] at h
   have h:addR q.1 (run a q.2)=some x:=h
   cases e':run a q.2 with
   |none=>rw [e'] at h;exact jc h
   |some y=>rw [e'] at h;cases h;exact (ih e').trans (by rw [bM])
def clo:Pd->Option (List I)
 | .no=>some []
 | .w w=>(mB w).map fun t=>[t]
 |_=>none
theorem flush (h:clo p=some us) (hb:Bd r):tz r acc p=tz r (us++acc) .no:=by
 cases p with
 |no=>cases h;rfl
 |w w=>
  obtain ⟨t,hw,rfl⟩:=CI.mp h
  cases r with
  |nil=>show (match mB w with |some t=>some (t::acc).reverse |none=>none)=_;rw [hw];rfl
  |cons c r=>
   have q:=hb c r rfl
   show (match stp (.w w) c with |some q=>tz r (q.1++acc) q.2 |none=>none)=(match stp .no c with |some q=>tz r (q.1++t::acc) q.2 |none=>none)
   rw [Wj q hw,Og q]
   cases Jo c with
   |none=>rfl
   |some x=>show tz r ((x.1++[t])++acc) x.2=_;rw [bM];rfl
 |_=>exact jc h
noncomputable def isNo:Pd->Option Unit
 | .no=>some ()
 |_=>none
def toks (a:T):Option (List I):=(run a .no).bind fun x=>(clo x.2).bind fun us=>some (us++x.1).reverse
def tM (a:T):Option (List I):=(run a .no).bind fun x=>(isNo x.2).bind fun j=>some x.1.reverse
theorem iC (h:toks a=some ts):Rd a ts:=fun acc r hb=>by
 obtain ⟨x,e,h⟩:=CJ.mp h
 obtain ⟨us,e',h⟩:=CJ.mp h
 cases h
 rw [Id,bM]
 exact (Q0 e).trans (flush e' hb)
theorem dU (h:tM a=some ts):Rc a ts:=fun acc r=>by
 obtain ⟨⟨us,p⟩,e,h⟩:=CJ.mp h
 obtain ⟨_,e',h⟩:=CJ.mp h
 cases h
 rw [Id]
 cases p with
 |no=>exact Q0 e
 |_=>exact jc e'
theorem Rc.rd (h:Rc a ts):Rd a ts:=fun acc r j=>h acc r
theorem Rc.app (h:Rc a ts) (k:Rc b us):Rc (a++b) (ts++us):=fun acc r=>by rw [bM,h,k,H3,bM]
theorem Rc.appd (h:Rc a ts) (k:Rd b us):Rd (a++b) (ts++us):=fun acc r hb=>by rw [bM,h,k _ _ hb,H3,bM]
theorem bd_c (hc:fb c=false):Bd (c::b):=fun j j e=>(iH e).1▸hc
theorem Rd.appc (h:Rd a ts) (k:Rc (c::b) us) (hc:fb c=false):Rc (a++c::b) (ts++us):=fun acc r=>by rw [bM,h _ (c::b++r) (bd_c hc),k,H3,bM]
theorem Rd.appd (h:Rd a ts) (k:Rd (c::b) us) (hc:fb c=false):Rd (a++c::b) (ts++us):=fun acc r hb=>by rw [bM,h _ (c::b++r) (bd_c hc),k _ _ hb,H3,bM]
theorem Rd.tz (h:Rd a ts):Mine.tz a [] .no=some ts:=by have:=h [] [] nofun;rw [dT,dT] at this;exact this.trans (aM some (Id ts))
end
end
section
noncomputable abbrev Ds:=List (Nat×Nat)
noncomputable def fN:Int->Ds->Int->Prop
 |N,[],N'=>N'=N
 |N,(d,m)::ds,N'=>0< m/\N.fmod m=d/\fN (N.fdiv m) ds N'
theorem fN.app {ds es:Ds} {N N' N'':Int} (h:fN N ds N') (k:fN N' es N''):fN N (ds++es) N'':=by
 induction ds generalizing N with
 |nil=>exact (show N'=N from h)▸k
 |cons p ds ih=>exact ⟨h.1,h.2.1,ih h.2.2⟩
def AJ (l:List Ds):Prop:=∀ N,∃ ds∈l,∃ N',fN N ds N'
noncomputable def ch (m:Nat) (f:Nat->List Ds):List Ds:=(List.range m).flatMap fun d=>(f d).map ((d,m)::·)
theorem MR:AJ [[]]:=fun N=>⟨[],.head _,N,rfl⟩
theorem bG (N:Int) {m:Nat} (h:0< m):∃ d,d< m/\N.fmod m=(d:Nat):=by
 have h0:(0:Int)< m:=Int.ofNat_lt.mpr h
 have h1:=Int.fmod_nonneg_of_pos N h0
 exact ⟨(N.fmod m).toNat,(Int.toNat_lt h1).mpr (Int.fmod_lt_of_pos N h0),(Int.toNat_of_nonneg h1).symm⟩
theorem gT {m:Nat} {f:Nat->List Ds} (hm:0< m) (h:∀ d,d< m->AJ (f d)):AJ (ch m f):=fun N=>
 let ⟨d,hd,e⟩:=bG N hm
 let ⟨ds,i,N',k⟩:=h d hd (N.fdiv m)
 ⟨(d,m)::ds,jA.mpr ⟨d,cE.mpr hd,gI i⟩,N',hm,e,k⟩
def UF (b:Bool) (m:Nat) (l:List Ds):List Ds:=match b with
 |true=>ch m fun j=>l
 |false=>l
theorem Fs {b:Bool} {m:Nat} {l:List Ds} (hm:0< m) (h:AJ l):AJ (UF b m l):=by
 cases b with
 |true=>exact gT hm fun j j=>h
 |false=>exact h
abbrev wd (s:T):I:= .tk iR s
abbrev sg (s:T):I:= .tk fY s
noncomputable def ce (fam tab verb kind name:T) (about:I):I:= .tup [.str verb,.str kind,.str fam,.str tab,.str name,about]
def WD:aF:= .dict [(.str qd,.fn),(.str nH,.fn),(.str TN,.fn),(.str ME,.fn),(.str Kq,.fn),(.str BX,.fn)]
abbrev Ek (c:aF) (xs:List I):RE V:= .ok (.ref 2) [c,WD,.list xs]
def DJ (w:Nat) (ds:Ds) (fam tab name:T):RE V:=df [.i (.num ((w,7)::ds)),.i (.str fam),.i (.str tab),.i (.str name)] []
noncomputable abbrev Ei (c:aF) (t:T) (m:List I):RE V:= .ok (.pr (.str t) 1) [c,.list m]
def OD:I:= .tup [.tup [.str ma],.str iV,.tup [],.int (.ofNat 0),.int (.ofNat 0),.bool false]
def jX (fam tab:T) (n:Nat) (kn:List (I×I)):Prop:=∃ r,kn=(.tup [.str fam,.str tab,.str tG],OD)::r/\r.length<=n
theorem jX.up {fam tab:T} {n:Nat} {kn:List (I×I)} (h:jX fam tab n kn):jX fam tab (n+1) kn:=h.imp fun j h=>⟨h.1,Nat.le_succ_of_le h.2⟩
def V6:List I:=[.tk fE bX,.tk fE iT,.tk fY cV]
abbrev n0 (y:I):Prop:=y∈V6
def kY:List (T×List I):=[(nZ,[wd nZ]),(mu,[wd mu]),(sZ,[wd sZ]),(il,[wd N0,wd il]),(iG,[wd iG]),(er,[wd er]),(dO,[wd dO]),(fS,[wd fS])]
def NN (k name:T) (bt:List I) (fam tab:T) (pre:List I) (y:I) (rest:List I) (kn:List (I×I)):RE V:=hO [.ref 0,.i (.str aU),.i (.str k),.i (.str name),.ref 1] [.rd pre (bt++y::rest) kn (.str fam) (.str tab),WD]
def wi (fam tab name kind:T) (bt made:List I):Prop:=∀ kn n,n<=10->jX fam tab n kn->∃ kn',jX fam tab (n+1) kn'/\∀ pre y rest,n0 y->∃ pre',NN kind name bt fam tab pre y rest kn=Ek (.rd pre' (y::rest) kn' (.str fam) (.str tab)) made
def Mu (k:T):Bool:=[nZ,mu,sZ,il,iG,er,dO,fS,ly,fH].any (bU k)
def za (c:I):Prop:=∃ f t v k n ab,c=ce f t v k n ab/\Mu k=true/\bS 11 ab=true
theorem xQ {f t v k n:T} {ab:I} (h:(Mu k && bS 11 ab)=true):za (ce f t v k n ab):=⟨f,t,v,k,n,ab,rfl,cp.mp h⟩
structure fq (fam tab name text:T) (made:List I):Prop where
 len:text.length<=20000
 few:made.length<=3
 cmds:∀ c∈made,za c
 rd:∃ kk∈kY,∃ bt,Rd text (kk.2++wd name::bt)/\wi fam tab name kk.1 bt made
def Fo (fam tab name:T) (ds:Ds):Prop:=∃ text made c,df [.i (.num ds),.i (.str fam),.i (.str tab),.i (.str name)] []=Ei c text made/\fq fam tab name text made
def qC (fam tab name:T) (N:Int):Prop:=∃ ds N',fN N ds N'/\Fo fam tab name ds
def lM (name:T):Prop:=name=[110,48]\/name=[110,49]\/name=[110,50]
theorem uL {name:T} (h:lM name):∃ c,name=[110,c]/\toks [110,c]=some [wd [110,c]]:=by
 rcases h with rfl |rfl |rfl<;>exact ⟨_,rfl,by kernel_rfl⟩
theorem qf {kt rest:T} {ks bt:List I} {c:Nat} (h1:tM kt=some ks) (h2:toks [110,c]=some [wd [110,c]]) (h3:Rd (32::rest) bt):Rd (kt++110::c::32::rest) (ks++wd [110,c]::bt):=(dU h1).appd ((iC h2).appd h3 rfl)
def dM (w:Nat):List Ds:=ch 2 fun o=>ch 3 fun j=>UF (!Nat.beq o 1) 2 (UF (!Nat.beq w 0) 2 (ch 2 fun f=>UF (Nat.beq f 0) 3 [[]]))
theorem cov_M (w:Nat):AJ (dM w):=gT (bf _) fun j j=>gT (bf _) fun j j=>Fs (bf _) (Fs (bf _) (gT (bf _) fun j j=>Fs (bf _) MR))
abbrev J2:=Nat×Ds
def mL:List J2:=(List.range 3).flatMap fun w=>(dM w).map (w,·)
def Eg (w:Nat):T×List I:=(kY[w]?).getD ([],[])
theorem yy {w:Nat} (h:w< 8):Eg w∈kY:=by
 unfold Eg
 rw [M9 (l:=kY) h]
 exact List.getElem_mem h
def ktN (w:Nat):T:=(match Nat.beq w 3 with |true=>N0++32::il |false=>(Eg w).1)++[32]
def iM (d:Nat) (rows:List T):T:=123::(match d with
 |0=>10::(bA aQ (rows.map (·++bX))++cV)
 |1=>32::(bA lI rows++nP)
 |_=>32::(bA lI rows++match rows with
  |[]=>nP
  |_::_=>F5))
def bw (e:I) (last:Bool):List (List I)->List I
 |[]=>[sg cV]
 |r::rs=>r++match last,rs with
  |true,[]=>[sg cV]
  |_,_=>e::bw e last rs
def jh (d:Nat) (rows:List (List I)):List I:=sg cH::match d with
 |0=> .tk fE bX::bw (.tk fE bX) false rows
 |1=>bw (.tk fE iT) true rows
 |_=>bw (.tk fE iT) false rows
noncomputable def dg:Ds->Nat->Nat
 |[],_=>0
 |p::_,0=>p.1
 |_::r,n+1=>dg r n
noncomputable def nT:Nat->T
 |0=>[48]
 |1=>[51]
 |_=>[49,56,52,52,54,55,52,52,48,55,51,55,48,57,53,53,49,54,49,53]
def Ot (w:Nat) (n:T) (to:T×List I) (o v:Nat):T×List I:=match w,o,v with
 |0,1,_=>([],[])
 |0,_,_=>(aaC++(n++s239),[wd TC,wd n,wd ER,wd [55,48]])
 |1,_,0=>(to.1++(n++IT),to.2++[wd n,wd ER])
 |1,_,_=>(to.1++(n++(IT++s241)),to.2++[wd n,wd ER,wd aaF,wd [50],wd s143])
 |_,_,1=>(Oe++(to.1++(n++Si)),wd TT::(to.2++[wd (n++Si)]))
 |_,_,_=>(Oe++(to.1++(s244++(n++IT))),wd TT::(to.2++[wd [51],wd u21,wd ZF,wd n,wd ER]))
def toM (o u:Nat):T×List I:=match o,u with
 |1,_=>(Zi,[wd s148])
 |_,1=>(s237,[wd s149])
 |_,_=>([],[])
def inB (f d:Nat) (b:T×List I):T×List I:=match f,b with
 |1,_=>b
 |_,([],_)=>(iM d [],jh d [])
 |_,_=>(iM d [b.1],jh d [b.2])
def Nu (ds:Ds) (k:Nat) (b:T×List I):T×List I:=inB (dg ds k) (dg ds (k+1)) b
def met (w:Nat) (ds:Ds):T×List I:=match w,dg ds 0 with
 |0,1=>Nu ds 2 ([],[])
 |0,o=>Nu ds 3 (Ot 0 (nT (dg ds 1)) ([],[]) o 0)
 |w,1=>Nu ds 3 (Ot w (nT (dg ds 1)) (toM 1 0) 1 (dg ds 2))
 |w,o=>Nu ds 4 (Ot w (nT (dg ds 1)) (toM o (dg ds 2)) o (dg ds 3))
def eRw:List (T×T×T×I):=[(TL++Oz,JP,Oz,.int 6),(TL++Tp,JP,Tp,.int 17),(s248,IO,Mr,.int 22),(YY,eu,u22,.int 3600000),(s250,jp,u23,.int 8),(s252,AV,s0,.int 2),(s253,AV,s1,.int 10)]
abbrev Bl (r:T×T×T×I):List I:=[wd r.2.1,wd r.2.2.1]
def eS (p w k:Nat):List (T×T×T×I):=((([[p],[2,3,4],(match w with |0=>[] |w+1=>[5+w])].flatten).map fun i=>(eRw[i]?).getD ([],[],[],.none)) |>fun l=>l.drop k++l.take k)
def Y1 (ds:Ds):T×List I:=(iM (dg ds 3) ((eS (dg ds 0) (dg ds 1) (dg ds 2)).map (·.1)),jh (dg ds 3) ((eS (dg ds 0) (dg ds 1) (dg ds 2)).map Bl))
def fx (x:J2):T×List I:=match x.1 with
 |3=>Y1 x.2
 |w=>met w x.2
noncomputable def QR:RE V->I
 | .ok _ [_,.list [.tup [_,_,_,_,_,a]]]=>a
 |_=> .none
def Vc (ts:List I):Bool:=match ts.getLast? with
 |some (.tk k s)=>bU k fY && bU s cV
 |_=>false
abbrev Wa (ts:List I) (y:I):List I:=match Vc ts with
 |true=>[y]
 |false=>V6
abbrev HF (x:J2) (c:Nat):T:=ktN x.1++110::c::32::(fx x).1
abbrev VS (x:J2) (fam tab:T) (c:Nat):List I:=[ce fam tab aU (Eg x.1).1 [110,c] (QR (DJ x.1 x.2 fam tab [110,c]))]
def aat (x:J2) (fam tab:T) (c:Nat) (pre rest:List I) (y:I) (kn:List (I×I)):RE V×Option (List I)×Option (List I)×List (RE V)×Bool:=
 (DJ x.1 x.2 fam tab [110,c],tM (ktN x.1),toks (32::(fx x).1),(Wa (fx x).2 y).map fun y=>NN (Eg x.1).1 [110,c] (fx x).2 fam tab pre y rest kn,Nat.ble (HF x c).length 20000 && (Mu (Eg x.1).1 && bS 11 (QR (DJ x.1 x.2 fam tab [110,c]))))
def sayP (x:J2) (fam tab:T) (c:Nat) (pre rest:List I) (y:I) (kn:List (I×I)):RE V×Option (List I)×Option (List I)×List (RE V)×Bool:=
 (Ei (.list [.dig []]) (HF x c) (VS x fam tab c),some (Eg x.1).2,some (fx x).2,(Wa (fx x).2 y).map fun y=>Ek (.rd ((fx x).2.reverse++pre) (y::rest) kn (.str fam) (.str tab)) (VS x fam tab c),true)
theorem m_all (fam tab:T) (c:Nat) (pre rest:List I) (y:I) (kn:List (I×I)):mL.map (fun x=>aat x fam tab c pre rest y kn)=mL.map (fun x=>sayP x fam tab c pre rest y kn):=by kernel_rfl
theorem Z6 {ts:List I} {y:I} (h:n0 y):y∈Wa ts y:=by
 unfold Wa
 cases Vc ts with
 |true=>exact .head _
 |false=>exact h
theorem RP {x:J2} {fam tab name:T} (hn:lM name) (hk:Eg x.1∈kY) (h:∀ c pre rest y kn,aat x fam tab c pre rest y kn=sayP x fam tab c pre rest y kn):Fo fam tab name ((x.1,7)::x.2):=by
 obtain ⟨c,rfl,hc⟩:=uL hn
 have a:=aT (h c [] [] .none [])
 have b:=aT a.2
 have d:=aT b.2
 have e:=cp.mp (aT d.2).2
 exact ⟨_,_,_,a.1,aI e.1,ib 1 2,fun j m=>cY.mp m▸xQ e.2,_,hk,_,qf b.1 hc (iC d.1),fun kn n j hkn=>⟨kn,hkn.up,fun pre y rest hy=>⟨_,aW.mp (aT (aT (aT (aT (h c pre rest y kn)).2).2).2).1 y (Z6 hy)⟩⟩⟩
theorem Jv {fam tab name:T} {w:Nat} (hn:lM name) (hw:w< 3) (N:Int) (hN:N.fmod 7=w):qC fam tab name N:=
 let ⟨ds,hd,N',h⟩:=cov_M w (N.fdiv 7)
 ⟨(w,7)::ds,N',⟨bf _,hN,h⟩,RP (x:=(w,ds)) hn (yy (ub hw (ib 3 5))) fun j j j j j=>aW.mp (m_all ..) _ (jA.mpr ⟨w,cE.mpr hw,gI hd⟩)⟩
def oc:List T:=[s0,s1,s2,s3,s4,s5]
abbrev EM (f:T):Prop:=f∈oc
end
section
structure St where
 l:av
 kn:List (I×I)
 r:ai
abbrev nl:I:= .tk fE bX
abbrev se:I:= .tk fE iT
abbrev cb:I:=sg cV
def BA:Tx:=bP (a7 (aw bB (aa 0) [cs cV]))
def To:Sx:=sq (aE (call dn [aa 0])) ae
def AQ (w:Sx) (fam tab:I) (row:List I) (s s':St):Prop:=(∃ c t,row=wd c::t)/\∀ pre y rest,n0 y->∃ pre',w (some (.ref 0)::s.l) (.rd pre (row++y::rest) s.kn fam tab::s.r)=To (some (.ref 0)::s'.l) (.rd pre' (y::rest) s'.kn fam tab::s'.r)
def Rows (w:Sx) (fam tab:I):List (List I)->St->St->Prop
 |[],s,s'=>s'=s
 |r::rs,s,s'=>∃ s1,AQ w fam tab r s s1/\Rows w fam tab rs s1 s'
section
variable {w R:Sx} {fam tab e x:I} {last:Bool} {rows:List (List I)} {s s':St} {l:av} {r:ai} {pre rest:List I} {kn:List (I×I)}
def Hd (x:I):Prop:=x=cb\/∃ c,x=wd c
theorem end_1 (he:e=nl\/e=se) (hx:Hd x):To (some (.ref 0)::l) (.rd pre (e::x::rest) kn fam tab::r)= .ok .nxt (some (.ref 0)::l) (.rd (e::pre) (x::rest) kn fam tab::r):=by
 rcases he with rfl |rfl<;>rcases hx with rfl |⟨_,rfl⟩<;>kernel_rfl
theorem end_0:To (some (.ref 0)::l) (.rd pre (cb::rest) kn fam tab::r)= .ok .nxt (some (.ref 0)::l) (.rd pre (cb::rest) kn fam tab::r):=by kernel_rfl
theorem c_F:BA (some (.ref 0)::l) (.rd pre (cb::rest) kn fam tab::r)= .ok false (.rd (cb::pre) rest kn fam tab::r):=by kernel_rfl
theorem c_T {c:T}:BA (some (.ref 0)::l) (.rd pre (wd c::rest) kn fam tab::r)= .ok true (.rd pre (wd c::rest) kn fam tab::r):=by kernel_rfl
theorem Zg (hx:Hd x):aE (call cC [aa 0]) (some (.ref 0)::l) (.rd pre (sg cH::x::rest) kn fam tab::r)= .ok .nxt (some (.ref 0)::l) (.rd (sg cH::pre) (x::rest) kn fam tab::r):=by
 rcases hx with rfl |⟨_,rfl⟩<;>kernel_rfl
theorem open_1 (hx:Hd x):aE (call cC [aa 0]) (some (.ref 0)::l) (.rd pre (sg cH::nl::x::rest) kn fam tab::r)= .ok .nxt (some (.ref 0)::l) (.rd (nl::sg cH::pre) (x::rest) kn fam tab::r):=by
 rcases hx with rfl |⟨_,rfl⟩<;>kernel_rfl
theorem stop_e (he:e=nl\/e=se):n0 e:=he.elim (·▸ .head _) (·▸ .tail _ (.head _))
theorem Oj (h:Rows w fam tab rows s s'):∃ x r,bw e last rows=x::r/\Hd x:=by
 cases rows with
 |nil=>exact ⟨_,_,rfl,.inl rfl⟩
 |cons a rs=>
  obtain ⟨_,⟨⟨c,t,rfl⟩,_⟩,_⟩:=h
  exact ⟨_,_,rfl,.inr ⟨c,rfl⟩⟩
theorem LC (he:e=nl\/e=se) (h:Rows w fam tab rows s s') (n:Nat) (hn:rows.length< n):∃ pre',jq BA w n (some (.ref 0)::s.l) (.rd pre (bw e last rows++rest) s.kn fam tab::s.r)= .ok .nxt (some (.ref 0)::s'.l) (.rd pre' rest s'.kn fam tab::s'.r):=by
 induction rows generalizing s pre n with
 |nil=>cases n with
  |zero=>exact absurd hn (ie _)
  |succ n=>cases (show s'=s from h);exact ⟨_,uR c_F⟩
 |cons a rs ih=>cases n with
  |zero=>exact absurd hn (ie _)
  |succ n=>
   obtain ⟨s1,⟨⟨c,t,rfl⟩,g⟩,k⟩:=h
   have mid:∃ pre',jq BA w (n+1) (some (.ref 0)::s.l) (.rd pre ((wd c::t++e::bw e last rs)++rest) s.kn fam tab::s.r)= .ok .nxt (some (.ref 0)::s'.l) (.rd pre' rest s'.kn fam tab::s'.r):=by
    rw [bM]
    obtain ⟨x,u,hx,hd⟩:=Oj (e:=e) (last:=last) k
    obtain ⟨p1,g1⟩:=g pre e (bw e last rs++rest) (stop_e he)
    obtain ⟨p2,g2⟩:=ih k n (rt hn)
    refine ⟨p2,(qi (b:=w) c_T (g1.trans ?_)).trans g2⟩
    rw [hx]
    exact end_1 he hd
   cases last with
   |false=>exact mid
   |true=>cases rs with
    |cons b rs=>exact mid
    |nil=>
     cases (show s'=s1 from k)
     obtain ⟨p1,g1⟩:=g pre cb rest (.tail _ (.tail _ (.head _)))
     cases n with
     |zero=>exact absurd (rt hn) (ie _)
     |succ n=>
      refine ⟨cb::p1,?_⟩
      show jq BA w (n+2) (some (.ref 0)::s.l) (.rd pre ((wd c::t++[cb])++rest) s.kn fam tab::s.r)=_
      rw [bM]
      exact (qi (b:=w) c_T (g1.trans end_0)).trans (uR c_F)
theorem xz (d:Nat) (h:Rows w fam tab rows s s') (hn:rows.length< fw):∃ pre',∀ R,sq (aE (call cC [aa 0])) (sq (wh BA w) R) (some (.ref 0)::s.l) (.rd pre (jh d rows++rest) s.kn fam tab::s.r)=R (some (.ref 0)::s'.l) (.rd pre' rest s'.kn fam tab::s'.r):=by
 have go:∀ {e last} (he:e=nl\/e=se),∃ pre',∀ R,sq (aE (call cC [aa 0])) (sq (wh BA w) R) (some (.ref 0)::s.l) (.rd pre (sg cH::(bw e last rows++rest)) s.kn fam tab::s.r)=R (some (.ref 0)::s'.l) (.rd pre' rest s'.kn fam tab::s'.r):=fun {e last} he=>by
  obtain ⟨x,u,hx,hd⟩:=Oj (e:=e) (last:=last) h
  obtain ⟨p,g⟩:=LC (last:=last) (pre:=sg cH::pre) (rest:=rest) he h fw hn
  refine ⟨p,fun R=>(bc ?_).trans (bc g)⟩
  rw [hx]
  exact Zg hd
 match d with
 |0=>
  obtain ⟨x,u,hx,hd⟩:=Oj (e:=nl) (last:=false) h
  obtain ⟨p,g⟩:=LC (last:=false) (pre:=nl::sg cH::pre) (rest:=rest) (.inl rfl) h fw hn
  refine ⟨p,fun R=>(bc ?_).trans (bc g)⟩
  show aE _ _ (.rd pre (sg cH::nl::(bw nl false rows++rest)) s.kn fam tab::s.r)=_
  rw [hx]
  exact open_1 hd
 |1=>exact go (.inr rfl)
 |_+2=>exact go (.inr rfl)
theorem Xm {S:Nat->St} (h:∀ i r,rows[i]?=some r->AQ w fam tab r (S i) (S (i+1))):Rows w fam tab rows (S 0) (S rows.length):=by
 induction rows generalizing S with
 |nil=>rfl
 |cons a rs ih=>exact ⟨S 1,h 0 a rfl,ih (S:=fun i=>S (i+1)) fun i r e=>h (i+1) r e⟩
end
end
section
theorem cU {F:Fn} {as:List Ex} {l:av} {σ σ' cs cs':ai} {vs:List V} {v:V} {R:RE V} (h:cS as l σ= .ok vs σ') (hc:b6 σ' (bz vs [])=some cs) (hF:F (vs.map (gH (eP (bz vs [])))) cs= .ok v cs') (hb:Ii σ' (bz vs []) cs' v=R):call F as l σ=R:=by
 show (cS as l σ).bind _=_
 rw [h]
 show et F vs σ'=_
 unfold et
 rw [hc]
 show dX σ' _ (F _ cs)=_
 rw [hF]
 exact hb
theorem pb (σ j:ai):cT σ [] j=σ:=by cases j<;>rfl
def Reads (fam tab:I) (F:Fn) (vs ts:List I) (x:I):Prop:=∀ pre y rest kn,n0 y->∃ pre' j,F (.ref 0::vs.map .i) [.rd pre (ts++y::rest) kn fam tab]= .ok (.i x) (.rd pre' (y::rest) kn fam tab::j)
abbrev uZ (kind name:T):av:=[some (.ref 0),some (.i (.str aU)),some (.i (.str kind)),some (.i (.str name)),some (.ref 1)]
section
variable {fam tab name kind:T} {bt:List I} {x:I}
theorem Mi (H:∀ pre y rest kn,n0 y->∃ pre',wL (uZ kind name) [.rd pre (bt++y::rest) kn (.str fam) (.str tab),WD]= .ok .nxt (uZ kind name++[some (.i x)]) [.rd pre' (y::rest) kn (.str fam) (.str tab),WD])
  (h0:bU kind er=false) (h1:bU kind dO=false) (h2:bU kind fS=false):wi fam tab name kind bt [ce fam tab aU kind name x]:=fun kn n j hkn=>⟨kn,hkn.up,fun pre y rest hy=>by
 obtain ⟨p,g⟩:=H pre y rest kn hy
 have c:∀ {k:T} {σ:ai},bU kind k=false->aj az (aa 2) (cs k) (uZ kind name) σ= .ok false σ:=fun {k σ} h=>aM (fun b=>RE.ok b σ) h
 have e:mQ (uZ kind name) [.rd pre (bt++y::rest) kn (.str fam) (.str tab),WD]= .ok (.ret (.ref 2)) (uZ kind name++[some (.i x)]) [.rd p (y::rest) kn (.str fam) (.str tab),WD,.list [ce fam tab aU kind name x]]:=
  (bc (pz (c h0))).trans ((bc (pz (Gj (c h1) (Gj (c h2) rfl)))).trans ((bc g).trans (bj rfl)))
 refine ⟨p,?_⟩
 exact aM RS.fin e⟩
theorem kw {F:Fn} {vs:List I} {as:List Ex} {l:av} {c c':aF} {r j:ai} (g:F (.ref 0::vs.map .i) [c]= .ok (.i x) (c'::j)) (h:cS as l (c::r)= .ok (.ref 0::vs.map .i) (c::r)):call F as l (c::r)= .ok (.i x) (c'::r):=by
 show (cS as l _).bind _=_
 rw [h]
 show et F _ _=_
 unfold et
 rw [show bz (.ref 0::vs.map V.i) []=[0] from yu]
 show dX _ _ (F (.ref 0::(vs.map V.i).map _) _)=_
 rw [EJ,g]
 exact aM (RE.ok _) (pb (_::r) j)
theorem k8 {F:Fn} {vs:List I} {as:List Ex} {l:av} {r:ai} {ts pre rest:List I} {y fam tab:I} {kn:List (I×I)} (H:Reads fam tab F vs ts x) (hy:n0 y) (h:cS as l (.rd pre (ts++y::rest) kn fam tab::r)= .ok (.ref 0::vs.map .i) (.rd pre (ts++y::rest) kn fam tab::r)):∃ pre',call F as l (.rd pre (ts++y::rest) kn fam tab::r)= .ok (.i x) (.rd pre' (y::rest) kn fam tab::r):=
 let ⟨p,_,g⟩:=H pre y rest kn hy
 ⟨p,kw g h⟩
theorem SY (H:Reads (.str fam) (.str tab) eK [] bt x):wi fam tab name il bt [ce fam tab aU il name x]:=Mi (fun pre y rest kn hy=>by
 obtain ⟨p,g⟩:=k8 (as:=[aa 0]) (l:=uZ il name) (r:=[WD]) (pre:=pre) (rest:=rest) (kn:=kn) H hy rfl
 exact ⟨p,(sk rfl).trans (bc (dm g))⟩) rfl rfl rfl
end
noncomputable abbrev X3:=Nat×Nat×Nat
noncomputable def eX:List X3:=(List.range 2).flatMap fun p=>(List.range 3).flatMap fun w=>(List.range 4).map fun k=>(p,w,k)
noncomputable def eVs:List I:=[.int 6,.int 17,.int 22,.int 3600000,.int 8,.int 2,.int 10]
def yB:List (I×I):=[(.str s0,.int 2),(.str s1,.int 10)]
def nf (f:T):I:=(fQ yB (.str f)).getD (.int 0)
def Uy:List T:=[JP,IO,eu,jp,AV]
def eD (x:X3) (n:Nat) (f:I):List (I×I):=((eS x.1 x.2.1 x.2.2).take n).foldl (fun d r=>iP d (.str r.2.1) r.2.2.2) [(.str AV,f)]
def Je:av:=[some (.ref 1),some (.i (.tup (Uy.map .str))),some (.ref 2)]
def L4 (x:X3):Nat->av
 |0=>[]
 |i+1=>[some (.i (.str ((eS x.1 x.2.1 x.2.2)[i]?.getD ([],[],[],.none)).2.1))]
abbrev eSt (kn:List (I×I)) (x:X3) (f:I) (i:Nat):St:=⟨Je++L4 x i,kn,[.dict yB,.dict (eD x i f)]⟩
section
variable {fam tab f y:I} {pre rest:List I} {kn:List (I×I)}
abbrev GC (x:X3) (i:Nat):T×T×T×I:=(eS x.1 x.2.1 x.2.2)[i]?.getD ([],[],[],.none)
theorem e_step:eX.map (fun x=>(List.range (eS x.1 x.2.1 x.2.2).length).map fun i=>
   (jK (some (.ref 0)::(Je++L4 x i)) [.rd pre (Bl (GC x i)++y::rest) kn fam tab,.dict yB,.dict (eD x i f)],jH (some (.ref 0)::(Je++L4 x (i+1))) [.rd (wd (GC x i).2.1::pre) (wd (GC x i).2.2.1::y::rest) kn fam tab,.dict yB,.dict (eD x i f)]))=
  eX.map fun x=>(List.range (eS x.1 x.2.1 x.2.2).length).map fun i=>
   (.ok .nxt (some (.ref 0)::(Je++L4 x (i+1))) [.rd (wd (GC x i).2.1::pre) (wd (GC x i).2.2.1::y::rest) kn fam tab,.dict yB,.dict (eD x i f)],.ok .nxt (some (.ref 0)::(Je++L4 x (i+1))) [.rd (wd (GC x i).2.2.1::wd (GC x i).2.1::pre) (y::rest) kn fam tab,.dict yB,.dict (eD x (i+1) f)]):=by kernel_rfl
def VP (x:X3) (f:I):I:= .tup (Uy.map fun k=>(fQ (eD x (eS x.1 x.2.1 x.2.2).length f) (.str k)).getD .none)
noncomputable def xy (r:RE V):Option (I×Option aF):=match r with
 | .ok (.i x) σ=>some (x,σ[0]?)
 |_=>none
theorem pM {r:RE V} {x:I} {c:aF} (h:xy r=some (x,some c)):∃ j,r= .ok (.i x) (c::j):=by
 cases r with
 |ok v σ=>cases v with
  |i=>cases σ with
   |nil=>exact jc (aM (fun x=>x.2) (bO h))
   |cons a σ=>
    have e:=aT (bO h)
    exact ⟨σ,by rw [e.1,bO e.2]⟩
  |_=>exact jc h
 |_=>exact jc h
theorem e_tail:eX.map (fun x=>xy ((sq kG (sq kE ae)) (some (.ref 0)::(Je++L4 x (eS x.1 x.2.1 x.2.2).length)) [.rd pre rest kn fam tab,.dict yB,.dict (eD x (eS x.1 x.2.1 x.2.2).length f)]).fin)=eX.map fun x=>some (VP x f,some (.rd pre rest kn fam tab)):=by kernel_rfl
theorem e_head (R:Sx):oc.map (fun f=>(sq lu (sq lG (sq lh R))) [some (.ref 0)] [.rd pre rest kn (.str f) tab])=oc.map fun f=>R (some (.ref 0)::Je) [.rd pre rest kn (.str f) tab,.dict yB,.dict [(.str AV,nf f)]]:=by kernel_rfl
end
theorem XD {f:T} (hf:EM f) {tab:I} {x:X3} (hx:x∈eX) (d:Nat):Reads (.str f) tab eK [] (jh d ((eS x.1 x.2.1 x.2.2).map Bl)) (VP x (nf f)):=fun pre y rest kn u=>by
 have R:Rows ni (.str f) tab ((eS x.1 x.2.1 x.2.2).map Bl) (eSt kn x (nf f) 0) (eSt kn x (nf f) ((eS x.1 x.2.1 x.2.2).map Bl).length):=Xm (S:=eSt kn x (nf f)) fun i r e=>by
  rw [FM] at e
  obtain ⟨q,e',rfl⟩:=CI.mp e
  have hi:=(gL.mp e').1
  refine ⟨⟨_,_,rfl⟩,fun pre y rest u=>⟨wd q.2.2.1::wd q.2.1::pre,?_⟩⟩
  have g:=aT (aW.mp (aW.mp (e_step (fam:= .str f) (tab:=tab) (f:=nf f) (y:=y) (pre:=pre) (rest:=rest) (kn:=kn)) x hx) i (cE.mpr hi))
  rw [show GC x i=q from aM (Option.getD · _) e'] at g
  exact (bc g.1).trans (bc g.2)
 have hl:(eS x.1 x.2.1 x.2.2).length< fw:=aI (aW.mp (show eX.map (fun x=>Nat.blt (eS x.1 x.2.1 x.2.2).length fw)=eX.map fun u=>true by kernel_rfl) x hx)
 rw [<-cD (f:=Bl)] at hl
 obtain ⟨p,g⟩:=xz (pre:=pre) (rest:=y::rest) d R hl
 rw [cD] at g
 obtain ⟨j,k⟩:=pM (aW.mp (e_tail (fam:= .str f) (tab:=tab) (f:=nf f) (pre:=p) (rest:=y::rest) (kn:=kn)) x hx)
 exact ⟨p,j,(aM RS.fin ((aW.mp (e_head (pre:=pre) (rest:=jh d ((eS x.1 x.2.1 x.2.2).map Bl)++y::rest) (kn:=kn) (tab:=tab) _) f hf).trans (g _))).trans k⟩
noncomputable def MO (x:X3) (d:Nat):Ds:=[(x.1,2),(x.2.1,3),(x.2.2,4),(d,3)]
theorem Wv {tab:T} {c:Nat}:eX.map (fun x=>(List.range 3).map fun d=>(toks (32::(Y1 (MO x d)).1),oc.map fun f=>(DJ 3 (MO x d) f tab [110,c],Nat.ble (HF (3,MO x d) c).length 20000 && bS 11 (VP x (nf f)))))=eX.map fun x=>(List.range 3).map fun d=>(some (Y1 (MO x d)).2,oc.map fun f=>(Ei (.list [.dig []]) (HF (3,MO x d) c) [ce f tab aU il [110,c] (VP x (nf f))],true)):=by kernel_rfl
theorem ZR {fam tab name:T} (hf:EM fam) (hn:lM name) (N:Int) (hN:N.fmod 7=3):qC fam tab name N:=by
 obtain ⟨c,rfl,hc⟩:=uL hn
 obtain ⟨p,hp,e1⟩:=bG (N.fdiv 7) (m:=2) (bf _)
 obtain ⟨w,hw,e2⟩:=bG ((N.fdiv 7).fdiv 2) (m:=3) (bf _)
 obtain ⟨k,hk,e3⟩:=bG (((N.fdiv 7).fdiv 2).fdiv 3) (m:=4) (bf _)
 obtain ⟨d,hd,e4⟩:=bG ((((N.fdiv 7).fdiv 2).fdiv 3).fdiv 4) (m:=3) (bf _)
 have hx:(p,w,k)∈eX:=jA.mpr ⟨p,cE.mpr hp,jA.mpr ⟨w,cE.mpr hw,cZ.mpr ⟨k,cE.mpr hk,rfl⟩⟩⟩
 have g:=aT (aW.mp (aW.mp (Wv (tab:=tab) (c:=c)) _ hx) d (cE.mpr hd))
 have a:=aT (aW.mp g.2 fam hf)
 have e:=cp.mp a.2
 exact ⟨(3,7)::MO (p,w,k) d,_,⟨bf _,hN,bf _,e1,bf _,e2,bf _,e3,bf _,e4,rfl⟩,_,_,_,a.1,aI e.1,ib 1 2,fun j m=>cY.mp m▸xQ e.2,_,yy (w:=3) (ib 4 4),_,qf (by kernel_rfl) hc (iC g.1),SY (XD hf hx d)⟩
end
section
def z4:List T:=[s6,s7,s8,s9,Cz,kr]
abbrev Vs (h:T):Prop:=h∈z4
abbrev Nm:=T×Int
def CL:List (List Nm):=[[(r7,0)],[(r7,0),(PF,-300),(Pb,-150),(Qq,50)],[(r7,0),(PF,-300),(Pb,-150),(Qq,50),(LY,-100)],[(r7,0),(PF,-300),(Pb,-150),(Qq,50),(L9,100)],[(r7,-200)],[(r7,-200),(LY,-300)],[(r7,-200),(s48,100)],[(r7,-200),(L9,300)]]
def cls (f h:T):Nat:=match bU f s4 with
 |true=>match bU h s6,bU h s9,bU h Cz with
  |true,_,_=>5
  |_,true,_=>6
  |_,_,true=>7
  |_,_,_=>4
 |false=>match [s0,s1,s2].any (bU f) with
  |false=>0
  |true=>match [s6,s9].any (bU h),[s7,Cz].any (bU h) with
   |true,_=>2
   |_,true=>3
   |_,_=>1
def cN (f h:T):List Nm:=(CL[cls f h]?).getD []
noncomputable def pI (p:Nm):I:= .tup [.str p.1,.int p.2]
noncomputable def pD (p:Nm):I×I:=(.str p.1,.int p.2)
noncomputable def Uz:List Nat:=[0,1,2,3,4,5,6,7,8,9,10,11]
noncomputable def M4:List Nat:=[0,1,2,3]
def pA (p:Nm) (m:Nat):Nat->T×List I×T×Int
 |0=>(p.1,[wd p.1],p.1,p.2)
 |1=>(p.1++(aa2++cF m),[wd p.1,wd NG,wd (cF m)],p.1++(NG++cF m),p.2+m)
 |2=>(p.1++(GZ++cF m),[wd (p.1++(GZ++cF m))],p.1++(GZ++cF m),p.2 - m)
 |_=>match Nat.mod m 2 with
  |0=>(Zy++cF m,[wd GZ,wd (cF m)],GZ++cF m,-m)
  |_=>(AX (p.2 - m),[wd (AX (p.2 - m))],AX (p.2 - m),p.2 - m)
section
variable {x y z:V} {σ:ai} {c:aF} {ds:Ds} {e:T} {pre rest:List I} {kn:List (I×I)} {fam tab:I} {R:Sx} {f h:T} {l:av}
theorem p_all:CL.map (fun ps=>ps.map fun p=>Uz.map fun m=>M4.map fun w=>
   (xy ((sq oV (sq oN (sq oB (sq oR (sq oJ (sq oI ae)))))) [some (.ref 0),some x,some y,some z,some (.i (.str p.1)),some (.i (.int p.2))] (.list [.dig ((m,12)::(w,4)::ds)]::σ)).fin,toks (pA p m w).1,Nat.ble (pA p m w).1.length 30,
    [.tk fE e,cb].map fun t=>(sq oU (sq oW (sq oz R))) [some (.ref 0),some x,some y] [.rd pre ((pA p m w).2.1++t::rest) kn fam tab],xy (jM [.ref 0,.i (.str (pA p m w).2.2.1)] [.dict (ps.map pD)])))=
  CL.map fun ps=>ps.map fun p=>Uz.map fun m=>M4.map fun w=>
   (some (.tup [.str (pA p m w).1,.int (pA p m w).2.2.2],some (.list [.dig ds])),some (pA p m w).2.1,true,
    [.tk fE e,cb].map fun t=>R [some (.ref 0),some x,some y,some (.i (.int (.ofNat pre.length))),some (.i (.str (pA p m w).2.2.1))] [.rd ((pA p m w).2.1.reverse++pre) (t::rest) kn fam tab],some (.int (pA p m w).2.2.2,some (.dict (ps.map pD)))):=by kernel_rfl
end
end
section
theorem zI {y:I} (h:n0 y):∃ e,y∈[.tk fE e,cb]:=by
 rcases List.mem_cons.mp h with rfl |h
 ·exact ⟨bX,.head _⟩
 ·rcases List.mem_cons.mp h with rfl |h
  ·exact ⟨iT,.head _⟩
  ·exact ⟨[],.tail _ h⟩
def PrioOk (fam h:T) (tab:I) (text:T) (n:Int):Prop:=text.length<=30/\∃ ts,Rd text ts/\Reads (.str fam) tab cn [.str fam,.str h] ts (.int n)
section
variable {σ:ai} {c:aF} {ds:Ds} {pre rest:List I} {kn:List (I×I)} {tab:I} {f h:T} {l:av}
theorem X6:oc.map (fun f=>z4.map fun h=>(oX [some (.ref 0),some (.i (.str f)),some (.i (.str h))] [c],call lf [(aa 1),(aa 2)] (some (.ref 0)::some (.i (.str f))::some (.i (.str h))::l) [c],Nat.blt (cls f h) 8))=
  oc.map fun f=>z4.map fun h=>(.ok .nxt [some (.ref 0),some (.i (.str f)),some (.i (.str h)),some (.ref 1)] [c,.list ((cN f h).map pI)],.ok (.ref 1) [c,.dict ((cN f h).map pD)],true):=by kernel_rfl
theorem aaZ (x y:V):CL.map (fun ps=>(List.range ps.length).map fun i=>oM [some (.ref 0),some x,some y,some (.ref 1)] [.list [.dig ((i,ps.length)::ds)],.list (ps.map pI)])=
  CL.map fun ps=>(List.range ps.length).map fun i=> .ok .nxt [some (.ref 0),some x,some y,some (.ref 1),some (.i (.str ((ps[i]?).getD ([],0)).1)),some (.i (.int ((ps[i]?).getD ([],0)).2))] [.list [.dig ds],.list (ps.map pI)]:=by kernel_rfl
theorem vV {α:Type} {l:List α} {i:Nat} {d:α} (h:i< l.length):(l[i]?).getD d∈l:=by
 rw [M9 h]
 exact List.getElem_mem h
end
theorem L7 {f h:T} (hf:EM f) (hh:Vs h) (tab:I) (N:Int):∃ ds1 N' text n,fN N ds1 N'/\PrioOk f h tab text n/\∀ ds,∃ j,dG [.ref 0,.i (.str f),.i (.str h)] [.list [.dig (ds1++ds)]]= .ok (.i (.tup [.str text,.int n])) (.list [.dig ds]::j):=by
 have g:=fun c l=>aW.mp (aW.mp (X6 (c:=c) (l:=l)) f hf) h hh
 have hc:cN f h∈CL:=vV (aI (aT (aT (g (.list []) [])).2).2)
 have hp:0< (cN f h).length:=aI (aW.mp (show CL.map (fun ps=>Nat.blt 0 ps.length)=CL.map fun q=>true by kernel_rfl) _ hc)
 obtain ⟨i,hi,e1⟩:=bG N hp
 obtain ⟨m,hm,e2⟩:=bG (N.fdiv (cN f h).length) (m:=12) (bf _)
 obtain ⟨w,hw,e3⟩:=bG ((N.fdiv (cN f h).length).fdiv 12) (m:=4) (bf _)
 have hq:=vV (d:=(([],0):Nm)) hi
 have hm:m∈Uz:=(show List.range 12=Uz from rfl)▸cE.mpr hm
 have hw:w∈M4:=(show List.range 4=M4 from rfl)▸cE.mpr hw
 have A:=fun {x y z σ ds e pre rest kn fam tab R}=>aT (aW.mp (aW.mp (aW.mp (aW.mp (p_all (x:=x) (y:=y) (z:=z) (σ:=σ) (ds:=ds) (e:=e) (pre:=pre) (rest:=rest) (kn:=kn) (fam:=fam) (tab:=tab) (R:=R)) _ hc) _ hq) _ hm) _ hw)
 generalize hpp:((cN f h)[i]?).getD (([],0):Nm)=p at hq A
 have B:=aT (A (x:= .ref 0) (y:= .ref 0) (z:= .ref 0) (σ:=[]) (ds:=[]) (e:=[]) (pre:=[]) (rest:=[]) (kn:=[]) (fam:= .none) (tab:= .none) (R:=ae)).2
 refine ⟨[(i,(cN f h).length),(m,12),(w,4)],_,(pA p m w).1,(pA p m w).2.2.2,⟨hp,e1,bf _,e2,bf _,e3,rfl⟩,⟨aI (aT B.2).1,(pA p m w).2.1,iC B.1,fun pre y rest kn hy=>?_⟩,fun ds=>?_⟩
 ·obtain ⟨e,hy⟩:=zI hy
  have a:=aT (aT (aT (A (x:= .i (.str f)) (y:= .i (.str h)) (z:= .ref 0) (σ:=[]) (ds:=[]) (e:=e) (pre:=pre) (rest:=rest) (kn:=kn) (fam:= .str f) (tab:=tab) (R:=sq ou (sq oY (sq oQ ae)))).2).2).2
  obtain ⟨j,k⟩:=pM a.2
  have b:=aW.mp a.1 y hy
  have cl:=(aT (aT (g (.rd ((pA p m w).2.1.reverse++pre) (y::rest) kn (.str f) tab) [some (.i (.int (.ofNat pre.length))),some (.i (.str (pA p m w).2.2.1))])).2).1
  exact ⟨(pA p m w).2.1.reverse++pre,[.dict ((cN f h).map pD)],aM RS.fin (b.trans ((bc (dm (v:= .i (.int (pA p m w).2.2.2)) (σ':=[.rd ((pA p m w).2.1.reverse++pre) (y::rest) kn (.str f) tab,.dict ((cN f h).map pD)]) (cU (bk cl rfl) rfl k (by exact aM (RE.ok _) (pb _ j))))).trans ((bc (l':=[some (.ref 0),some (.i (.str f)),some (.i (.str h)),some (.i (.int (.ofNat pre.length))),some (.i (.str (pA p m w).2.2.1)),some (.i (.int (pA p m w).2.2.2))]) rfl).trans (bj rfl))))⟩
 ·obtain ⟨j,k⟩:=pM (A (x:= .i (.str f)) (y:= .i (.str h)) (z:= .ref 1) (σ:=[.list ((cN f h).map pI)]) (ds:=ds) (e:=[]) (pre:=[]) (rest:=[]) (kn:=[]) (fam:= .none) (tab:= .none) (R:=ae)).1
  have b:=aW.mp (aW.mp (aaZ (ds:=(m,12)::(w,4)::ds) (.i (.str f)) (.i (.str h))) _ hc) i (cE.mpr hi)
  rw [hpp] at b
  exact ⟨j,(aM RS.fin ((bc (aT (g (.list [.dig ([(i,(cN f h).length),(m,12),(w,4)]++ds)]) [])).1).trans (bc b))).trans k⟩
end
section
theorem pJ {S ρ:Type} {bad:ρ} {fin:S->ai->ρ} {stp:I->(S->ai->ρ)->S->ai->ρ} {n f i:Nat} {a:S} {σ:ai} {x:I} (h:sK n i σ=some (some x)):iu bad fin stp n (f+1) i a σ=stp x (iu bad fin stp n f (i+1)) a σ:=by
 show (match sK n i σ with |none=>bad |some y=>match y with |none=>fin a σ |some x=>stp x (iu bad fin stp n f (i+1)) a σ)=_
 rw [h]
theorem z8 {S ρ:Type} {bad:ρ} {fin:S->ai->ρ} {stp:I->(S->ai->ρ)->S->ai->ρ} {n f i:Nat} {a:S} {σ:ai} (h:sK n i σ=some none):iu bad fin stp n (f+1) i a σ=fin a σ:=by
 show (match sK n i σ with |none=>bad |some y=>match y with |none=>fin a σ |some x=>stp x (iu bad fin stp n f (i+1)) a σ)=_
 rw [h]
theorem PU {l:av} {n:Nat} {v:V}:bN (bK l n v) n=some v:=by
 induction n generalizing l with
 |zero=>cases l<;>rfl
 |succ n ih=>cases l with
  |nil=>exact ih
  |cons x l=>exact ih
theorem jD {l:av} {n:Nat} {v:V} {σ:ai} (h:bN l n=some v):aa n l σ= .ok v σ:=by
 show (match bN l n with |some v=>RE.ok v σ |none=> .bad)=_
 rw [h]
section
variable {l l':av} {σ σ':ai} {c:Tx} {a b:Sx} {R:RS}
theorem aG (h:a l σ= .ok .nxt l' σ') (k:b l' σ'=R):sq a b l σ=R:=(bc h).trans k
theorem gc (h:c l σ= .ok true σ') (k:a l σ'=R):am c a b l σ=R:=(sk h).trans k
theorem iL (h:c l σ= .ok false σ') (k:b l σ'=R):am c a b l σ=R:=(pz h).trans k
end
section
variable {a b:Ex} {l:av} {σ σ1 σ2:ai} {x y z p:T} {n:Nat} {ss rows:List T} {B d:Nat}
theorem rB {f:V->V->ai->RE V} {u w:V} {R:RE V} (h1:a l σ= .ok u σ1) (h2:b l σ1= .ok w σ2) (h3:f u w σ2=R):af f a b l σ=R:=by
 show (a l σ).bind _=_
 rw [h1]
 show (b l σ1).bind _=_
 rw [h2]
 exact h3
theorem ec (h1:a l σ= .ok (.i (.str x)) σ1) (h2:b l σ1= .ok (.i (.str y)) σ2) (h:(x++y).length<=aJ):af au a b l σ= .ok (.i (.str (x++y))) σ2:=by
 refine rB h1 h2 ?_
 show gd (Nat.ble (x.length+y.length) aJ) _=_
 rw [<-bd,gp h];rfl
theorem gj {m:Nat} (h:(x++y).length<=m):x.length<=m:=ba (mr _ _) (bd▸h)
theorem R4:nF (ss.map I.str)=some ss:=by
 induction ss with
 |nil=>rfl
 |cons a r ih=>
  show (match nF (r.map I.str) with |some ss=>some (a::ss) |none=>none)=_
  rw [ih]
theorem Co (h1:a l σ= .ok (.i (.str p)) σ1) (h2:b l σ1= .ok (.ref n) σ2) (h3:aP σ2 n=some (.list (ss.map .str))) (h:(z++bA p ss).length<=aJ) (hp:p.length<=z.length):bm dK eV a b l σ= .ok (.i (.str (bA p ss))) σ2:=by
 show (a l σ).bind _=_
 rw [h1]
 show (b l σ1).bind _=_
 rw [h2]
 show ph (fun xs=>Dw p xs σ2) .bad (aP σ2 n)=_
 rw [h3]
 show Dw p (ss.map .str) σ2=_
 unfold Dw jI
 rw [R4]
 show gd (Nat.ble ((bA p ss).length+p.length) aJ) _=_
 rw [gp (ba (lQ ..▸fU hp _) (bd▸h))];rfl
theorem BN {xs:List T} (h:∀ x∈xs,x.length<=B):(bA p xs).length<=xs.length*(B+p.length):=by
 induction xs with
 |nil=>exact dI _
 |cons a r ih=>
  have h1:=ih fun x m=>h x (.tail _ m)
  cases r with
  |nil=>rw [show [a].length=1 from rfl,Nat.one_mul];exact ba (h a (.head _)) (mr _ _)
  |cons b r=>
   show (a++(p++bA p (b::r))).length<=((b::r).length+1)*(B+p.length)
   rw [bd,bd,Nat.succ_mul,lQ (_*_),<-mv]
   exact d8 (fU (h a (.head _)) _) h1
theorem uE (hr:∀ x∈rows,x.length<=B):(iM d rows).length<=rows.length*(B+2)+4:=by
 have j1:∀ {z:T},z.length=2->(bA lI rows++z).length+2<=rows.length*(B+2)+4:=fun {z} hz=>by
  rw [bd,hz]
  exact fU (BN (p:=lI) hr) 4
 match d with
 |0=>
  have:=BN (p:=aQ) (B:=B+1) (xs:=rows.map (·++bX)) fun x m=>by
   obtain ⟨y,my,rfl⟩:=cZ.mp m
   rw [bd]
   exact gu (hr y my)
  rw [cD] at this
  show (bA aQ (rows.map (·++bX))++cV).length+2<=_
  rw [bd]
  show _+3<=_
  exact d8 (ba this (HO _ (iD _))) (iD 3)
 |1=>exact j1 rfl
 |_+2=>cases rows<;>exact j1 rfl
theorem Yd {tl:ai} {q r:List T} (hr:∀ x∈r,(x++bX).length<=aJ) (hn:(q++r).length<=aJ) {n:Nat} (hf:r.length< n):
  iu .bad .ok (gG [4] lL (af au (aa 4) (cs bX)) l) 0 n q.length ((q.map (·++bX)).map .str) (.list ((q++r).map .str)::tl)= .ok (((q++r).map (·++bX)).map .str) (.list ((q++r).map .str)::tl):=by
 induction r generalizing q n with
 |nil=>cases n with
  |zero=>exact absurd hf (ie _)
  |succ n=>
   rw [dT]
   exact z8 (aM some (List.getElem?_eq_none (FF (cD ..))))
 |cons a r ih=>cases n with
  |zero=>exact absurd hf (ie _)
  |succ n=>
   have h:=ih (q:=q++[a]) (fun x m=>hr x (.tail _ m)) (bM ..▸hn) (rt hf)
   rw [bM,bd,iQ,iQ] at h
   have e:sK 0 q.length (.list ((q++a::r).map .str)::tl)=some (some (.str a)):=by
    show some (((q++a::r).map I.str)[q.length]?)=_
    rw [iQ,wz (FF (cD ..)),cD,wr];rfl
   refine (pJ e).trans ?_
   show xZ (af au (aa 4) (cs bX) (bK l 4 (.i (.str a))) _) _=_
   rw [ec (x:=a) (y:=bX) (jD PU) rfl (hr a (.head _))]
   show gd (Nat.blt ((q.map (·++bX)).map I.str).length aJ) _=_
   rw [cD,cD,show Nat.blt q.length aJ=true from gp (ba (gu (mr _ _)) ((bd (as:=q) (bs:=a::r))▸hn))]
   exact h
theorem Ww:(ss.map I.str).all (bS 12)=true:=Em.mpr fun j m=>by
 obtain ⟨_,_,rfl⟩:=cZ.mp m
 rfl
end
noncomputable abbrev zo (head:T) (d:Nat):av:=[some (.i (.str head)),some (.ref 0),some (.ref 1),some (.i (.int (.ofNat d)))]
theorem GI {head:T} {rows:List T} {d:Nat} {c c':aF} (h0:mG [some (.i (.str head)),some (.ref 0),some (.ref 1)] [.list (rows.map .str),c]= .ok .nxt (zo head d) [.list (rows.map .str),c']) (hd:d< 3) (hh:head.length<=200) (hn:rows.length<=12) (hr:∀ x∈rows,x.length<=20000):∃ j,cB [.i (.str head),.ref 0,.ref 1] [.list (rows.map .str),c]= .ok (.i (.str (head++32::iM d rows))) (.list (rows.map .str)::c'::j):=by
 have H:(head++32::iM d rows).length<=aJ:=by
  rw [bd]
  exact ba (d8 hh (gu (ba (uE hr) (fU (CD _ hn) 4)))) (aI rfl)
 suffices ∃ j,(sq ux (sq uv ae)) (zo head d) [.list (rows.map .str),c']= .ok (.ret (.i (.str (head++32::iM d rows)))) (zo head d) (.list (rows.map .str)::c'::j) from
  this.imp fun j h=>du (l:=[some (.i (.str head)),some (.ref 0),some (.ref 1)]) rfl ((bc h0).trans h)
 have go:∀ {z:T} {d:Nat} {e:Ex} {j:ai},(head++32::123::32::(bA lI rows++z)).length<=aJ->e (zo head (d+1)) [.list (rows.map .str),c']= .ok (.i (.str z)) (.list (rows.map .str)::c'::j)->af au (af au (af au (aa 0) (cs Oi)) (bm dK eV (cs lI) (aa 1))) e (zo head (d+1)) [.list (rows.map .str),c']= .ok (.i (.str (head++32::123::32::(bA lI rows++z)))) (.list (rows.map .str)::c'::j):=fun {z d e j} H he=>by
  have e1:((head++Oi)++bA lI rows)++z=head++32::123::32::(bA lI rows++z):=by rw [bM,bM];rfl
  rw [<-e1] at H ⊢
  exact ec (ec (ec (jD rfl) rfl (gj (gj H))) (Co (z:=head++Oi) rfl (jD rfl) rfl (gj H) (bd▸ba (iD 2) (ib 3 _))) (gj H)) he H
 have ret:∀ {e:Ex} {v:V} {l:av} {σ σ':ai},e l σ= .ok v σ'->al e l σ= .ok (.ret v) l σ':=fun h=>aM (fun r:RE V=>r.bindS fun v σ=> .ok (.ret v) _ σ) h
 match d,hd with
 |0,_=>
  have e1:((head++SI)++bA aQ (rows.map (·++bX)))++cV=head++32::iM 0 rows:=by rw [bM,bM];rfl
  rw [<-e1] at H ⊢
  have t:eG (di (aa 1)) [4] lL (af au (aa 4) (cs bX)) (zo head 0) [.list (rows.map .str),c']= .ok (.ref 2) [.list (rows.map .str),c',.list ((rows.map (·++bX)).map .str)]:=
   aM (fun x=>xZ x fun ys σ=>RE.ok (V.ref σ.length) (σ++[aF.list ys])) (Yd (l:=zo head 0) (tl:=[c']) (q:=[]) (r:=rows) (n:=fw) (fun x m=>by
    rw [bd]
    exact ba (gu (hr x m)) (aI rfl)) (ba hn (aI rfl)) (eM hn (aI rfl)))
  exact ⟨[.list ((rows.map (·++bX)).map .str)],bj ((sk rfl).trans (bj (ret (ec (ec (ec (jD rfl) rfl (gj (gj H))) (Co (z:=head++SI) rfl t rfl (gj H) (dI _)) (gj H)) rfl H))))⟩
 |1,_=>exact ⟨[],(bc rfl).trans (bj (ret (go (d:=0) (z:=nP) H rfl)))⟩
 |2,_=>cases rows with
  |nil=>exact ⟨[.list []],(bc rfl).trans (bj (ret (go (d:=1) (z:=nP) H rfl)))⟩
  |cons x r=>
   refine ⟨[.list []],(bc rfl).trans (bj (ret (go (d:=1) (z:=F5) H ?_)))⟩
   have c:aj az (aa 1) (aZ []) (zo head 2) [.list ((x::r).map .str),c']= .ok false [.list ((x::r).map .str),c',.list []]:=by
    show eq3 _ (((x::r).map I.str).all (bS 12)) true (some false)=_
    rw [Ww];rfl
   exact aM (fun r:RE Bool=>r.bind fun b σ=>match b with |true=>cs nP (zo head 2) σ |false=>cs F5 (zo head 2) σ) (Gj rfl (Gj c rfl))
theorem yx {head:T} {rows:List T} {d:Nat} {ds:Ds} (hd:d< 3) (hh:head.length<=200) (hn:rows.length<=12) (hr:∀ x∈rows,x.length<=20000):∃ j,cB [.i (.str head),.ref 0,.ref 1] [.list (rows.map .str),.list [.dig ((d,3)::ds)]]= .ok (.i (.str (head++32::iM d rows))) (.list (rows.map .str):: .list [.dig ds]::j):=GI rfl hd hh hn hr
section
variable {ps:List (T×List I)}
theorem WP {last:Bool} {p:T×List I} (hp:Rd p.1 p.2) (h:∀ p∈ps,Rd p.1 p.2):Rc (bA lI (p.1::ps.map (·.1))++(match last with |true=>nP |false=>F5)) (bw se last (p.2::ps.map (·.2))):=by
 induction ps generalizing p with
 |nil=>cases last with
  |true=>exact hp.appc (dU (by kernel_rfl)) rfl
  |false=>exact hp.appc (dU (by kernel_rfl)) rfl
 |cons q ps ih=>
  have k:=ih (h q (.head _)) fun p m=>h p (.tail _ m)
  have g:=hp.appc (b:=32::_) ((dU (a:=[59,32]) (ts:=[se]) (by kernel_rfl)).app k) rfl
  show Rc ((p.1++(lI++bA lI (q.1::ps.map (·.1))))++_) _
  rw [bM,bM]
  cases last<;>exact g
theorem Ys (h:∀ p∈ps,Rd p.1 p.2):Rc (bA aQ ((ps.map (·.1)).map (·++bX))++cV) (bw nl false (ps.map (·.2))):=by
 induction ps with
 |nil=>exact dU (by kernel_rfl)
 |cons p ps ih=>
  have g:=(h p (.head _)).appc (b:=_) ((dU (a:=[10]) (ts:=[nl]) (by kernel_rfl)).app (ih fun p m=>h p (.tail _ m))) rfl
  have e:bA aQ ((((p::ps).map (·.1)).map (·++bX)))=(p.1++bX)++bA aQ ((ps.map (·.1)).map (·++bX)):=by
   cases ps with
   |nil=>exact (dT _).symm
   |cons=>rfl
  rw [e,bM,bM]
  exact g
theorem DZ (d:Nat) (h:∀ p∈ps,Rd p.1 p.2):Rc (32::iM d (ps.map (·.1))) (jh d (ps.map (·.2))):=by
 have go:∀ {last} {us},tM [32,123,32]=some us->∀ {p:T×List I} {r},ps=p::r->Rc (32::123::32::(bA lI (p.1::r.map (·.1))++(match last with |true=>nP |false=>F5))) (us++bw se last (p.2::r.map (·.2))):=fun {last us} e {p r} q=>(dU e).app (WP (h p (q▸ .head _)) fun p m=>h p (q▸ .tail _ m))
 match d with
 |0=>exact (dU (a:=[32,123,10]) (ts:=[sg cH,nl]) (by kernel_rfl)).app (Ys h)
 |1=>cases ps with
  |nil=>exact dU (by kernel_rfl)
  |cons p r=>exact go (last:=true) (us:=[sg cH]) (by kernel_rfl) rfl
 |_+2=>cases ps with
  |nil=>exact dU (by kernel_rfl)
  |cons p r=>exact go (last:=false) (us:=[sg cH]) (by kernel_rfl) rfl
end
end
section
theorem rJ {ns:List Nat} {e:Ex} {l:av} {v:V} {σ σ':ai} (h:e l σ= .ok v σ'):fu ns e l σ=Td (yt ns v l) σ':=aM (fun r:RE V=>r.bindS fun v σ=>Td (yt ns v l) σ) h
theorem IJ {as:List Ex} {l:av} {vs:List V} {σ σ':ai} {R:RE V} (h:cS as l σ= .ok vs σ') (k:Jj vs σ'=R):aZ as l σ=R:=(aM (fun r:RE (List V)=>r.bind Jj) h).trans k
theorem hX {as:List Ex} {l:av} {vs:List V} {σ σ':ai} {R:RE V} (h:cS as l σ= .ok vs σ') (k:NM vs σ'=R):ah as l σ=R:=(aM (fun r:RE (List V)=>r.bind NM) h).trans k
theorem eZ {e:Ex} {l:av} {v:V} {σ σ':ai} (h:e l σ= .ok v σ'):al e l σ= .ok (.ret v) l σ':=aM (fun r:RE V=>r.bindS fun v σ=> .ok (.ret v) l σ) h
def FC:List I:=[wd s226,sg jr,sg cH,wd Fp,sg gb,nl,.tk jL RR,cb]
def J0:I:= .tup [.str Fp,.str RR]
def Ju (text:T) (ts:List I):Nat->List (T×List I)
 |1=>[(yQ,FC),(vB++text,wd nU::wd kr::wd nX::ts)]
 |_=>[(vB++text,wd nU::wd kr::wd nX::ts),(yQ,FC)]
theorem Ky {text:T} {ts:List I} {P:T×List I->Prop} (h1:P (yQ,FC)) (h2:P (vB++text,wd nU::wd kr::wd nX::ts)) (k:Nat):∀ p∈Ju text ts k,P p:=match k with
 |0=>b9.mpr ⟨h2,b9.mpr ⟨h1,fun j m=>(fK m).elim⟩⟩
 |1=>b9.mpr ⟨h1,b9.mpr ⟨h2,fun j m=>(fK m).elim⟩⟩
 |_+2=>b9.mpr ⟨h2,b9.mpr ⟨h1,fun j m=>(fK m).elim⟩⟩
theorem mA {ps:List (T×List I)} {B:Nat} (h:∀ p∈ps,p.1.length<=B):∀ x∈ps.map (·.1),x.length<=B:=fun x m=>by
 obtain ⟨p,hp,rfl⟩:=cZ.mp m
 exact h p hp
section
variable {fam tab f:T} {kn:List (I×I)} {a b x y:I} {n:Int} {ts pre rest:List I} {text name:T} {c:Nat}
noncomputable abbrev Ml (kn:List (I×I)) (a b:I):St:=⟨[some (.i a),some (.i b)],kn,[]⟩
theorem JB:AQ fG (.str f) (.str tab) FC (Ml kn a b) (Ml kn a J0):=⟨⟨_,_,rfl⟩,fun pre y rest j=>⟨FC.reverse++pre,by
 show fG [some (.ref 0),some (.i a),some (.i b)] [.rd pre (FC++y::rest) kn (.str f) (.str tab)]=_
 kernel_rfl⟩⟩
theorem Ge (H:Reads (.str f) (.str tab) cn [.str f,.str kr] ts (.int n)):AQ fG (.str f) (.str tab) (wd nU::wd kr::wd nX::ts) (Ml kn a b) (Ml kn (.int n) b):=⟨⟨_,_,rfl⟩,fun pre y rest hy=>by
 obtain ⟨p,g⟩:=k8 (as:=[aa 0,un (bp 4) (aa 0),cs kr]) (l:=[some (.ref 0),some (.i a),some (.i b)]) (r:=[]) (pre:=wd nX::wd kr::wd nU::pre) (rest:=rest) (kn:=kn) H hy rfl
 have e:kT [some (.ref 0),some (.i a),some (.i b)] [.rd pre (wd nU::wd kr::wd nX::(ts++y::rest)) kn (.str f) (.str tab)]=sq jF ae [some (.ref 0),some (.i a),some (.i b)] [.rd (wd nX::wd kr::wd nU::pre) (ts++y::rest) kn (.str f) (.str tab)]:=by kernel_rfl
 exact ⟨p,bc (e.trans (bc (dm g)))⟩⟩
theorem Tv {ts:List I} {n:Int} (H:Reads (.str f) (.str tab) cn [.str f,.str kr] ts (.int n)) (d k:Nat):Reads (.str f) (.str tab) fM [] (jh d ((Ju text ts k).map (·.2))) (.tup [.int n,J0]):=fun pre y rest kn j=>by
 have R:Rows fG (.str f) (.str tab) ((Ju text ts k).map (·.2)) (Ml kn .none (.tup [])) (Ml kn (.int n) J0):=match k with
  |0=>⟨_,Ge H,_,JB,rfl⟩
  |1=>⟨_,JB,_,Ge H,rfl⟩
  |_+2=>⟨_,Ge H,_,JB,rfl⟩
 obtain ⟨p,g⟩:=xz (pre:=pre) (rest:=y::rest) d R (match k with |0=>aI rfl |1=>aI rfl |_+2=>aI rfl)
 exact ⟨p,[],du rfl (aG rfl (aG rfl ((g (sq nM (sq ny ae))).trans (aG (l':=[some (.ref 0),some (.i (.int n)),some (.i J0)]) rfl (bj rfl)))))⟩
theorem PH {bt:List I} (H:Reads (.str fam) (.str tab) fM [] bt x):wi fam tab name iG bt [ce fam tab aU iG name x]:=Mi (fun pre y rest kn hy=>by
 obtain ⟨p,g⟩:=k8 (as:=[aa 0]) (l:=uZ iG name) (r:=[WD]) (pre:=pre) (rest:=rest) (kn:=kn) H hy rfl
 exact ⟨p,iL rfl (aG (gc rfl (aG (dm g) rfl)) rfl)⟩) rfl rfl rfl
theorem O4 (hl:text.length<=30):(vB++text).length<=100:=bd▸ba (f7 hl _) (aI rfl)
theorem aa0 (k:Nat):((Ju text ts k).map (·.1)).length=2:=match k with
 |0=>rfl
 |1=>rfl
 |_+2=>rfl
@[elab_as_elim]
theorem lt2 {P:Nat->Prop} (h0:P 0) (h1:P 1) {k:Nat} (hk:k< 2):P k:=by
 cases k with
 |zero=>exact h0
 |succ k=>cases k with
  |zero=>exact h1
  |succ k=>exact (Nat.not_succ_le_zero k (Nat.le_of_add_le_add_right (b:=2) (c:=0) hk)).elim
theorem Ue {ds1:Ds} {d k:Nat} (hk:k< 2) (hd:d< 3) (hl:text.length<=30) (hp:∀ ds,∃ j,dG [.ref 0,.i (.str f),.i (.str kr)] [.list [.dig (ds1++ds)]]= .ok (.i (.tup [.str text,.int n])) (.list [.dig ds]::j)):∃ j,fD [.ref 0,.i (.str f),.i (.str [110,c])] [.list [.dig (ds1++[(k,2),(d,3)])]]= .ok (.i (.tup [.str ((E8++[110,c])++32::iM d ((Ju text ts k).map (·.1))),.tup [.int n,J0]])) (.list [.dig []]::j):=by
 obtain ⟨j,g⟩:=hp [(k,2),(d,3)]
 have ht:=O4 hl
 have h1:m9 [some (.ref 0),some (.i (.str f)),some (.i (.str [110,c]))] [.list [.dig (ds1++[(k,2),(d,3)])]]= .ok .nxt [some (.ref 0),some (.i (.str f)),some (.i (.str [110,c])),some (.i (.str text)),some (.i (.int n))] [.list [.dig [(k,2),(d,3)]]]:=
  rJ (cU (vs:=[.ref 0,.i (.str f),.i (.str kr)]) rfl rfl g (aM (RE.ok _) (pb [.list [.dig [(k,2),(d,3)]]] j)))
 have h2:nN [some (.ref 0),some (.i (.str f)),some (.i (.str [110,c])),some (.i (.str text)),some (.i (.int n))] [.list [.dig [(k,2),(d,3)]]]= .ok .nxt [some (.ref 0),some (.i (.str f)),some (.i (.str [110,c])),some (.i (.str text)),some (.i (.int n)),some (.ref 1)] [.list [.dig [(k,2),(d,3)]],.list [.str (vB++text),.str yQ]]:=
  dm (IJ (bk (ec rfl (jD rfl) (ba ht (aI rfl))) rfl) rfl)
 have hr:∀ x∈(Ju text ts k).map (·.1),x.length<=20000:=mA (Ky (aI rfl) (ba ht (aI rfl)) k)
 obtain ⟨j',b⟩:=yx (head:=E8++[110,c]) (rows:=(Ju text ts k).map (·.1)) (ds:=[]) hd (aI rfl) (aa0 k▸aI rfl) hr
 clear hr
 revert b h1 h2
 refine lt2 ?_ ?_ hk
 ·exact fun h1 h2 b=>⟨_,du rfl (aG h1 (aG h2 (bj (eZ (hX (bk (cU (vs:=[.i (.str (E8++[110,c])),.ref 1,.ref 0]) (σ':=[.list [.dig [(d,3)]],.list [.str (vB++text),.str yQ]]) rfl rfl b (aM (RE.ok _) (pb _ j'))) rfl) rfl)))))⟩
 ·exact fun h1 h2 b=>⟨_,du rfl (aG h1 (aG h2 (bj (eZ (hX (bk (cU (vs:=[.i (.str (E8++[110,c])),.ref 2,.ref 0]) (σ':=[.list [.dig [(d,3)]],.list [.str (vB++text),.str yQ],.list [.str yQ,.str (vB++text)]]) rfl rfl b (aM (RE.ok _) (pb _ j'))) rfl) rfl)))))⟩
theorem XU {ds:Ds} {x:I} {cl:aF} {j:ai} (h:fD [.ref 0,.i (.str f),.i (.str name)] [.list [.dig ds]]= .ok (.i (.tup [.str text,x])) (cl::j)):df [.i (.num ((4,7)::ds)),.i (.str f),.i (.str tab),.i (.str name)] []=Ei cl text [ce f tab aU iG name x]:=by
 have e:lH [some (.i (.num ((4,7)::ds))),some (.i (.str f)),some (.i (.str tab)),some (.i (.str name))] []=sq uN (sq um ae) [some (.i (.num ((4,7)::ds))),some (.i (.str f)),some (.i (.str tab)),some (.i (.str name)),some (.ref 0),some (.i (.int (.ofNat 4))),some (.i (.str iG))] [.list [.dig ds]]:=by kernel_rfl
 have g:lH [some (.i (.num ((4,7)::ds))),some (.i (.str f)),some (.i (.str tab)),some (.i (.str name))] []= .ok (.ret (.pr (.str text) 1)) [some (.i (.num ((4,7)::ds))),some (.i (.str f)),some (.i (.str tab)),some (.i (.str name)),some (.ref 0),some (.i (.int (.ofNat 4))),some (.i (.str iG)),some (.i (.str text)),some (.i x)] [cl,.list [ce f tab aU iG name x]]:=
  e.trans (aG (iL rfl (aG (gc rfl (aG ((rJ (cU (vs:=[.ref 0,.i (.str f),.i (.str name)]) rfl rfl h (aM (RE.ok _) (pb [cl] j)))).trans rfl) rfl)) rfl)) (bj rfl))
 exact aM RS.fin g
theorem XG {fam tab name:T} (hf:EM fam) (hn:lM name) (N:Int) (hN:N.fmod 7=4):qC fam tab name N:=by
 obtain ⟨c,rfl,hc⟩:=uL hn
 obtain ⟨ds1,N1,text,n,h1,⟨hl,ts,hr,H⟩,hp⟩:=L7 hf (h:=kr) (.tail _ (.tail _ (.tail _ (.tail _ (.tail _ (.head _)))))) (.str tab) (N.fdiv 7)
 obtain ⟨k,hk,e1⟩:=bG N1 (m:=2) (bf _)
 obtain ⟨d,hd,e2⟩:=bG (N1.fdiv 2) (m:=3) (bf _)
 obtain ⟨j,g⟩:=Ue (c:=c) (ts:=ts) hk hd hl hp
 refine ⟨(4,7)::(ds1++[(k,2),(d,3)]),_,⟨bf _,hN,h1.app ⟨bf _,e1,bf _,e2,rfl⟩⟩,_,_,_,XU g,?_,ib 1 2,fun q m=>cY.mp m▸xQ rfl,_,yy (w:=4) (ib 5 3),_,qf (kt:=E8) (by kernel_rfl) hc (DZ d (Ky (iC (by kernel_rfl)) ((dU (ts:=[wd nU,wd kr,wd nX]) (by kernel_rfl)).appd hr) k)).rd,PH (Tv H d k)⟩
 have:=uE (d:=d) (mA (Ky (text:=text) (ts:=ts) (P:=fun p=>p.1.length<=100) (aI rfl) (O4 hl) k))
 rw [aa0] at this
 rw [bd]
 exact ba (f7 (gu this) _) (aI rfl)
end
end
section
abbrev Rl:=T×List I×I×T
def rL:List Rl:=[
 (qd,[wd qd],.tup [.tup [.str iV,.tup [.str qd,.str aQ]]],aQ),
 (s15,[wd Oz,wd IO,wd Mr,wd Kq,wd G0],.tup [.tup [.str QV,.tup [.str D8,.str s18],.str Ik,.tup [.str QC,.int 22]],.tup [.str iV,.tup [.str Kq,.str G0]]],aQ),
 (s23,[wd s0,wd u24,sg CA,sg NH,wd s27,wd nH,wd Nb,.tk jL Y5],.tup [.tup [.str QV,.tup [.str D8,.str VJ],.str CA,.tup [.str VV,.str s27]],.tup [.str iV,.tup [.str nH,.str aQ]]],Y5),
 (s30,[wd s0,wd u24,wd PI,sg cH,wd Fm,sg jE,wd ME,sg gb,nl,cb],.tup [.tup [.str PI,.tup [.str D8,.str VJ],.tup [.str fS,.tup [.tup [.tup [.tup [.int 167772161,.int 167772161]],.tup [.str ME,.str aQ],.int 0,.str aQ]]]]],aQ)]
def rAb (r:Rl):I:= .tup [r.2.2.1,.str r.2.2.2,.tup [.str aQ,.int 0]]
abbrev t8 (f tab name:T) (r:Rl):I:=ce f tab aU fH name (rAb r)
def R1:List (List Rl):=[]::rL.map fun r=>[r]
def R2:List (List Rl):=R1++rL.flatMap fun r=>rL.map fun s=>[r,s]
noncomputable def chT (q:List Rl):av:=match q.getLast? with
 |none=>[]
 |some r=>[some (.i r.2.2.1),some (.i (.str r.2.2.2))]
abbrev GV (name:T) (ab pol:I) (q:List Rl):av:=some (.i (.str aU))::some (.i (.str name))::some (.ref 1)::some (.i ab)::some (.i pol)::some (.ref 2)::chT q
abbrev JT (f tab name:T) (q:List Rl):ai:=[WD,.list (q.map (t8 f tab name))]
abbrev wA (f tab name:T) (ab pol:I) (kn:List (I×I)) (q:List Rl):St:=⟨GV name ab pol q,kn,JT f tab name q⟩
section
variable {f tab name e:T} {ab pol A H D:I} {kn:List (I×I)} {pre rest:List I} {y:I} {n:Int} {ts:List I}
theorem r_row0:R1.map (fun q=>rL.map fun r=>[.tk fE e,cb].map fun y=>iK (some (.ref 0)::GV name ab pol q) (.rd pre (r.2.1++y::rest) kn (.str f) (.str tab)::JT f tab name q))=
  R1.map fun q=>rL.map fun r=>[.tk fE e,cb].map fun y=> .ok .nxt (some (.ref 0)::GV name ab pol (q++[r])) (.rd (r.2.1.reverse++pre) (y::rest) kn (.str f) (.str tab)::JT f tab name (q++[r])):=by kernel_rfl
theorem r_row {q:List Rl} (hq:q∈R1) {r:Rl} (hr:r∈rL):AQ fP (.str f) (.str tab) r.2.1 (wA f tab name ab pol kn q) (wA f tab name ab pol kn (q++[r])):=
 ⟨have:=aW.mp (show rL.map (fun r=>r.2.1)=rL.map (fun r=>wd (match r.2.1 with | .tk _ c::_=>c |_=>[])::r.2.1.tail) by kernel_rfl) r hr;⟨_,_,this⟩,fun pre y rest hy=>
  let ⟨_,hy⟩:=zI hy
  ⟨_,bc (aW.mp (aW.mp (aW.mp (r_row0 (f:=f) (tab:=tab) (name:=name) (ab:=ab) (pol:=pol) (kn:=kn) (pre:=pre) (rest:=rest)) q hq) r hr) y hy)⟩⟩
theorem p_row0:R1.map (fun q=>[qd,nH].map fun p=>iK (some (.ref 0)::GV name (.tup [A,H,.int n,D,.str aQ]) (.str aQ) q) (.rd pre (wd BI::wd p::y::rest) kn (.str f) (.str tab)::JT f tab name q))=
  R1.map fun q=>[qd,nH].map fun p=> .ok .nxt (some (.ref 0)::GV name (.tup [A,H,.int n,D,.str p]) (.str p) q) (.rd (wd p::wd BI::pre) (y::rest) kn (.str f) (.str tab)::JT f tab name q):=by kernel_rfl
theorem p_row {q:List Rl} (hq:q∈R1) {p:T} (hp:p∈[qd,nH]):AQ fP (.str f) (.str tab) [wd BI,wd p] (wA f tab name (.tup [A,H,.int n,D,.str aQ]) (.str aQ) kn q) (wA f tab name (.tup [A,H,.int n,D,.str p]) (.str p) kn q):=
 ⟨⟨_,_,rfl⟩,fun pre y rest j=>⟨_,bc (aW.mp (aW.mp p_row0 q hq) p hp)⟩⟩
end
abbrev B3:=T×T×T
def BL:List B3:=[r7,OG,Oy].flatMap fun a=>z4.flatMap fun h=>[aQ,Fp].map fun d=>(a,h,d)
def bW (b:B3):List I:=wd lW::wd b.1::wd nU::wd b.2.1::(match b.2.2 with
 |[]=>[wd nX]
 |d=>[wd aap,.tk jL d,wd nX])
def bT (b:B3):T:=FA++(b.1++(SL++(b.2.1++((match b.2.2 with
 |[]=>[]
 |_=>TP)++SH))))
abbrev ZB (b:B3):av:=[some (.ref 0),some (.i (.str b.1)),some (.i (.tup (z4.map .str))),some (.i (.str b.2.1)),some (.i (.str b.2.2))]
section
variable {f tab name:T} {ab pol:I} {kn:List (I×I)} {rest:List I} {n:Int} {ts:List I}
theorem b_pre {pre:List I}:BL.map (fun b=>AF [some (.ref 0)] [.rd pre (bW b++rest) kn (.str f) (.str tab)])=BL.map fun b=>sq wE ae (ZB b) [.rd ((bW b).reverse++pre) rest kn (.str f) (.str tab)]:=by kernel_rfl
theorem W2 {b:B3} (hb:b∈BL) (H:Reads (.str f) (.str tab) cn [.str f,.str b.2.1] ts (.int n)):Reads (.str f) (.str tab) mP [] (bW b++ts) (.tup [.str b.1,.str b.2.1,.int n,.str b.2.2]):=fun pre y rest kn hy=>by
 obtain ⟨p,g⟩:=k8 (as:=[aa 0,un (bp 4) (aa 0),aa 3]) (l:=ZB b) (r:=[]) (pre:=(bW b).reverse++pre) (rest:=rest) (kn:=kn) H hy rfl
 refine ⟨p,[],du (l':=ZB b) rfl ?_⟩
 rw [bM]
 exact (aW.mp b_pre b hb).trans (bj (eZ (hX (bk rfl (bk rfl (bk g rfl))) rfl)))
noncomputable abbrev LI (b:B3) (n:Int) (p:T):I:= .tup [.str b.1,.str b.2.1,.int n,.str b.2.2,.str p]
theorem VH {q:List Rl} {b:B3} (hb:b∈BL) (H:Reads (.str f) (.str tab) cn [.str f,.str b.2.1] ts (.int n)):AQ fP (.str f) (.str tab) (bW b++ts) (wA f tab name .none pol kn q) (wA f tab name (LI b n aQ) pol kn q):=
 ⟨⟨_,_,rfl⟩,fun pre y rest hy=>by
  obtain ⟨p,g⟩:=k8 (as:=[aa 0]) (l:=some (.ref 0)::GV name .none pol q) (r:=JT f tab name q) (pre:=pre) (rest:=rest) (kn:=kn) (W2 hb H) hy rfl
  exact ⟨p,bc (gc rfl (aG rfl (aG (dm (v:= .i (LI b n aQ)) (rB g rfl rfl)) rfl)))⟩⟩
theorem c_end (p:List I):R2.map (fun q=>uM (some (.ref 0)::GV name ab pol q) (.rd p rest kn (.str f) (.str tab)::JT f tab name q))=
  R2.map fun q=> .ok (.ret (.ref 4)) (some (.ref 0)::GV name ab pol q) [.rd p rest kn (.str f) (.str tab),WD,.list (q.map (t8 f tab name)),.list [ce f tab aU er name ab],.list (ce f tab aU er name ab::q.map (t8 f tab name))]:=by kernel_rfl
theorem NJ {q:List Rl} (hq:q∈R2) {rows:List (List I)} (hl:rows.length< fw) (R:∀ kn,Rows fP (.str f) (.str tab) rows (wA f tab name .none (.str aQ) kn []) (wA f tab name ab pol kn q)) (d:Nat):wi f tab name er (jh d rows) (ce f tab aU er name ab::q.map (t8 f tab name)):=fun kn n j hkn=>⟨kn,hkn.up,fun pre y rest hy=>by
 obtain ⟨p,g⟩:=xz (pre:=pre) (rest:=y::rest) d (R kn) hl
 have e:lP [.ref 0,.i (.str aU),.i (.str name),.ref 1] [.rd pre (jh d rows++y::rest) kn (.str f) (.str tab),WD]= .ok (.ref 4) [.rd p (y::rest) kn (.str f) (.str tab),WD,.list (q.map (t8 f tab name)),.list [ce f tab aU er name ab],.list (ce f tab aU er name ab::q.map (t8 f tab name))]:=
  du rfl (aG rfl (aG rfl (aG rfl (aG (gc rfl (g ae)) (bj (aW.mp (c_end (name:=name) (ab:=ab) (pol:=pol) p) q hq))))))
 have m:mQ (uZ er name) [.rd pre (jh d rows++y::rest) kn (.str f) (.str tab),WD]= .ok (.ret (.ref 2)) (uZ er name) [.rd p (y::rest) kn (.str f) (.str tab),WD,.list (ce f tab aU er name ab::q.map (t8 f tab name))]:=
  bj (gc rfl (bj (eZ (cU (vs:=[.ref 0,.i (.str aU),.i (.str name),.ref 1]) rfl rfl e rfl))))
 exact ⟨p,aM RS.fin m⟩⟩
end
end
section
theorem Rows.app {w:Sx} {fam tab:I} {xs ys:List (List I)} {s s1 s2:St} (h:Rows w fam tab xs s s1) (k:Rows w fam tab ys s1 s2):Rows w fam tab (xs++ys) s s2:=by
 induction xs generalizing s with
 |nil=>exact (show s1=s from h)▸k
 |cons a xs ih=>exact h.imp fun j h=>⟨h.1,ih h.2⟩
theorem Nj {q:List Rl} (h:q∈R1):q=[]\/∃ r∈rL,q=[r]:=(fy.mp h).imp id fun m=>let ⟨r,hr,e⟩:=cZ.mp m;⟨r,hr,e.symm⟩
theorem TA {r:Rl} (h:r∈rL):[r]∈R1:= .tail _ (cZ.mpr ⟨r,h,rfl⟩)
theorem V4 {q:List Rl} (h:q∈R2):∃ a b,q=a++b/\a∈R1/\b∈R1/\q.take 1=a/\q.drop 1=b:=(jv.mp h).elim
 (fun m=>(Nj m).elim (fun e=>e▸⟨[],[],rfl,.head _,.head _,rfl,rfl⟩) fun ⟨r,hr,e⟩=>e▸⟨[r],[],rfl,TA hr,.head _,rfl,rfl⟩)
 fun m=>let ⟨r,hr,m⟩:=jA.mp m;let ⟨s,hs,e⟩:=cZ.mp m;e▸⟨[r],[s],rfl,TA hr,TA hs,rfl,rfl⟩
noncomputable abbrev Bk (r:Rl):T×List I:=(r.1,r.2.1)
section
variable {f tab name:T} {ab:I} {br:List (T×List I)} {q:List Rl} {d:Nat}
def zJ (f tab name:T) (br:List (T×List I)) (ab:I):Prop:=(br.length<=2/\bS 11 ab=true)/\(∀ p∈br,p.1.length<=200/\Rd p.1 p.2)/\∃ pol,∀ kn q,q∈R1->Rows fP (.str f) (.str tab) (br.map (·.2)) (wA f tab name .none (.str aQ) kn q) (wA f tab name ab pol kn q)
theorem O1 {u:List Rl} {pol:I} {kn:List (I×I)} (hq:q∈R1) (hu:u∈R1):Rows fP (.str f) (.str tab) ((u.map Bk).map (·.2)) (wA f tab name ab pol kn q) (wA f tab name ab pol kn (q++u)):=by
 rcases Nj hu with rfl |⟨r,hr,rfl⟩
 ·rw [dT];rfl
 ·exact ⟨_,r_row hq hr,rfl⟩
abbrev yI (q:List Rl) (br:List (T×List I)):List (T×List I):=(q.take 1).map Bk++(br++(q.drop 1).map Bk)
abbrev QI (name:T) (q:List Rl) (br:List (T×List I)) (d:Nat):T:=(FZ++name)++32::iM d ((yI q br).map (·.1))
abbrev JC (f tab name:T) (ab:I) (q:List Rl):List I:=ce f tab aU er name ab::q.map (t8 f tab name)
theorem F9:rL.map (fun r=>(toks r.1,Nat.ble r.1.length 200,bS 11 (rAb r)))=rL.map fun r=>(some r.2.1,true,true):=by kernel_rfl
theorem Me:R2.map (fun q=>Nat.ble (q.length+1) 3 && Nat.ble ((q.take 1).length+(2+(q.drop 1).length)) 4)=R2.map fun j=>true:=by kernel_rfl
theorem UC {r:Rl} (hq:q∈R2) (h:r∈q):r∈rL:=by
 obtain ⟨a,b,rfl,ha,hb,_,_⟩:=V4 hq
 have go:∀ {a},a∈R1->r∈a->r∈rL:=fun ha h=>(Nj ha).elim (fun e=>(fK (e▸h)).elim) fun ⟨s,hs,e⟩=>cY.mp (e▸h)▸hs
 exact (jv.mp h).elim (go ha) (go hb)
theorem Mn (hq:q∈R2) (hB:∀ p∈br,p.1.length<=200/\Rd p.1 p.2):∀ p∈yI q br,p.1.length<=200/\Rd p.1 p.2:=fun p m=>by
 have go:∀ {u:List Rl},(∀ r∈u,r∈q)->p∈u.map Bk->p.1.length<=200/\Rd p.1 p.2:=fun hu m=>by
  obtain ⟨r,hr,rfl⟩:=cZ.mp m
  have g:=aT (aW.mp F9 r (UC hq (hu r hr)))
  exact ⟨aI (aT g.2).1,iC g.1⟩
 exact (jv.mp m).elim (go fun j=>List.mem_of_mem_take) fun m=>(jv.mp m).elim (hB p) (go fun j=>List.mem_of_mem_drop)
theorem TW {c:Nat} (hn:toks [110,c]=some [wd [110,c]]) (hq:q∈R2) (hB:zJ f tab [110,c] br ab):fq f tab [110,c] (QI [110,c] q br d) (JC f tab [110,c] ab q):=by
 obtain ⟨⟨h1,h2⟩,h3,pol,h4⟩:=hB
 have g:=cp.mp (aW.mp Me q hq)
 have R:=Mn hq h3
 have ln:(yI q br).length<=4:=by
  rw [bd,bd,cD,cD]
  exact ba (f7 (fU h1 _) _) (aI g.2)
 have bl:=uE (d:=d) (mA (B:=200) fun p m=>(R p m).1)
 rw [cD] at bl
 refine ⟨?_,?_,?_,_,yy (w:=5) (ib 6 2),_,qf (kt:=FZ) (by kernel_rfl) hn (DZ d fun p m=>(R p m).2).rd,NJ (pol:=pol) hq ?_ (fun kn=>?_) d⟩
 ·rw [bd]
  exact ba (f7 (gu (ba bl (fU (CD _ ln) 4))) _) (aI rfl)
 ·show (q.map (t8 f tab [110,c])).length+1<=3
  rw [cD]
  exact aI g.1
 ·refine b9.mpr ⟨xQ h2,fun x m=>?_⟩
  obtain ⟨r,hr,rfl⟩:=cZ.mp m
  exact xQ (aT (aT (aW.mp F9 r (UC hq hr))).2).2
 ·rw [cD]
  exact eM ln (aI rfl)
 ·rw [iQ,iQ]
  obtain ⟨a,b,rfl,ha,hb,e1,e2⟩:=V4 hq
  rw [e1,e2]
  exact (O1 (q:=[]) (.head _) ha).app ((h4 kn a ha).app (O1 ha hb))
theorem Yt:zJ f tab name [] .none:=⟨⟨dI _,rfl⟩,fun j m=>(fK m).elim,_,fun j j j=>rfl⟩
def Iy (p:T):List (T×List I):=match p with
 |[]=>[]
 |_::_=>[(JZ++p,[wd BI,wd p])]
def pL:List T:=[aQ,qd,nH]
theorem MV:BL.map (fun b=>(tM (bT b),Nat.ble (bT b).length 170))=BL.map fun b=>(some (bW b),true):=by kernel_rfl
theorem RQ {b:B3} {p text:T} {ts:List I} {n:Int} (hb:b∈BL) (hp:p∈pL) (hl:text.length<=30) (hr:Rd text ts) (H:Reads (.str f) (.str tab) cn [.str f,.str b.2.1] ts (.int n)):zJ f tab name ((bT b++text,bW b++ts)::Iy p) (LI b n p):=by
 have g:=aT (aW.mp MV b hb)
 have h0:(bT b++text).length<=200/\Rd (bT b++text) (bW b++ts):=⟨bd▸d8 (aI g.2) hl,(dU g.1).appd hr⟩
 have go:∀ {p:T},p∈[qd,nH]->Iy p=[(JZ++p,[wd BI,wd p])]->((JZ++p).length<=200/\toks (JZ++p)=some [wd BI,wd p])->zJ f tab name ((bT b++text,bW b++ts)::Iy p) (LI b n p):=fun hp e k=>by
  rw [e]
  exact ⟨⟨cR 2,rfl⟩,b9.mpr ⟨h0,fun x m=>cY.mp m▸⟨k.1,iC k.2⟩⟩,_,fun kn q hq=>⟨_,VH hb H,_,p_row hq hp,rfl⟩⟩
 rcases List.mem_cons.mp hp with rfl |hp
 ·exact ⟨⟨iD 1,rfl⟩,fun x m=>cY.mp m▸h0,_,fun kn q hq=>⟨_,VH hb H,rfl⟩⟩
 ·rcases List.mem_cons.mp hp with rfl |hp
  ·exact go (.head _) rfl ⟨aI rfl,by kernel_rfl⟩
  ·cases List.mem_singleton.mp hp
   exact go (.tail _ (.head _)) rfl ⟨aI rfl,by kernel_rfl⟩
end
end
section
theorem pN {α:Type} {l:List α} {d:α->Ds} {c:List Ds} (e:l.map d=c) (h:AJ c) (N:Int):∃ x∈l,∃ N',fN N (d x) N':=by
 obtain ⟨ds,m,k⟩:=h N
 rw [<-e] at m
 obtain ⟨x,hx,rfl⟩:=cZ.mp m
 exact ⟨x,hx,k⟩
def JJ (m:Nat):Nat->List Ds
 |0=>[[]]
 |n+1=>ch m fun j=>JJ m n
theorem pQ {m:Nat} (hm:0< m) (n:Nat):AJ (JJ m n):=by
 induction n with
 |zero=>exact MR
 |succ n ih=>exact gT hm fun j j=>ih
def ix (s:T) (l:List T):Nat:=(FY s l 0).getD 0
def dR (q:List Rl):Ds:=(q.length,3)::q.map fun r=>(ix r.1 (rL.map (·.1)),4)
def Kh (b:B3):Ds:=[(ix b.1 [r7,OG,Oy],3),(ix b.2.1 z4,6),(ix b.2.2 [aQ,Fp],2)]
def dP (p:T):Ds:=[(ix p pL,3)]
theorem cov_R (N:Int):∃ q∈R2,∃ N',fN N (dR q) N':=pN (show R2.map dR=ch 3 (JJ 4) by kernel_rfl) (gT (bf _) fun n j=>pQ (bf _) n) N
theorem cov_B (N:Int):∃ b∈BL,∃ N',fN N (Kh b) N':=pN (show BL.map Kh=ch 3 fun j=>ch 6 fun j=>ch 2 fun j=>[[]] by kernel_rfl) (gT (bf _) fun j j=>gT (bf _) fun j j=>pQ (bf _) 1) N
theorem cov_P (N:Int):∃ p∈pL,∃ N',fN N (dP p) N':=pN (show pL.map dP=JJ 3 1 by kernel_rfl) (pQ (bf _) 1) N
noncomputable abbrev rI (r:Rl):I:= .tup [.str r.1,r.2.2.1,.str r.2.2.2]
noncomputable abbrev cP (f tab name:T) (ab:I) (tl:av):av:=some (.ref 0)::some (.i (.str f))::some (.i (.str tab))::some (.i (.str name))::some (.i ab)::some (.ref 1)::some (.ref 2)::tl
noncomputable abbrev tB (b:B3) (tl:av):av:=none::some (.i (.str b.1))::some (.i (.str b.2.1))::some (.i (.str b.2.2))::tl
noncomputable abbrev tP (text:T) (n:Int):av:=[some (.i (.str text)),some (.i (.int n))]
noncomputable abbrev gf (l:List (T×List I)):List I:=(l.map (·.1)).map .str
section
variable {f tab name text row:T} {ab:I} {ds ds1:Ds} {p1 p2:T×List I} {b:B3} {tl:av} {x y:aF} {σ:ai} {n:Int}
theorem cp_1 (R:Sx):R2.map (fun q=>(sq uw (sq uF (sq uu R))) [some (.ref 0),some (.i (.str f)),some (.i (.str tab)),some (.i (.str name))] [.list [.dig (dR q++ds)]])=
  R2.map fun q=>R (cP f tab name .none []) [.list [.dig ds],.list [],.list (q.map rI)]:=by kernel_rfl
theorem cp_2 (R:Sx):[[],[p1],[p1,p2]].map (fun br=>[[],tB b [some (.i (.str text)),some (.i (.int n)),some (.i (.str row))]].map fun tl=>R2.map fun q=>(sq uJ (sq uU (sq uO R))) (cP f tab name ab tl) [.list [.dig ds],.list (gf br),.list (q.map rI)])=
  [[],[p1],[p1,p2]].map fun br=>[[],tB b [some (.i (.str text)),some (.i (.int n)),some (.i (.str row))]].map fun tl=>R2.map fun q=>R (bK (bK (cP f tab name ab tl) 5 (.ref 8)) 15 (.ref 9))
   [.list [.dig ds],.list (gf br),.list (q.map rI),.list ((q.take 1).map rI),.list (gf ((q.take 1).map Bk)),.list (gf ((q.take 1).map Bk++br)),.list ((q.drop 1).map rI),.list (gf ((q.drop 1).map Bk)),.list (gf (yI q br)),.list (JC f tab name ab q),.list (q.map (t8 f tab name))]:=by kernel_rfl
theorem cp_b (R:Sx):BL.map (fun b=>(sq rZ (sq rM (sq rR R))) (cP f tab name ab []) [.list [.dig (Kh b++ds)],x,y])=
  BL.map fun b=>R (cP f tab name ab (tB b [])) [.list [.dig ds],x,y]:=by kernel_rfl
theorem cp_t (σ:ai):BL.map (fun b=>(af au (af au (af au (af au (af au (cs FA) (aa 8)) (cs SL)) (aa 9)) (dj (aj cM (aa 10) (cs aQ)) (cs TP) (cs aQ))) (cs SH)) (cP f tab name ab (tB b tl)) σ)=BL.map fun b=> .ok (.i (.str (bT b))) σ:=by kernel_rfl
theorem cp_p (ts:List I):pL.map (fun p=>(sq rm (sq pS (sq pR ae))) (cP f tab name .none (tB b (tP text n))) [.list [.dig (dP p++ds)],.list [.str row],y])=
  pL.map fun p=> .ok .nxt (cP f tab name (LI b n p) (tB b (tP text n++[some (.i (.str p))]))) [.list [.dig ds],.list (gf ((row,ts)::Iy p)),y]:=by kernel_rfl
theorem W1 {c:Nat} {p:T} {ts:List I} (hc:c∈[1,2]) (hb:b∈BL) (hp:p∈pL) (hl:text.length<=30) (H:∀ ds,∃ j,dG [.ref 0,.i (.str f),.i (.str b.2.1)] [.list [.dig (ds1++ds)]]= .ok (.i (.tup [.str text,.int n])) (.list [.dig ds]::j)):
  i9 (cP f tab name .none []) [.list [.dig ((c,3)::(Kh b++(ds1++(dP p++ds))))],.list [],y]= .ok .nxt (cP f tab name (LI b n p) (tB b (tP text n++[some (.i (.str p))]))) [.list [.dig ds],.list (gf ((bT b++text,ts)::Iy p)),y]:=by
 obtain ⟨j,g⟩:=H (dP p++ds)
 have h0:=aW.mp (show [1,2].map (fun c=>aj gA (call aH [aa 0,ci 3]) (ci 0) (cP f tab name .none []) [.list [.dig ((c,3)::(Kh b++(ds1++(dP p++ds))))],.list [],y])=[1,2].map fun q=> .ok true [.list [.dig (Kh b++(ds1++(dP p++ds)))],.list [],y] by kernel_rfl) c hc
 have k:=aI (aT (aW.mp MV b hb)).2
 refine gc h0 ((aW.mp (cp_b _) b hb).trans (aG ((rJ (cU (vs:=[.ref 0,.i (.str f),.i (.str b.2.1)]) rfl rfl g (aM (RE.ok _) (pb [.list [.dig (dP p++ds)],.list [],y] j)))).trans rfl) (aG (gZ (v:= .i .none) (σ':=[.list [.dig (dP p++ds)],.list [.str (bT b++text)],y]) ?_) (aW.mp (cp_p ts) p hp))))
 show ((af au _ (aa 11) (cP f tab name .none (tB b (tP text n))) _).bind fun y σ=>aO (.ref 1) y σ)=_
 rw [ec (x:=bT b) (y:=text) (aW.mp (cp_t _) b hb) rfl (bd▸ba (d8 k hl) (aI rfl))];rfl
theorem Ts {q:List Rl} {br:List (T×List I)} {d c:Nat} {dq:Ds} (hd:d< 3) (hq:q∈R2) (hB:zJ f tab [110,c] br ab) (ht:tl∈[[],tB b [some (.i (.str text)),some (.i (.int n)),some (.i (.str row))]])
  (h:i9 (cP f tab [110,c] .none []) [.list [.dig dq],.list [],.list (q.map rI)]= .ok .nxt (cP f tab [110,c] ab tl) [.list [.dig [(d,3)]],.list (gf br),.list (q.map rI)]):
  ∃ σ',lD [.ref 0,.i (.str f),.i (.str tab),.i (.str [110,c])] [.list [.dig (dR q++dq)]]= .ok (.pr (.str (QI [110,c] q br d)) 9) σ'/\aP σ' 9=some (.list (JC f tab [110,c] ab q)):=by
 obtain ⟨⟨h1,_⟩,h3,_⟩:=hB
 have R:=Mn hq h3
 have ln:((yI q br).map (·.1)).length<=12:=by
  rw [cD,bd,bd,cD,cD]
  exact ba (f7 (fU h1 _) _) (ba (aI (cp.mp (aW.mp Me q hq)).2) (aI rfl))
 obtain ⟨j,g⟩:=yx (head:=FZ++[110,c]) (ds:=[]) hd (aI rfl) ln (mA fun p m=>ba (R p m).1 (aI rfl))
 have hbr:∃ p1 p2,br∈[[],[p1],[p1,p2]]:=match br,h1 with
  |[],_=>⟨([],[]),([],[]),.head _⟩
  |[a],_=>⟨a,([],[]),.tail _ (.head _)⟩
  |[a,b],_=>⟨a,b,.tail _ (.tail _ (.head _))⟩
  |_::_::_::_,h=>absurd h (Nat.not_le_of_lt (ib 3 _))
 obtain ⟨p1,p2,hbr⟩:=hbr
 have hl:∀ {tl:av},tl∈[[],tB b [some (.i (.str text)),some (.i (.int n)),some (.i (.str row))]]->∀ σ,cS [af au (cs FZ) (aa 3),aa 5,aa 0] (bK (bK (cP f tab [110,c] ab tl) 5 (.ref 8)) 15 (.ref 9)) σ= .ok [.i (.str (FZ++[110,c])),.ref 8,.ref 0] σ/\cS [aa 15] (bK (bK (cP f tab [110,c] ab tl) 5 (.ref 8)) 15 (.ref 9)) σ= .ok [.ref 9] σ:=fun ht σ=>by
  rcases List.mem_cons.mp ht with rfl |ht
  ·exact ⟨rfl,rfl⟩
  ·cases List.mem_singleton.mp ht;exact ⟨rfl,rfl⟩
 have e:=aW.mp (aW.mp (aW.mp (cp_2 (f:=f) (tab:=tab) (name:=[110,c]) (ab:=ab) (ds:=[(d,3)]) (sq uj ae)) br hbr) tl ht) q hq
 exact ⟨_,du rfl ((aW.mp (cp_1 _) q hq).trans (aG h (e.trans (bj (eZ (hX (bk (cU (hl ht _).1 rfl g (aM (RE.ok _) (pb _ j))) (hl ht _).2) rfl)))))),rfl⟩
noncomputable abbrev UY (f tab name:T) (ds:Ds) (w:Nat):av:=[some (.i (.num ((w,7)::ds))),some (.i (.str f)),some (.i (.str tab)),some (.i (.str name)),some (.ref 0),some (.i (.int (.ofNat w)))]
theorem Jz {w k:Nat} {F:Fn} {made:List I} (e:∀ {v σ'},call F [aa 4,aa 1,aa 2,aa 3] (UY f tab name ds w) [.list [.dig ds]]= .ok v σ'->lH [some (.i (.num ((w,7)::ds))),some (.i (.str f)),some (.i (.str tab)),some (.i (.str name))] []= .ok (.ret v) (UY f tab name ds w) σ')
  (h:F [.ref 0,.i (.str f),.i (.str tab),.i (.str name)] [.list [.dig ds]]= .ok (.pr (.str text) (k+1)) σ) (hc:aP σ (k+1)=some (.list made)):∃ c,df [.i (.num ((w,7)::ds)),.i (.str f),.i (.str tab),.i (.str name)] []=Ei c text made:=by
 cases σ with
 |nil=>cases hc
 |cons c r=>
  have hb:Ii [.list [.dig ds]] [0] (c::r) (.pr (.str text) (k+1))= .ok (.pr (.str text) 1) [c,.list made]:=by
   show (match aP (c::r) (k+1) with |some c'=>RE.ok (V.pr (.str text) 1) (cT [c] [] r++[c']) |none=> .bad)=_
   rw [hc,pb];rfl
  exact ⟨c,aM RS.fin (e (cU (vs:=[.ref 0,.i (.str f),.i (.str tab),.i (.str name)]) rfl rfl h hb))⟩
theorem pc_5 (R:Sx):(sq mq (sq mz R)) [some (.i (.num ((5,7)::ds))),some (.i (.str f)),some (.i (.str tab)),some (.i (.str name))] []=R (UY f tab name ds 5) [.list [.dig ds]]:=by kernel_rfl
end
theorem S4 {fam tab name:T} (hf:EM fam) (hn:lM name) (N:Int) (hN:N.fmod 7=5):qC fam tab name N:=by
 obtain ⟨c,rfl,hc⟩:=uL hn
 obtain ⟨q,hq,N1,h1⟩:=cov_R (N.fdiv 7)
 have fin:∀ {dq br ab tl b text n row N' N2 d},fN N1 dq N2->N2.fmod 3=(d:Nat)->d< 3->N2.fdiv 3=N'->zJ fam tab [110,c] br ab->tl∈[[],tB b [some (.i (.str text)),some (.i (.int n)),some (.i (.str row))]]->
   i9 (cP fam tab [110,c] .none []) [.list [.dig (dq++[(d,3)])],.list [],.list (q.map rI)]= .ok .nxt (cP fam tab [110,c] ab tl) [.list [.dig [(d,3)]],.list (gf br),.list (q.map rI)]->qC fam tab [110,c] N:=fun {dq br ab tl b text n row N' N2 d} hD e hd e' hB ht h=>by
  obtain ⟨σ,k,hc'⟩:=Ts hd hq hB ht h
  obtain ⟨cl,k⟩:=Jz (fun g=>(pc_5 _).trans (bj (gc rfl (bj (eZ g))))) k hc'
  exact ⟨(5,7)::(dR q++(dq++[(d,3)])),_,⟨bf _,hN,h1.app (hD.app ⟨bf _,e,e'.symm⟩)⟩,_,_,_,k,TW hc hq hB⟩
 obtain ⟨x,hx,e1⟩:=bG N1 (m:=3) (bf _)
 cases x with
 |zero=>
  obtain ⟨d,hd,e2⟩:=bG (N1.fdiv 3) (m:=3) (bf _)
  exact fin (dq:=[(0,3)]) (b:=([],[],[])) (text:=[]) (n:=0) (row:=[]) ⟨bf _,e1,rfl⟩ e2 hd rfl Yt (.head _) (iL rfl rfl)
 |succ x=>
  have hx:x+1∈[1,2]:=match x,hx with
   |0,_=> .head _
   |1,_=> .tail _ (.head _)
   |_+2,h=>absurd h (EC (ib 3 _))
  obtain ⟨b,hb,N2,h2⟩:=cov_B (N1.fdiv 3)
  have hh:Vs b.2.1:=by
   obtain ⟨_,_,m⟩:=jA.mp hb
   obtain ⟨h,hh,m⟩:=jA.mp m
   obtain ⟨_,_,rfl⟩:=cZ.mp m
   exact hh
  obtain ⟨ds1,N3,text,n,h3,⟨hl,ts,hr,H⟩,hp⟩:=L7 hf hh (.str tab) N2
  obtain ⟨p,hpm,N4,h4⟩:=cov_P N3
  obtain ⟨d,hd,e2⟩:=bG N4 (m:=3) (bf _)
  refine fin (dq:=(x+1,3)::(Kh b++(ds1++dP p))) (row:=p) (b:=b) (text:=text) (n:=n) ⟨bf _,e1,h2.app (h3.app h4)⟩ e2 hd rfl (RQ hb hpm hl hr H) (.tail _ (.head _)) ?_
  rw [List.cons_append,bM,bM]
  exact W1 hx hb hpm hl hp
end
section
abbrev Dt:=T×List I×I×Ds
abbrev Dk:=I×I×T×List I×List Dt
abbrev Sh:=T×List T×Dk×Ds
abbrev Pk:=T×Int×Int
def ty:Nat->List T
 |0=>[ma]
 |1=>[ma,EW]
 |_=>[EW]
def kdOf (s:T):I:= .tup [.str s,.int (match bU s ma with |true=>32 |false=>16)]
noncomputable def oL (t:List T):I:= .tup (t.map .str)
def fZ (t:List T):I:= .tup (t.map kdOf)
def GU:List T->List I
 |[]=>[]
 |[a]=>[wd a]
 |a::r=>wd a::sg uK::GU r
def da:Nat->Dk
 |0=>(.str iV,.str iV,t9++iV,[sg jE,wd iV],[(t9++nH,[sg jE,wd nH],.tup [.str nH,.str aQ],[(0,2)]),(t9++(BX++eI++G0),[sg jE,wd BX,wd G0],.tup [.str BX,.str G0],[(1,2)])])
 |1=>(oL (ty 0),fZ (ty 0),t9++ma,sg jE::GU (ty 0),[(t9++Fm,[sg jE,wd Fm],.tup [.int 167772161],[])])
 |2=>(oL (ty 1),fZ (ty 1),t9++bA Bp (ty 1),sg jE::GU (ty 1),[(t9++ZK,[sg jE,wd Fm,sg uK,wd Mr],.tup [.int 167772161,.int 22],[])])
 |_=>(.none,.none,[],[],[([],[],.none,[])])
def HL:List Sh:=(List.range 3).map (fun i=>(dO,ty i,da 3,[(0,2),(i,3)]))++(List.range 3).flatMap fun i=>(List.range 3).map fun j=>(fS,ty i,da j,[(1,2),(i,3),(j,3)])
def keyN (s:T):Nat->Pk:=match bU s ma with
 |true=>fun
  |0=>(Fm,167772161,167772161)
  |1=>(u15,167772160,184549375)
  |_=>(u16,3232235777,3232235781)
 |false=>fun
  |0=>(Mr,22,22)
  |1=>(u18,80,443)
  |_=>(u19,80,80)
abbrev Bx:=List Pk×Ds
def bx:List T->List Bx
 |[]=>[([],[])]
 |a::r=>(List.range 3).flatMap fun i=>(bx r).map fun x=>(keyN a i::x.1,(i,3)::x.2)
noncomputable abbrev pkI (p:Pk):I:= .tup [.str p.1,.int p.2.1,.int p.2.2]
noncomputable abbrev pkP (p:Pk):I:= .tup [.int p.2.1,.int p.2.2]
abbrev Vt (b:Bx):I:= .tup (b.1.map pkP)
abbrev El:=Bx×Nat×Dt
def EL (h:Sh):List El:=(bx h.2.1).flatMap fun b=>(List.range 2).flatMap fun m=>h.2.2.1.2.2.2.2.map fun d=>(b,m,d)
def tm:Nat->T×List I×Int×T
 |0=>([],[],0,aQ)
 |_=>(s269,[wd eu,wd u25,wd Nb,.tk jL Ug],61000,Ug)
def AI (e:El):T:=(bA Bp (e.1.1.map (·.1))++(tm e.2.1).1)++e.2.2.1
def hH (e:El):List I:=GU (e.1.1.map (·.1))++((tm e.2.1).2.1++e.2.2.2.1)
def gF (e:El):I:= .tup [Vt e.1,e.2.2.2.2.1,.int (tm e.2.1).2.2.1,.str (tm e.2.1).2.2.2]
noncomputable def Qg (e:El):Ds:=e.1.2++(e.2.1,2)::e.2.2.2.2.2
def chk (m:Nat):Nat->List Ds->List Ds
 |0,l=>l
 |n+1,l=>ch m fun j=>chk m n l
theorem XX {m n:Nat} {l:List Ds} (hm:0< m) (h:AJ l):AJ (chk m n l):=by
 induction n with
 |zero=>exact h
 |succ n ih=>exact gT hm fun j j=>ih
theorem cov_H (N:Int):∃ h∈HL,∃ N',fN N h.2.2.2 N':=pN (d:=fun h:Sh=>h.2.2.2) (show HL.map (fun h=>h.2.2.2)=ch 2 fun k=>ch 3 fun j=>JJ 3 k by kernel_rfl) (gT (bf _) fun j j=>gT (bf _) fun j j=>pQ (bf _) _) N
theorem VU {h:Sh} (hh:h∈HL) (N:Int):∃ e∈EL h,∃ N',fN N (Qg e) N':=
 pN (aW.mp (show HL.map (fun h=>(EL h).map Qg)=HL.map fun h=>chk 3 h.2.1.length (ch 2 fun j=>JJ 2 (h.2.2.1.2.2.2.2.length - 1)) by kernel_rfl) h hh) (XX (bf _) (gT (bf _) fun j j=>pQ (bf _) _)) N
inductive oy {α:Type} (P:α->Prop):List α->Prop
 |nil:oy P []
 |one {a:α}:P a->oy P [a]
 |two {a b:α}:P a->P b->oy P [a,b]
def elDs:List El->Ds->Ds
 |[],ds=>ds
 |e::r,ds=>Qg e++elDs r ds
abbrev Qn (es:List El) (ds:Ds):Ds:=(es.length,3)::elDs es ds
theorem Z7 {h:Sh} (hh:h∈HL) (N:Int):∃ es N1,oy (·∈EL h) es/\∀ ds N2,fN N1 ds N2->fN N (Qn es ds) N2:=by
 obtain ⟨n,hn,e⟩:=bG N (m:=3) (bf _)
 obtain ⟨a,ha,N1,h1⟩:=VU hh (N.fdiv 3)
 obtain ⟨b,hb,N2,h2⟩:=VU hh N1
 exact match n,hn,e with
  |0,_,e=>⟨[],_,.nil,fun j j h=>⟨bf _,e,h⟩⟩
  |1,_,e=>⟨[a],_,.one ha,fun j j h=>⟨bf _,e,h1.app h⟩⟩
  |2,_,e=>⟨[a,b],_,.two ha hb,fun j j h=>⟨bf _,e,h1.app (h2.app h)⟩⟩
  |_+3,h,_=>absurd h (EC (ib 3 _))
noncomputable abbrev yn (h:Sh) (tl:av):av:=some (.ref 0)::some (.i (oL h.2.1))::some (.i h.2.2.1.1)::some (.ref 1)::some (.ref 2)::tl
abbrev leR (e:El) (x:I) (n:Nat):av:=[some (.i x),some (.ref n),none,some (.i (.str (AI e))),none,some (.i (.int (tm e.2.1).2.2.1)),some (.i e.2.2.2.2.1)]
abbrev leJ (e:El):ai:=[.list (e.1.1.map pkI),.list (e.1.1.map fun p=> .str p.1),.list (e.1.1.map pkP)]
section
variable {ds:Ds} {x x' y z u v w:I} {a b c:aF}
theorem le_1:HL.map (fun h=>(EL h).map fun e=>li (yn h [some (.i x)]) [.list [.dig (Qg e++ds)],.list [],.list []])=
  HL.map fun h=>(EL h).map fun e=> .ok .nxt (yn h (leR e x 3)) (.list [.dig ds]:: .list [.str (AI e)]:: .list [gF e]::leJ e):=by kernel_rfl
theorem le_2:HL.map (fun h=>(EL h).map fun e=>li (yn h [some (.i x),some (.ref 3),none,some (.i y),none,some (.i z),some (.i u)]) [.list [.dig (Qg e++ds)],.list [v],.list [w],a,b,c])=
  HL.map fun h=>(EL h).map fun e=> .ok .nxt (yn h (leR e x 6)) (.list [.dig ds]:: .list [v,.str (AI e)]:: .list [w,gF e]::a::b::c::leJ e):=by kernel_rfl
theorem e_len:HL.map (fun h=>(EL h).map fun e=>(Nat.ble (AI e).length 100 && (bS 10 (gF e) && bS 11 (gF e)),toks (AI e)))=HL.map fun h=>(EL h).map fun e=>(true,some (hH e)):=by kernel_rfl
end
end
section
def qo (es:List El):T:=(J4++bA A7 (es.map AI))++nP
theorem oy.all {α:Type} {P:α->Prop} {l:List α} (h:oy P l):l.length<=2/\∀ a∈l,P a:=match h with
 | .nil=>⟨dI _,fun j m=>(fK m).elim⟩
 | .one h=>⟨iD _,fun j m=>cY.mp m▸h⟩
 | .two h k=>⟨cR _,b9.mpr ⟨h,fun j m=>cY.mp m▸k⟩⟩
section
variable {h:Sh} {e:El} {es:List El} {ds:Ds} {σ:ai}
theorem RM (hh:h∈HL) (he:e∈EL h):(AI e).length<=100/\(bS 10 (gF e) && bS 11 (gF e))=true/\toks (AI e)=some (hH e):=
 have g:=aT (aW.mp (aW.mp e_len h hh) e he)
 have a:=cp.mp g.1
 ⟨aI a.1,a.2,g.2⟩
theorem Q3 (hh:h∈HL) (hes:oy (·∈EL h) es):(qo es).length<=300:=by
 have j:=BN (p:=A7) (B:=100) (xs:=es.map AI) fun x m=>by
  obtain ⟨e,he,rfl⟩:=cZ.mp m
  exact (RM hh (hes.all.2 e he)).1
 rw [cD] at j
 unfold qo
 rw [bd,bd]
 exact ba (fU (f7 (ba j (CD _ hes.all.1)) _) _) (aI rfl)
theorem fo_1 (W:Sx):cI (gO (ci 0) (call aH [aa 0,ci 3])) [5] W (yn h []) (.list [.dig ((1,3)::ds)]::σ)=(W (yn h [some (.i (.int 0))]) (.list [.dig ds]::σ)).loop fun l σ=> .ok .nxt l σ:=by kernel_rfl
theorem fo_2 (W:Sx):cI (gO (ci 0) (call aH [aa 0,ci 3])) [5] W (yn h []) (.list [.dig ((2,3)::ds)]::σ)=(W (yn h [some (.i (.int 0))]) (.list [.dig ds]::σ)).loop fun l σ=>(W (bK l 5 (.i (.int 1))) σ).loop fun l σ=> .ok .nxt l σ:=by kernel_rfl
theorem XY (hh:h∈HL) (hes:oy (·∈EL h) es):∃ tl j,jB (yn h []) [.list [.dig (Qn es ds)],.list [],.list []]= .ok .nxt (yn h tl) (.list [.dig ds]:: .list ((es.map AI).map .str):: .list (es.map gF)::j):=by
 have w1:=fun {a} (ha:a∈EL h) ds x=>aW.mp (aW.mp (le_1 (ds:=ds) (x:=x)) h hh) a ha
 cases hes with
 |nil=>exact ⟨[],[],by show jB (yn h []) [.list [.dig ((0,3)::ds)],.list [],.list []]=_;kernel_rfl⟩
 |one ha=>exact ⟨_,_,(fo_1 _).trans (aM (fun r:RS=>r.loop _) (w1 ha _ _))⟩
 |two ha hb=>exact ⟨_,_,(fo_2 _).trans ((aM (fun r:RS=>r.loop _) (w1 ha _ _)).trans (aM (fun r:RS=>r.loop _) (aW.mp (aW.mp le_2 h hh) _ hb)))⟩
theorem SK (hh:h∈HL) (hes:oy (·∈EL h) es):∃ j,iB [.ref 0,.i (oL h.2.1),.i h.2.2.1.1] [.list [.dig (Qn es ds)]]= .ok (.i (.tup [.str (qo es),.tup (es.map gF)])) (.list [.dig ds]::j):=by
 obtain ⟨tl,j,g⟩:=XY (ds:=ds) hh hes
 have H:=ba (Q3 hh hes) (aI (rfl:Nat.ble 300 aJ=true))
 exact ⟨_,du rfl (aG rfl (aG rfl (aG g (bj (eZ (hX (bk (ec (ec rfl (Co (z:=J4) rfl (jD rfl) rfl (gj H) (aI rfl)) (gj H)) rfl H) (bk rfl rfl)) rfl))))))⟩
def A4:List El->List I
 |[]=>[]
 |[a]=>hH a
 |a::r=>hH a++sg gb::A4 r
abbrev elsW (es:List El):List I:=wd eH::sg jr::sg cH::(A4 es++[sg cV])
theorem es_rd {a:El} (hh:h∈HL) (hes:oy (·∈EL h) (a::es)):Rd (qo (a::es)) (elsW (a::es)):=by
 have r:=fun {e} (he:e∈EL h)=>iC (RM hh he).2.2
 have en:∀ {x ts},Rd x ts->Rd ((J4++x)++nP) (wd eH::sg jr::sg cH::(ts++[sg cV])):=fun {x ts} k=>
  (((dU (a:=J4) (ts:=[wd eH,sg jr,sg cH]) (by kernel_rfl)).appd k).appc (dU (a:=nP) (ts:=[sg cV]) (by kernel_rfl)) rfl).rd
 cases hes with
 |one ha=>exact en (r ha)
 |two ha hb=>exact en ((r ha).appd ((dU (a:=A7) (ts:=[sg gb]) (by kernel_rfl)).appd (r hb)) rfl)
end
end
section
abbrev liL (h:Sh) (x:I):av:=[some (.ref 0),some (.i (fZ h.2.1)),some (.i h.2.2.1.2.1),some (.i (.bool true)),some (.i x)]
noncomputable abbrev je (a b:I):av:=[some (.ref 0),some (.i a),some (.i b),some (.i (.bool true)),some (.ref 1)]
section
variable {h:Sh} {e:El} {es:List El} {pre rest u acc:List I} {kn:List (I×I)} {fam tab a b x:I} {s:T} {l:av}
theorem H4 {ps:List (Option I)} {b:Sx} {vs:List V} {σ:ai} {l:av} {R:RE V} (h:jP ps vs=some l) (k:(b l σ).fin=R):fn ps b vs σ=R:=by unfold fn;rw [h];exact k
theorem XK:HL.map (fun h=>(bx h.2.1).map fun b=>kM [.ref 0,.i (fZ h.2.1)] [.rd pre (GU (b.1.map (·.1))++rest) kn fam tab])=
  HL.map fun h=>(bx h.2.1).map fun b=> .ok (.i (Vt b)) [.rd ((GU (b.1.map (·.1))).reverse++pre) rest kn fam tab,.list (b.1.map pkP)]:=by kernel_rfl
theorem XW:HL.map (fun h=>(List.range 2).map fun m=>h.2.2.1.2.2.2.2.map fun d=>[cV,gb].map fun y=>xy ((sq qE (sq pX (sq qr (sq rC (sq rS (sq qj (sq pT ae))))))) (liL h x) [.rd pre ((tm m).2.1++d.2.1++sg y::rest) kn fam tab]).fin)=
  HL.map fun h=>(List.range 2).map fun m=>h.2.2.1.2.2.2.2.map fun d=>[cV,gb].map fun y=>some (.tup [x,d.2.2.1,.int (tm m).2.2.1,.str (tm m).2.2.2],some (.rd (((tm m).2.1++d.2.1).reverse++pre) (sg y::rest) kn fam tab)):=by kernel_rfl
def LiR (h:Sh) (e:El) (y:T) (pre rest:List I) (kn:List (I×I)) (fam tab:I):Prop:=∃ p j,gw [.ref 0,.i (fZ h.2.1),.i h.2.2.1.2.1,.i (.bool true)] [.rd pre (hH e++sg y::rest) kn fam tab]= .ok (.i (gF e)) (.rd p (sg y::rest) kn fam tab::j)
theorem Wx (hh:h∈HL) (he:e∈EL h) {y:T} (hy:y∈[cV,gb]):LiR h e y pre rest kn fam tab:=by
 obtain ⟨b,hb,he⟩:=jA.mp he
 obtain ⟨m,hm,he⟩:=jA.mp he
 obtain ⟨d,hd,rfl⟩:=cZ.mp he
 have g:=aW.mp (aW.mp (XK (pre:=pre) (rest:=(tm m).2.1++d.2.1++sg y::rest) (kn:=kn) (fam:=fam) (tab:=tab)) h hh) b hb
 obtain ⟨j,k⟩:=pM (aW.mp (aW.mp (aW.mp (aW.mp (XW (x:=Vt b)) h hh) m hm) d hd) y hy)
 have c:call kM [aa 0,aa 1] [some (.ref 0),some (.i (fZ h.2.1)),some (.i h.2.2.1.2.1),some (.i (.bool true))] [.rd pre (hH (b,m,d)++sg y::rest) kn fam tab]= .ok (.i (Vt b)) [.rd ((GU (b.1.map (·.1))).reverse++pre) ((tm m).2.1++d.2.1++sg y::rest) kn fam tab]:=by
  unfold hH
  rw [bM]
  exact kw (vs:=[fZ h.2.1]) g rfl
 exact ⟨_,j,H4 rfl ((aM RS.fin (bc (dm c))).trans k)⟩
theorem J3 (hh:h∈HL) (he:e∈EL h):∃ s u,hH e=wd s::u:=⟨_,_,aW.mp (aW.mp (show HL.map (fun h=>(EL h).map hH)=HL.map (fun h=>(EL h).map fun e=>wd (match hH e with | .tk _ c::_=>c |_=>[])::(hH e).tail) by kernel_rfl) h hh) e he⟩
theorem P7 {l l':av} {σ σ' σ'':ai} {c:Tx} {b:Sx} {n:Nat} (h:c l σ= .ok true σ') (h2:b l σ'= .ok .brk l' σ''):jq c b (n+1) l σ= .ok .nxt l' σ'':=by
 show (c l σ).bindS _=_
 rw [h]
 show (b l σ').loop _=_
 rw [h2];rfl
theorem br_t:a7 (aw bR (aa 0) [cs cH]) (je a b) [.rd pre (wd s::u) kn fam tab,.list acc]= .ok false [.rd pre (wd s::u) kn fam tab,.list acc]:=by kernel_rfl
theorem br_0 (R:Sx):(sq sC (sq sA (sq sR R))) [some (.ref 0),some (.i a),some (.i b),some (.i (.bool true))] [.rd pre (sg cH::wd s::u) kn fam tab]=R (je a b) [.rd (sg cH::pre) (wd s::u) kn fam tab,.list []]:=by kernel_rfl
theorem br_n:(sq d0 (sq d5 (sq dY ae))) (je a b) [.rd pre (sg gb::wd s::u) kn fam tab,.list acc]= .ok .nxt (je a b) [.rd (sg gb::pre) (wd s::u) kn fam tab,.list acc]:=by kernel_rfl
theorem br_b:(sq d0 (sq d5 (sq dY ae))) (je a b) [.rd pre (cb::u) kn fam tab,.list acc]= .ok .brk (je a b) [.rd pre (cb::u) kn fam tab,.list acc]:=by kernel_rfl
theorem br_c:jQ (je a b) [.rd pre (wd s::u) kn fam tab,.list acc]= .ok true [.rd pre (wd s::u) kn fam tab,.list acc]:=by kernel_rfl
theorem br_e:(sq sv (sq sB ae)) (je a b) [.rd pre (cb::u) kn fam tab,.list acc]= .ok (.ret (.i (.tup acc))) (je a b) [.rd (cb::pre) u kn fam tab,.list acc]:=by kernel_rfl
theorem Sm (hh:h∈HL) (he:e∈EL h) (ha:acc.length< aJ) {y:T} (hy:y∈[cV,gb]):∃ p,hJ (je (fZ h.2.1) h.2.2.1.2.1) [.rd pre (hH e++sg y::rest) kn fam tab,.list acc]=(sq d0 (sq d5 (sq dY ae))) (je (fZ h.2.1) h.2.2.1.2.1) [.rd p (sg y::rest) kn fam tab,.list (acc++[gF e])]:=by
 obtain ⟨p,j,g⟩:=Wx (pre:=pre) (rest:=rest) (kn:=kn) (fam:=fam) (tab:=tab) hh he hy
 have t:a7 (aw bR (aa 0) [cs cH]) (je (fZ h.2.1) h.2.2.1.2.1) [.rd pre (hH e++sg y::rest) kn fam tab,.list acc]= .ok false [.rd pre (hH e++sg y::rest) kn fam tab,.list acc]:=by
  obtain ⟨s,u,e⟩:=J3 hh he
  rw [e];exact br_t
 refine ⟨p,bc (iL t (aG (gZ (v:= .i .none) (σ':=[.rd p (sg y::rest) kn fam tab,.list (acc++[gF e])]) ?_) rfl))⟩
 show ((call gw [aa 0,aa 1,aa 2,aa 3] (je (fZ h.2.1) h.2.2.1.2.1) _).bind fun y σ=>aO (.ref 1) y σ)=_
 rw [kw (vs:=[fZ h.2.1,h.2.2.1.2.1,.bool true]) g rfl]
 show gd (Nat.blt acc.length aJ) _=_
 rw [show Nat.blt acc.length aJ=true from gp ha];rfl
theorem Ob (hh:h∈HL) (he:e∈EL h):jQ (je a b) [.rd pre (hH e++u) kn fam tab,.list acc]= .ok true [.rd pre (hH e++u) kn fam tab,.list acc]:=by
 obtain ⟨s,v,e⟩:=J3 hh he
 rw [e];exact br_c
theorem es_2 {c d:El} {p p':List I} (hh:h∈HL) (hc:c∈EL h) (hd:d∈EL h)
  (g:hJ (je (fZ h.2.1) h.2.2.1.2.1) [.rd pre (hH c++sg gb::(hH d++cb::rest)) kn fam tab,.list []]=(sq d0 (sq d5 (sq dY ae))) (je (fZ h.2.1) h.2.2.1.2.1) [.rd p (sg gb::(hH d++cb::rest)) kn fam tab,.list ([]++[gF c])])
  (g':hJ (je (fZ h.2.1) h.2.2.1.2.1) [.rd (sg gb::p) (hH d++sg cV::rest) kn fam tab,.list [gF c]]=(sq d0 (sq d5 (sq dY ae))) (je (fZ h.2.1) h.2.2.1.2.1) [.rd p' (sg cV::rest) kn fam tab,.list ([gF c]++[gF d])]):
  kW (je (fZ h.2.1) h.2.2.1.2.1) [.rd pre (A4 [c,d]++cb::rest) kn fam tab,.list []]= .ok .nxt (je (fZ h.2.1) h.2.2.1.2.1) [.rd p' (cb::rest) kn fam tab,.list ([c,d].map gF)]:=by
 show jq jQ hJ fw _ [.rd _ ((hH c++sg gb::hH d)++cb::rest) _ _ _,_]=_
 rw [bM]
 refine (qi (Ob hh hc) (g.trans ?_)).trans (P7 (Ob hh hd) (g'.trans br_b))
 obtain ⟨s',u',e'⟩:=J3 hh hd
 show _=RS.ok .nxt _ [.rd _ (hH d++cb::rest) _ _ _,_]
 rw [e'];exact br_n
def EsR (h:Sh) (es:List El) (pre rest:List I) (kn:List (I×I)) (fam tab:I):Prop:=∃ p j,c9 [.ref 0,.i (fZ h.2.1),.i h.2.2.1.2.1] [.rd pre (sg cH::(A4 es++cb::rest)) kn fam tab]= .ok (.i (.tup (es.map gF))) (.rd p rest kn fam tab::j)
def EsL (h:Sh) (es:List El) (pre rest:List I) (kn:List (I×I)) (fam tab:I):Prop:=∃ p,kW (je (fZ h.2.1) h.2.2.1.2.1) [.rd (sg cH::pre) (A4 es++cb::rest) kn fam tab,.list []]= .ok .nxt (je (fZ h.2.1) h.2.2.1.2.1) [.rd p (cb::rest) kn fam tab,.list (es.map gF)]
theorem YM {c:El} (hh:h∈HL) (hes:oy (·∈EL h) (c::es)):EsR h (c::es) pre rest kn fam tab:=by
 have h0:∃ s u,A4 (c::es)=wd s::u:=by
  cases hes with
  |one hc=>exact J3 hh hc
  |@two _ d hc _=>
   obtain ⟨s,u,e⟩:=J3 hh hc
   exact ⟨s,u++sg gb::hH d,aM (·++_) e⟩
 suffices EsL h (c::es) pre rest kn fam tab by
  obtain ⟨p,g⟩:=this
  have k:gY [.ref 0,.i (fZ h.2.1),.i h.2.2.1.2.1,.i (.bool true)] [.rd pre (sg cH::(A4 (c::es)++cb::rest)) kn fam tab]= .ok (.i (.tup ((c::es).map gF))) [.rd (cb::p) rest kn fam tab,.list ((c::es).map gF)]:=by
   obtain ⟨s,u,e⟩:=h0
   rw [e] at g ⊢
   exact du rfl ((br_0 _).trans (aG g br_e))
  exact ⟨_,_,du rfl (bj (eZ (kw (r:=[]) (vs:=[fZ h.2.1,h.2.2.1.2.1,.bool true]) k rfl)))⟩
 cases hes with
 |one hc=>
  obtain ⟨p,g⟩:=Sm (acc:=[]) (pre:=sg cH::pre) (rest:=rest) (kn:=kn) (fam:=fam) (tab:=tab) hh hc (aI rfl) (.head _)
  exact ⟨p,P7 (Ob hh hc) (g.trans br_b)⟩
 |@two _ d hc hd=>
  obtain ⟨p,g⟩:=Sm (acc:=[]) (pre:=sg cH::pre) (rest:=hH d++cb::rest) (kn:=kn) (fam:=fam) (tab:=tab) hh hc (aI rfl) (.tail _ (.head _))
  obtain ⟨p',g'⟩:=Sm (acc:=[gF c]) (pre:=sg gb::p) (rest:=rest) (kn:=kn) (fam:=fam) (tab:=tab) hh hd (aI rfl) (.head _)
  exact ⟨p',es_2 hh hc hd g g'⟩
end
end
section
abbrev Ps:=List (T×I)
abbrev Sl:=List (T×List I)×Ps
noncomputable def mk (k:T):Option (T×List I×I)->Sl
 |none=>([],[])
 |some x=>([(x.1,x.2.1)],[(k,x.2.2)])
def sepW:List T->List I
 |[]=>[]
 |[a]=>[wd a]
 |a::r=>wd a::sg gb::sepW r
def CC (p:Nat):List T:=[(1,R7),(2,Rn),(4,Sv),(8,eu)].filterMap fun x=>match Nat.beq (Nat.mod (Nat.div p x.1) 2) 1 with |true=>some x.2 |false=>none
def fl (p:Nat):Sl:=mk jg (match CC p with
 |[]=>none
 |l=>some (s276++bA A7 l.reverse,wd jg::sepW l.reverse,.tup (l.map .str)))
def ti (t:Nat):Sl:=mk eu ([none,some (T9++Ry,[wd eu,wd Ry],.int 3600000),some (T9++Um,[wd eu,wd Um],.int 5500)][t]?.getD none)
def sz (t:Nat):Sl:=mk jp ([none,some (Ti++cF 5,[wd jp,wd (cF 5)],.int 5),some (Ti++cF 65535,[wd jp,wd (cF 65535)],.int 65535)][t]?.getD none)
def me (t:Nat):Sl:=mk qV ([none,some (qV,[wd qV],.bool true)][t]?.getD none)
noncomputable def noneI:I->Bool
 | .none=>true
 |_=>false
def I8 (h:Sh):Ps:=(mk wl (match noneI h.2.2.1.1 with
 |true=>none
 |false=>some ([],[],h.2.2.1.1))).2
def tp (h:Sh):Sl:=([((FA++bA Bp h.2.1)++h.2.2.1.2.2.1,wd lW::(GU h.2.1++h.2.2.1.2.2.2.1))],(lW,oL h.2.1)::I8 h)
def el (es:List El):Sl:=mk eH (match es with
 |[]=>none
 |es=>some (qo es,elsW es,.tup (es.map gF)))
def nq (P:Ps):List (I×I):=P.foldl (fun d p=>iP d (.str p.1) p.2) []
noncomputable def op (k:T) (v:I):List Ps:=[[],[(k,v)]]
noncomputable def DP (A B:List Ps):List Ps:=A.flatMap fun a=>B.map (a++·)
noncomputable def bD {α β:Type} (A:List α) (B:List β):List (α×β):=A.flatMap fun a=>B.map (a,·)
theorem gg {A B:List Ps} {a b:Ps} (h:a∈A) (k:b∈B):a++b∈DP A B:=jA.mpr ⟨a,h,gI k⟩
theorem cA {α β:Type} {A:List α} {B:List β} {a:α} {b:β} (h:a∈A) (k:b∈B):(a,b)∈bD A B:=jA.mpr ⟨a,h,gI k⟩
theorem pn (k:T) (o:Option (T×List I×I)):∃ v,(mk k o).2∈op k v:=match o with
 |none=>⟨.none,.head _⟩
 |some _=>⟨_,.tail _ (.head _)⟩
theorem op_1 {k:T} {v:I}:[(k,v)]∈op k v:= .tail _ (.head _)
theorem Cd {k:T} {v:I}:[]∈op k v:= .head _
abbrev Rw:=T×List I×Ps
noncomputable def rl (k:T) (l:List Sl):List Rw:=l.flatMap fun x=>x.1.map fun r=>(k,r.2,x.2)
def ys (e:T):List I:=[.tk fE e,cb]
noncomputable abbrev wN (k:T):av:=[some (.ref 0),some (.i (.str k)),some (.ref 1)]
section
variable (k e:T) (pre rest:List I) (kn:List (I×I)) (fam tab v1 v2 v3 v4 v5 v6 y:I)
def seF (x:(Ps×Rw)×I):RS:=ee (wN x.1.2.1) [.rd pre (x.1.2.2.1++x.2::rest) kn fam tab,.dict (nq x.1.1)]
def seG (x:(Ps×Rw)×I):RS:= .ok .nxt (wN x.1.2.1) [.rd (x.1.2.2.1.reverse++pre) (x.2::rest) kn fam tab,.dict (nq (x.1.1++x.1.2.2.2))]
def yg (P:List Ps) (R:List Rw) (Y:List I):Prop:=(bD (bD P R) Y).map (seF pre rest kn fam tab)=(bD (bD P R) Y).map (seG pre rest kn fam tab)
def YN:List Ps:=DP (op lW v1) (DP (op wl v2) (op eH v3))
def PL2:List Ps:=DP (YN v1 v2 v3) (op jg v4)
def PL3:List Ps:=DP (PL2 v1 v2 v3 v4) (op eu v5)
def PL4:List Ps:=DP (PL3 v1 v2 v3 v4 v5) (op jp v6)
def QL:List Ps:=DP (DP (DP (op jg v1) (op eu v2)) (op jp v3)) (op qV v4)
theorem se_fl:yg pre rest kn fam tab (YN v1 v2 v3) (rl k ((List.range 16).map fl)) (ys e):=by unfold yg;kernel_rfl
theorem se_ti:yg pre rest kn fam tab (PL2 v1 v2 v3 v4) (rl k ((List.range 3).map ti)) [y]:=by unfold yg;kernel_rfl
theorem se_sz:yg pre rest kn fam tab (PL3 v1 v2 v3 v4 v5) (rl k ((List.range 3).map sz)) [y]:=by unfold yg;kernel_rfl
theorem se_me:yg pre rest kn fam tab (PL4 v1 v2 v3 v4 v5 v6) (rl k ((List.range 2).map me)) [y]:=by unfold yg;kernel_rfl
theorem se_tp:yg pre rest kn fam tab (QL v1 v2 v3 v4) (HL.flatMap fun h=>rl h.1 [tp h]) (ys e):=by unfold yg;kernel_rfl
end
end
section
abbrev sE (k:T) (tl:av):av:=some (.ref 0)::some (.i (.str k))::some (.ref 1)::some (.i (.tup [.str lW,.str jg,.str eu,.str jp,.str qV,.str eH]))::some (.i (.str eH))::tl
abbrev Z1:List Ex:=[aa 0,aa 5,call fF [un (bp 2) (aa 0),jm (aa 2) (cs wl) (aN .none)]]
section
variable (k:T) (P:Ps) (pre rest u:List I) (kn:List (I×I)) (fam tab v1 v2 v3 v4 v5 x:I) (h:Sh) (es:List El) (R:Sx)
abbrev er1 (R:Sx):Sx:=sq qH (sq rG (sq rq (sq qx (sq pW (sq rF R)))))
abbrev er2 (R:Sx):Sx:=sq gX (sq gV R)
noncomputable abbrev rdc:aF:= .rd pre u kn fam tab
def erF (z:Ps×Sh):RS×RS×RE (List V)×RS:=
 (er1 R (wN k) [.rd pre (wd eH::u) kn fam tab,.dict (nq (z.1++(tp z.2).2))],er2 R (sE k []) [.rd pre (sg jr::u) kn fam tab,.dict (nq (z.1++(tp z.2).2))],
  cS Z1 (sE k [some (.i (fZ z.2.2.1))]) [.rd pre u kn fam tab,.dict (nq (z.1++(tp z.2).2))],xX (.ref 1) (.i (.str eH)) (.i x) (sE k [some (.i (fZ z.2.2.1))]) [.rd pre u kn fam tab,.dict (nq (z.1++(tp z.2).2))])
def erG (z:Ps×Sh):RS×RS×RE (List V)×RS:=
 (R (sE k []) [.rd (wd eH::pre) u kn fam tab,.dict (nq (z.1++(tp z.2).2))],R (sE k [some (.i (fZ z.2.2.1))]) [.rd (sg jr::pre) u kn fam tab,.dict (nq (z.1++(tp z.2).2))],
  .ok [.ref 0,.i (fZ z.2.2.1),.i z.2.2.2.1.2.1] [.rd pre u kn fam tab,.dict (nq (z.1++(tp z.2).2))],.ok .nxt (sE k [some (.i (fZ z.2.2.1))]) [.rd pre u kn fam tab,.dict (nq (z.1++(tp z.2).2++[(eH,x)]))])
theorem er_1:(bD (QL v1 v2 v3 v4) HL).map (erF k pre u kn fam tab x R)=(bD (QL v1 v2 v3 v4) HL).map (erG k pre u kn fam tab x R):=by kernel_rfl
end
section
variable {k:T} {P:Ps} {pre rest u:List I} {kn:List (I×I)} {fam tab v4 v5 x y:I}
theorem er_2 {D D':List (I×I)} {r:List I} (h1:∀ pre u R,er1 R (wN k) [.rd pre (wd eH::u) kn fam tab,.dict D]=R (sE k []) [.rd (wd eH::pre) u kn fam tab,.dict D])
  (h2:∀ pre u R,er2 R (sE k []) [.rd pre (sg jr::u) kn fam tab,.dict D]=R (sE k [some (.i v4)]) [.rd (sg jr::pre) u kn fam tab,.dict D])
  (h3:∀ pre u,cS Z1 (sE k [some (.i v4)]) [.rd pre u kn fam tab,.dict D]= .ok [.ref 0,.i v4,.i v5] [.rd pre u kn fam tab,.dict D])
  (h4:∀ pre u,xX (.ref 1) (.i (.str eH)) (.i x) (sE k [some (.i v4)]) [.rd pre u kn fam tab,.dict D]= .ok .nxt (sE k [some (.i v4)]) [.rd pre u kn fam tab,.dict D'])
  (g:∃ p j,c9 [.ref 0,.i v4,.i v5] [.rd (sg jr::wd eH::pre) r kn fam tab]= .ok (.i x) (.rd p rest kn fam tab::j)):
  ∃ p,ee (wN k) [.rd pre (wd eH::sg jr::r) kn fam tab,.dict D]= .ok .nxt (wN k) [.rd p rest kn fam tab,.dict D']:=by
 obtain ⟨p,j,g⟩:=g
 have c:gU (sE k [some (.i v4)]) [.rd (sg jr::wd eH::pre) r kn fam tab,.dict D]= .ok .nxt (sE k [some (.i v4)]) [.rd p rest kn fam tab,.dict D']:=by
  show (call c9 Z1 _ _).bindS _=_
  rw [kw (vs:=[v4,v5]) g (h3 _ _)]
  exact h4 ..
 have b:iX [.ref 0,.i (.str k),.ref 1] [.rd pre (wd eH::sg jr::r) kn fam tab,.dict D]= .ok (.i .none) [.rd p rest kn fam tab,.dict D']:=
  Ed rfl ((h1 ..).trans (aG (iL rfl (aG (iL rfl (aG (iL rfl (aG (iL rfl (aG (iL rfl ((h2 ..).trans (aG c rfl))) rfl)) rfl)) rfl)) rfl)) rfl))
 exact ⟨p,gZ (cU (vs:=[.ref 0,.i (.str k),.ref 1]) rfl rfl b rfl)⟩
theorem er_3 {v1 v2 v3 v4 x:I} {z:Ps×Sh} (hz:z∈bD (QL v1 v2 v3 v4) HL) {r:List I} (g:∃ p j,c9 [.ref 0,.i (fZ z.2.2.1),.i z.2.2.2.1.2.1] [.rd (sg jr::wd eH::pre) r kn fam tab]= .ok (.i x) (.rd p rest kn fam tab::j)):
  ∃ p,ee (wN k) [.rd pre (wd eH::sg jr::r) kn fam tab,.dict (nq (z.1++(tp z.2).2))]= .ok .nxt (wN k) [.rd p rest kn fam tab,.dict (nq (z.1++(tp z.2).2++[(eH,x)]))]:=
 have E:=fun pre u R=>aT (aW.mp (er_1 k pre u kn fam tab v1 v2 v3 v4 x R) z hz)
 have E2:=fun pre u R=>aT (E pre u R).2
 have E3:=fun pre u=>aT (E2 pre u ae).2
 er_2 (fun p u R=>(E p u R).1) (fun p u R=>(E2 p u R).1) (fun p u=>(E3 p u).1) (fun p u=>(E3 p u).2) g
end
end
section
noncomputable def PD:List I->T
 | .tk _ c::_=>c
 |_=>[]
def GR:List Sl:=(List.range 16).map fl++((List.range 3).map ti++((List.range 3).map sz++((List.range 2).map me++HL.map tp)))
noncomputable def ok0 (x:Sl):Bool:=match x.1 with
 |[]=>x.2.isEmpty
 |_::r=>r.isEmpty
def ZX (r:T×List I):Prop:=Rd r.1 r.2/\r.1.length<=300/\∃ c t,r.2=wd c::t
def MF (x:Sl):Prop:=ok0 x=true/\∀ r∈x.1,ZX r
theorem Tf:GR.map (fun x=>(ok0 x,x.1.map fun r=>(toks r.1,Nat.ble r.1.length 300,r.2)))=GR.map fun x=>(true,x.1.map fun r=>(some r.2,true,wd (PD r.2)::r.2.tail)):=by kernel_rfl
theorem AH {x:Sl} (h:x∈GR):MF x:=
 have g:=aT (aW.mp Tf x h)
 ⟨g.1,fun r m=>have k:=aT (aW.mp g.2 r m);have q:=aT k.2;⟨iC k.1,aI q.1,_,_,q.2⟩⟩
abbrev RC (kn:List (I×I)) (k:T) (P:Ps):St:=⟨[some (.i (.str k)),some (.ref 1)],kn,[.dict (nq P)]⟩
def iv (fam tab:I) (kn:List (I×I)) (k:T) (rs:List (T×List I)) (P P':Ps):Prop:=Rows sI fam tab (rs.map (·.2)) (RC kn k P) (RC kn k P')
def SeP (fam tab:I) (kn:List (I×I)) (k:T) (row:List I) (P P':Ps):Prop:=∀ pre y rest,n0 y->∃ p,ee (wN k) [.rd pre (row++y::rest) kn fam tab,.dict (nq P)]= .ok .nxt (wN k) [.rd p (y::rest) kn fam tab,.dict (nq P')]
section
variable {p t s b:Nat} {h:Sh} {es:List El} {k:T} {fam tab v1 v2 v3 v4 v5 v6 v7:I} {kn:List (I×I)} {pre rest:List I} {x:Sl} {P P1 P2:Ps} {r1 r2:List (T×List I)}
theorem aaa (hp:p< 16):fl p∈GR:=AS _ (gI (cE.mpr hp))
theorem aaz (hp:p< 3):ti p∈GR:=kh _ (AS _ (gI (cE.mpr hp)))
theorem aa3 (hp:p< 3):sz p∈GR:=kh _ (kh _ (AS _ (gI (cE.mpr hp))))
theorem me_m (hp:p< 2):me p∈GR:=kh _ (kh _ (kh _ (AS _ (gI (cE.mpr hp)))))
theorem ZG (hh:h∈HL):tp h∈GR:=kh _ (kh _ (kh _ (kh _ (gI hh))))
theorem aaA (hh:h∈HL) (hes:oy (·∈EL h) es):MF (el es):=match es,hes with
 |[],_=>⟨rfl,fun j m=>(fK m).elim⟩
 |_::_,hes=>⟨rfl,fun j m=>cY.mp m▸⟨es_rd hh hes,Q3 hh hes,_,_,rfl⟩⟩
theorem iv.app (h:iv fam tab kn k r1 P P1) (g:iv fam tab kn k r2 P1 P2):iv fam tab kn k (r1++r2) P P2:=by
 unfold iv
 rw [iQ]
 exact Rows.app h g
theorem sl_one {r:T×List I} (h:ZX r) (g:SeP fam tab kn k r.2 P P1):iv fam tab kn k [r] P P1:=⟨_,⟨h.2.2,fun pre y rest hy=>(g pre y rest hy).imp fun j e=>bc e⟩,rfl⟩
theorem LM (h:MF x) (g:∀ r∈x.1,SeP fam tab kn k r.2 P (P++x.2)):iv fam tab kn k x.1 P (P++x.2):=by
 obtain ⟨r,u⟩:=x
 cases r with
 |nil=>cases u with
  |nil=>show RC kn k (P++[])=_;rw [dT]
  |cons=>cases h.1
 |cons r rs=>cases rs with
  |cons=>cases h.1
  |nil=>exact sl_one (h.2 r (.head _)) (g r (.head _))
theorem rl_m {l:List Sl} (hx:x∈l) {r:T×List I} (hr:r∈x.1):(k,r.2,x.2)∈rl k l:=jA.mpr ⟨x,hx,cZ.mpr ⟨r,hr,rfl⟩⟩
theorem yj {PL:List Ps} {R:List Rw} {Y:I->T->List I} (E:∀ e pre rest y,yg pre rest kn fam tab PL R (Y y e)) (hy:∀ y,n0 y->∃ e,y∈Y y e) (hP:P∈PL) (hx:MF x) (hr:∀ r∈x.1,(k,r.2,x.2)∈R):iv fam tab kn k x.1 P (P++x.2):=
 LM hx fun r m pre y rest h=>(hy y h).elim fun e hy=>⟨r.2.reverse++pre,(show seF pre rest kn fam tab ((P,k,r.2,x.2),y)=seG pre rest kn fam tab ((P,k,r.2,x.2),y) from aW.mp (E e pre rest y) _ (cA (cA hP (hr r m)) hy))⟩
theorem y1 (y:I) (_:n0 y):∃ e:T,y∈(fun y (_:T)=>[y]) y e:=⟨[],.head _⟩
abbrev VF (p t s b:Nat):List (T×List I):=(fl p).1++((ti t).1++((sz s).1++(me b).1))
theorem QW (hP:P∈YN v1 v2 v3) (hp:p< 16) (ht:t< 3) (hs:s< 3) (hb:b< 2):iv fam tab kn k (VF p t s b) P (P++(fl p).2++(ti t).2++(sz s).2++(me b).2):=
 let ⟨_,m4⟩:=pn jg _
 let ⟨_,m5⟩:=pn eu _
 let ⟨_,m6⟩:=pn jp _
 have m:∀ {n:Nat} {F:Nat->Sl} {p},p< n->∀ r∈(F p).1,(k,r.2,(F p).2)∈rl k ((List.range n).map F):=fun hp j=>rl_m (gI (cE.mpr hp))
 (yj (fun e pre rest y=>se_fl k e pre rest ..) (fun j=>zI) hP (AH (aaa hp)) (m hp)).app ((yj (fun j pre rest y=>se_ti k pre rest ..) y1 (gg hP m4) (AH (aaz ht)) (m ht)).app
  ((yj (fun j pre rest y=>se_sz k pre rest ..) y1 (gg (gg hP m4) m5) (AH (aa3 hs)) (m hs)).app (yj (fun j pre rest y=>se_me k pre rest ..) y1 (gg (gg (gg hP m4) m5) m6) (AH (me_m hb)) (m hb))))
abbrev Dy (h:Sh) (es:List El):List (T×List I):=(tp h).1++(el es).1
theorem Re (hP:P∈QL v4 v5 v6 v7) (hh:h∈HL) (hes:oy (·∈EL h) es):iv fam tab kn h.1 (Dy h es) P (P++(tp h).2++(el es).2):=
 (yj (fun e pre rest y=>se_tp e pre rest ..) (fun j=>zI) hP (AH (ZG hh)) fun r m=>jA.mpr ⟨h,hh,rl_m (.head _) m⟩).app
  (LM (aaA hh hes) fun r m pre y rest j=>match es,hes,m with
  |[],_,m=>(fK m).elim
  |x::es,hes,m=>by
   cases List.mem_singleton.mp m
   have:=er_3 (z:=(P,h)) (pre:=pre) (rest:=y::rest) (kn:=kn) (fam:=fam) (tab:=tab) (k:=h.1) (cA hP hh) (YM hh hes)
   rw [show cb::y::rest=[cb]++y::rest from rfl,<-bM] at this
   exact this)
end
end
section
noncomputable def gP:Ps->I->I
 |[],d=>d
 |x::_,_=>x.2
def U2 (p t:Nat):List T:=match t with
 |0=>CC p
 |_=>match (CC p).any (bU eu) with
  |true=>CC p
  |false=>CC p++[eu]
abbrev Qs:=(Ps×Ps)×(Nat×Nat)×Ps×Ps
def qP (v:I) (o:Nat) (x:Qs):Ps:=match o with
 |0=>[]++[]++[]++[]++((lW,v)::x.1.1)++x.1.2++(fl x.2.1.1).2++(ti x.2.1.2).2++x.2.2.1++x.2.2.2
 |_=>[]++([]++[])++(fl x.2.1.1).2++(ti x.2.1.2).2++x.2.2.1++x.2.2.2++((lW,v)::x.1.1)++x.1.2
def sp (v:I) (x:Qs):I:= .tup [v,gP x.1.1 .none,.tup ((U2 x.2.1.1 x.2.1.2).map .str),gP (ti x.2.1.2).2 (.int 0),gP x.2.2.1 (.int 0),.bool (!x.2.2.2.isEmpty)]
def QS (v1 v2 v3 v4:I):List Qs:=bD (bD (op wl v1) (op eH v2)) (bD (bD (List.range 16) (List.range 3)) (bD (op jp v3) (op qV v4)))
section
variable (k f tab name:T) (pre rest:List I) (kn:List (I×I)) (v v1 v2 v3 v4 x y:I)
def btF (x:Nat×Qs):Option (I×Option aF):=xy ((sq jz (sq jf (sq jj (sq jy (sq js ae))))) (wN k) [.rd pre rest kn (.str f) (.str tab),.dict (nq (qP v x.1 x.2))]).fin
def btG (x:Nat×Qs):Option (I×Option aF):=some (.tup [sp v x.2,gP x.2.1.2 (.tup [])],some (.rd pre rest kn (.str f) (.str tab)))
theorem ZQ:(bD (List.range 2) (QS v1 v2 v3 v4)).map (btF k f tab pre rest kn v)=(bD (List.range 2) (QS v1 v2 v3 v4)).map (btG f tab pre rest kn v):=by kernel_rfl
end
end
section
section
variable {k f tab name:T} {P:Ps} {pre rest:List I} {kn:List (I×I)} {fam tb x:I} {rows:List (T×List I)}
def Of (k:T) (ts:List I) (x fam tab:I):Prop:=∀ pre rest kn,∃ p j,iw [.ref 0,.i (.str k)] [.rd pre (ts++rest) kn fam tab]= .ok (.i x) (.rd p rest kn fam tab::j)
theorem Qu (R:∀ kn,iv (.str f) (.str tab) kn k rows [] P) (hl:(rows.map (·.2)).length< fw) (T:∀ pre rest kn,xy ((sq jz (sq jf (sq jj (sq jy (sq js ae))))) (wN k) [.rd pre rest kn (.str f) (.str tab),.dict (nq P)]).fin=some (x,some (.rd pre rest kn (.str f) (.str tab)))) (d:Nat):Of k (jh d (rows.map (·.2))) x (.str f) (.str tab):=fun pre rest kn=>
 let ⟨p,g⟩:=xz (pre:=pre) (rest:=rest) d (R kn) hl
 let ⟨j,e⟩:=pM (T p rest kn)
 ⟨p,j,H4 rfl ((aM RS.fin ((bc rfl).trans (g _))).trans e)⟩
theorem BU (a:T):bU a a=true:=by
 induction a with
 |nil=>rfl
 |cons c a ih=>show (match Nat.beq c c with |true=>bU a a |false=>false)=true;rw [Nat.beq_refl];exact ih
theorem kn_put {n c:Nat} (h:jX f tab n kn):jX f tab (n+1) (iP kn (.tup [.str f,.str tab,.str [110,c]]) x):=by
 obtain ⟨r,rfl,hl⟩:=h
 refine ⟨iP r (.tup [.str f,.str tab,.str [110,c]]) x,?_,ba (BG _) (gu hl)⟩
 show (match (match bU f f with |true=>(match bU tab tab with |true=>false |false=>false) |false=>false) with |true=>_ |false=>_)=_
 rw [BU,BU]
abbrev Wq (k name:T) (s:I) (es:List I):av:=[some (.ref 0),some (.i (.str aU)),some (.i (.str k)),some (.i (.str name)),some (.i s),some (.i (.tup es))]
def zW (f tab k name:T) (s:I) (es:List I):List I:=ce f tab aU k name s::match es with
 |[]=>[]
 |_::_=>[ce f tab aU ly name (.tup es)]
theorem YA {s a b:I}:[[],[a],[a,b]].map (fun es=>(sq yO (sq yY (sq xS ae))) (Wq k name s es) [.rd pre rest kn (.str f) (.str tab)])=[[],[a],[a,b]].map fun es=> .ok (.ret (.ref 1)) (Wq k name s es++[some (.ref 1)]) [.rd pre rest kn (.str f) (.str tab),.list (zW f tab k name s es)]:=by kernel_rfl
theorem oy.forms {α:Type} {Q:α->Prop} {l:List α} (h:oy Q l) (f:α->I):∃ a b,l.map f∈[[],[a],[a,b]]:=match h with
 | .nil=>⟨.none,.none,.head _⟩
 | .one _=>⟨_,.none,.tail _ (.head _)⟩
 | .two _ _=>⟨_,_,.tail _ (.tail _ (.head _))⟩
theorem st_kn {s:I} {es:List I} (h:kn.length< aJ):y4 (Wq k name s es) [.rd pre rest kn (.str f) (.str tab)]= .ok .nxt (Wq k name s es) [.rd pre rest (iP kn (.tup [.str f,.str tab,.str name]) s) (.str f) (.str tab)]:=by
 show Mh (Nat.blt kn.length aJ) _=_
 rw [show Nat.blt kn.length aJ=true from gp h];rfl
theorem md_set {c c':aF} {m:List I} (hk:k=dO\/k=fS) (h:kP [.ref 0,.i (.str aU),.i (.str k),.i (.str name)] [c]= .ok (.ref 1) [c',.list m]):hO [.ref 0,.i (.str aU),.i (.str k),.i (.str name),.ref 1] [c,WD]=Ek c' m:=by
 have r:=bj (b:=ae) (eZ (cU (as:=[aa 0,aa 1,aa 2,aa 3]) (l:=uZ k name) (σ:=[c,WD]) (vs:=[.ref 0,.i (.str aU),.i (.str k),.i (.str name)]) rfl rfl h rfl))
 have e:∀ {q:RS},sq (al (call kP [aa 0,aa 1,aa 2,aa 3])) ae (uZ k name) [c,WD]=q->q= .ok (.ret (.ref 2)) (uZ k name) [c',WD,.list m]->mQ (uZ k name) [c,WD]=q:=by
  rintro q g rfl
  rcases hk with rfl |rfl
  ·exact aG (iL rfl rfl) (bj (gc rfl g))
  ·exact aG (iL rfl rfl) (bj (gc rfl g))
 exact aM RS.fin (e r rfl)
theorem SD {c:Nat} {ts es:List I} {s:I} (hk:k=dO\/k=fS) (he:∃ a b,es∈[[],[a],[a,b]]) (B:Of k ts (.tup [s,.tup es]) (.str f) (.str tab)):wi f tab [110,c] k ts (zW f tab k [110,c] s es):=fun kn n hn h=>⟨_,kn_put (x:=s) h,fun pre y rest j=>
 let ⟨p,_,g⟩:=B pre (y::rest) kn
 let ⟨_,_,m⟩:=he
 have hl:kn.length< aJ:=let ⟨r,e,hl⟩:=h;e▸ba (gu (gu (ba hl hn))) (aI rfl)
 ⟨p,md_set hk (du rfl (aG ((rJ (kw (r:=[]) (vs:=[.str k]) g rfl)).trans rfl) (aG (st_kn hl) (aW.mp YA es m))))⟩⟩
end
end
section
noncomputable abbrev Z4:=(Nat×Nat)×Nat×Nat
def ZL:List Z4:=bD (bD (List.range 16) (List.range 3)) (bD (List.range 3) (List.range 2))
abbrev zR (z:Z4):List (T×List I):=VF z.1.1 z.1.2 z.2.1 z.2.2
noncomputable abbrev zD (z:Z4) (ds:Ds):Ds:=(z.1.1,16)::(z.1.2,3)::(z.2.1,3)::(z.2.2,2)::ds
abbrev zS (z:Z4) (a b:I):I:= .tup [a,b,.tup ((U2 z.1.1 z.1.2).map .str),gP (ti z.1.2).2 (.int 0),gP (sz z.2.1).2 (.int 0),.bool (!(me z.2.2).2.isEmpty)]
abbrev gJ (p:Nat):ai:=match CC p with
 |[]=>[.list []]
 |l=>[.list [],.list (l.reverse.map .str)]
def nS (p:Nat):Nat:=(gJ p).length+2
noncomputable abbrev l4 (f tab name:T) (tl:av):av:=some (.ref 0)::some (.i (.str f))::some (.i (.str tab))::some (.i (.str name))::tl
abbrev l8 (f tab name k:T) (a b:I) (hd:T) (tl:av):av:=l4 f tab name (some (.i (.str k))::some (.i a)::some (.i b)::some (.i (.str hd))::tl)
abbrev Z3 (z:Z4) (n:Nat) (tl:av):av:=some (.i (.int (.ofNat z.1.1)))::some (.ref 1)::none::none::some (.i (gP (ti z.1.2).2 (.int 0)))::some (.i (gP (sz z.2.1).2 (.int 0)))::some (.i (.bool (!(me z.2.2).2.isEmpty)))::some (.ref n)::tl
abbrev Ey (h:Sh):T:=(FA++bA Bp h.2.1)++h.2.2.1.2.2.1
def mj (L:List I):Ex:=af au (aZ [aa 7]) (match L with |[]=>aZ [] |_::_=>aZ [aa 16])
def mdSx (L:List I):Sx:=match L with
 |[]=>ae
 |_::_=>sq sP ae
noncomputable def vH (hd text:T):List I->List I
 |[]=>[.str hd]
 |_::_=>[.str hd,.str text]
noncomputable def Ss (o:Nat) (a b:List I):List I:=match o with
 |0=>a++b
 |_=>b++a
section
variable (f tab name k hd text:T) (a b x:I) (r:List I) (ds:Ds) (R:Sx)
def laF (h:Sh):RS:=(sq zy (sq yz (sq zl (sq yZ (sq y0 R))))) (l4 f tab name []) [.list [.dig (h.2.2.2++ds)]]
def laG (h:Sh):RS:=R (l8 f tab name h.1 (oL h.2.1) h.2.2.1.1 (Ey h) []) [.list [.dig ds]]
theorem la_all:HL.map (laF f tab name ds R)=HL.map (laG f tab name ds R):=by kernel_rfl
def lbF (z:Z4):RS:=(sq zr (sq yd (sq zB (sq zm (sq yH (sq wM (sq wO (sq wF (sq wG R))))))))) (l8 f tab name k a b hd []) [.list [.dig (zD z ds)]]
def lbG (z:Z4):RS:=R (l8 f tab name k a b hd (Z3 z (nS z.1.1) [])) (.list [.dig ds]:: .list ((CC z.1.1).map .str)::(gJ z.1.1++[.list (gf (zR z))]))
theorem lb_all:ZL.map (lbF f tab name k hd a b ds R)=ZL.map (lbG f tab name k hd a b ds R):=by kernel_rfl
abbrev l20 (z:Z4) (n:Nat) (L:List I) (tl:av):av:=l8 f tab name k a b hd (Z3 z n (some (.i (.str text))::some (.i (.tup L))::tl))
abbrev ZP (y:(Nat×List I)×Z4) (m:List I):ai:= .list [.dig ds]:: .list ((U2 y.2.1.1 y.2.1.2).map .str)::(gJ y.2.1.1++[.list (gf (zR y.2)),.list [.str hd],.list (vH hd text y.1.2).tail,.list (vH hd text y.1.2),.list (Ss y.1.1 (vH hd text y.1.2) (gf (zR y.2))),.list m])
abbrev Vk (z:Z4) (L:List I):av:=l20 f tab name k hd text a b z (nS z.1.1+4) L [some (.ref (nS z.1.1+3)),some (.ref (nS z.1.1+5))]
def ldF (y:(Nat×List I)×Z4):RS×RS:=((sq (set 18 (mj y.1.2)) (sq wP (sq wB (sq wJ R)))) (l20 f tab name k hd text a b y.2 (nS y.2.1.1) y.1.2 []) (.list [.dig ((y.1.1,2)::ds)]:: .list ((CC y.2.1.1).map .str)::(gJ y.2.1.1++[.list (gf (zR y.2))])),
 mdSx y.1.2 (Vk f tab name k hd text a b y.2 y.1.2) (ZP hd text ds y [ce f tab aU k name (zS y.2 a b)]))
def ldG (y:(Nat×List I)×Z4):RS×RS:=(R (Vk f tab name k hd text a b y.2 y.1.2) (ZP hd text ds y [ce f tab aU k name (zS y.2 a b)]),.ok .nxt (Vk f tab name k hd text a b y.2 y.1.2) (ZP hd text ds y (zW f tab k name (zS y.2 a b) y.1.2)))
theorem ld_all:(bD (bD (List.range 2) [[],x::r]) ZL).map (ldF f tab name k hd text a b ds R)=(bD (bD (List.range 2) [[],x::r]) ZL).map (ldG f tab name k hd text a b ds R):=by kernel_rfl
end
end
section
abbrev Q:=Sh×Z4×List El×Nat
structure AO (q:Q):Prop where
 h:q.1∈HL
 z:q.2.1∈ZL
 e:oy (·∈EL q.1) q.2.2.1
 o:q.2.2.2< 2
abbrev qL (q:Q):List I:=q.2.2.1.map gF
noncomputable def Ta (o:Nat) (a b:List (T×List I)):List (T×List I):=match o with
 |0=>a++b
 |_=>b++a
abbrev sT (q:Q):List (T×List I):=Ta q.2.2.2 (Dy q.1 q.2.2.1) (zR q.2.1)
abbrev qS (q:Q):I:=zS q.2.1 (oL q.1.2.1) q.1.2.2.1.1
abbrev qD (q:Q) (ds:Ds):Ds:=q.1.2.2.2++zD q.2.1 (Qn q.2.2.1 ((q.2.2.2,2)::ds))
abbrev En (f tab name:T) (q:Q):List I:=zW f tab q.1.1 name (qS q) (qL q)
abbrev Nw (name:T) (q:Q) (d:Nat):T:=((q.1.1++eI)++name)++32::iM d ((sT q).map (·.1))
section
variable {f tab name:T} {q:Q} {ds:Ds} {c d:Nat}
theorem Ig {z:Z4} (h:z∈ZL):z.1.1< 16/\z.1.2< 3/\z.2.1< 3/\z.2.2< 2:=by
 have g:=aW.mp (show ZL.map (fun z=>Nat.blt z.1.1 16 && (Nat.blt z.1.2 3 && (Nat.blt z.2.1 3 && Nat.blt z.2.2 2)))=ZL.map fun j=>true by kernel_rfl) z h
 have a:=cp.mp g
 have b:=cp.mp a.2
 have c:=cp.mp b.2
 exact ⟨aI a.1,aI b.1,aI c.1,aI c.2⟩
theorem Dh {h:Sh} (hh:h∈HL):h.1=dO\/h.1=fS:=by
 rcases List.mem_append.mp hh with m |m
 ·obtain ⟨_,_,rfl⟩:=cZ.mp m;exact .inl rfl
 ·obtain ⟨_,_,m⟩:=jA.mp m
  obtain ⟨_,_,rfl⟩:=cZ.mp m;exact .inr rfl
def yM (n:Nat) (a:List (T×List I)):Prop:=a.length<=n/\∀ r∈a,ZX r
theorem yM.app {a b:List (T×List I)} {m n:Nat} (h:yM m a) (k:yM n b):yM (m+n) (a++b):=⟨bd▸d8 h.1 k.1,fun r m=>(jv.mp m).elim (h.2 r) (k.2 r)⟩
theorem yM.ord {a b:List (T×List I)} {m n o:Nat} (h:yM m a) (k:yM n b):yM (m+n) (Ta o a b):=by
 cases o with
 |zero=>exact h.app k
 |succ=>exact lQ n m▸k.app h
theorem MF.s {x:Sl} (h:MF x):yM 1 x.1:=⟨match x,h.1 with
  |([],_),_=>dI _
  |([_],_),_=>cR _,h.2⟩
theorem Iv (h:AO q):yM 6 (sT q):=
 have ⟨h1,h2,h3,h4⟩:=Ig h.z
 (show yM (2+4) _ from ((AH (ZG h.h)).s.app (aaA h.h h.e).s).ord ((AH (aaa h1)).s.app ((AH (aaz h2)).s.app ((AH (aa3 h3)).s.app (AH (me_m h4)).s))))
theorem sq_eq {a a' b:Sx} {l:av} {σ:ai} (h:a l σ=a' l σ):sq a b l σ=sq a' b l σ:=by unfold sq;rw [h]
theorem Cv {c:Tx} {a b:Ex} {l:av} {σ:ai} {q:Bool} (h:c l σ= .ok q σ):dj c a b l σ=(match q with |true=>a |false=>b) l σ:=by
 show (c l σ).bind _=_
 rw [h]
 cases q<;>rfl
theorem O0 {L:List I} {e:Ex} {l:av} {σ:ai} (h:bS 12 (.tup L)=true) (he:e l σ= .ok (.i (.tup L)) σ):aj cM e (ah []) l σ= .ok (!L.isEmpty) σ:=by
 show (e l σ).bind _=_
 rw [he]
 show notB (eq3 σ (bS 12 (.tup L)) true (uS 12 (.tup L) (.tup [])))=_
 rw [h]
 cases L<;>rfl
theorem q15_eq {L:List I} {l:av} {σ:ai} (h:bS 12 (.tup L)=true) (hl:bN l 17=some (.i (.tup L))):wD l σ=set 18 (mj L) l σ:=by
 have e:∀ σ,dj (aj cM (aa 17) (ah [])) (aZ [aa 16]) (aZ []) l σ=(match L with |[]=>aZ [] |_::_=>aZ [aa 16]) l σ:=fun σ=>(Cv (O0 h (jD hl))).trans (by cases L<;>rfl)
 exact aM (fun (f:V->ai->RE V)=>((aZ [aa 7] l σ).bind f).bindS fun v σ=> .ok .nxt (bK l 18 v) σ) (funext fun u=>funext fun σ=>aM (fun r:RE V=>r.bind fun v σ=>au u v σ) (e σ))
theorem Y7 {L:List I} {l:av} {σ:ai} (h:bS 12 (.tup L)=true) (hl:bN l 17=some (.i (.tup L))):wC l σ=mdSx L l σ:=by
 have c:=O0 (σ:=σ) h (jD hl)
 cases L with
 |nil=>exact iL c rfl
 |cons=>exact gc c rfl
theorem YG {G:ai} {c0 c0' c1 x1 x2 x3 x4:aF} {j:ai} {l:av} {hd t:T} {rows m:List I} (hG:(∃ a,G=[a])\/∃ a b,G=[a,b]) (e0:∀ σ,cS [af au (af au (aa 4) (cs eI)) (aa 3),aa 15,aa 0] l σ= .ok [.i (.str hd),.ref (G.length+6),.ref 0] σ) (e1:∀ σ,aa 19 l σ= .ok (.ref (G.length+7)) σ)
  (g:cB [.i (.str hd),.ref 0,.ref 1] [.list rows,c0]= .ok (.i (.str t)) (.list rows::c0'::j)):wR l (c0::c1::(G++[x1,x2,x3,x4,.list rows,.list m]))= .ok (.ret (.pr (.str t) (G.length+7))) l (c0'::c1::(G++[x1,x2,x3,x4,.list rows,.list m]))/\aP (c0'::c1::(G++[x1,x2,x3,x4,.list rows,.list m])) (G.length+7)=some (.list m):=by
 rcases hG with ⟨a,rfl⟩ |⟨a,b,rfl⟩
 ·exact ⟨eZ (hX (bk (cU (e0 _) rfl g (aM (RE.ok _) (pb _ j))) (bk (e1 _) rfl)) rfl),rfl⟩
 ·exact ⟨eZ (hX (bk (cU (e0 _) rfl g (aM (RE.ok _) (pb _ j))) (bk (e1 _) rfl)) rfl),rfl⟩
theorem gJ_cs (p:Nat):(∃ a,gJ p=[a])\/∃ a b,gJ p=[a,b]:=by
 unfold gJ
 cases CC p with
 |nil=>exact .inl ⟨_,rfl⟩
 |cons=>exact .inr ⟨_,_,rfl⟩
theorem X7 {a b:List (T×List I)}:gf a++gf b=gf (a++b):=by
 show _=((a++b).map (·.1)).map I.str
 rw [iQ,iQ]
theorem X9 {a b:List (T×List I)} {o:Nat}:Ss o (gf a) (gf b)=gf (Ta o a b):=by cases o<;>exact X7
theorem YH {h:Sh} {es:List El}:vH (Ey h) (qo es) (es.map gF)=gf (Dy h es):=by cases es<;>rfl
end
end
section
section
variable {f tab name k:T} {q:Q} {c d:Nat}
theorem OE (h:AO q):bS 12 (.tup (qL q))=true/\bS 11 (.tup (qL q))=true:=by
 have g:=fun e m=>cp.mp (RM h.h (h.e.all.2 e m)).2.1
 exact ⟨Em.mpr fun x m=>(cZ.mp m).elim fun e k=>k.2▸(g e k.1).2,Em.mpr fun x m=>(cZ.mp m).elim fun e k=>k.2▸(g e k.1).1⟩
theorem ZI {a b:I} {z:Z4} {hd:T} {n:Nat} {tl:av} (hk:k=dO\/k=fS) (σ:ai):cS [af au (af au (aa 4) (cs eI)) (aa 3),aa 15,aa 0] (l8 f tab [110,c] k a b hd (Z3 z n tl)) σ= .ok [.i (.str ((k++eI)++[110,c])),.ref n,.ref 0] σ:=by
 rcases hk with rfl |rfl<;>rfl
theorem UH (hk:k=dO\/k=fS):((k++eI)++[110,c]).length<=200:=by
 rcases hk with rfl |rfl<;>exact aI rfl
def SetP (f tab:T) (c d:Nat) (q:Q):Prop:=∃ k σ,pC [.ref 0,.i (.str f),.i (.str tab),.i (.str [110,c])] [.list [.dig (qD q [(d,3)])]]= .ok (.pr (.str (Nw [110,c] q d)) (k+1)) σ/\aP σ (k+1)=some (.list (En f tab [110,c] q))
theorem QT (h:AO q) (hd:d< 3):SetP f tab c d q:=by
 obtain ⟨j,g⟩:=SK (ds:=(q.2.2.2,2)::[(d,3)]) h.h h.e
 have R:=Iv h
 obtain ⟨j',b⟩:=yx (ds:=[]) (rows:=(sT q).map (·.1)) hd (UH (Dh h.h)) (cD (as:=sT q) _▸ba R.1 (aI rfl)) (mA fun r m=>ba (R.2 r m).2.1 (aI rfl))
 have O:Ss q.2.2.2 (vH (Ey q.1) (qo q.2.2.1) (qL q)) (gf (zR q.2.1))=((sT q).map (·.1)).map .str:=by rw [YH];exact X9
 rw [<-O] at b
 have hm:∃ x r,qL q∈[[],x::r]:=by
  unfold qL
  cases q.2.2.1 with
  |nil=>exact ⟨.none,[],.head _⟩
  |cons=>exact ⟨_,_,.tail _ (.head _)⟩
 obtain ⟨x,r,hm⟩:=hm
 have D:=fun R=>aT (aW.mp (ld_all f tab [110,c] q.1.1 (Ey q.1) (qo q.2.2.1) (oL q.1.2.1) q.1.2.2.1.1 x r [(d,3)] R) ((q.2.2.2,qL q),q.2.1) (cA (cA (cE.mpr h.o) hm) h.z))
 have E:=YG (l:=Vk f tab [110,c] q.1.1 (Ey q.1) (qo q.2.2.1) (oL q.1.2.1) q.1.2.2.1.1 q.2.1 (qL q)) (m:=En f tab [110,c] q) (c1:= .list ((U2 q.2.1.1.1 q.2.1.1.2).map .str)) (x1:= .list (gf (zR q.2.1))) (x2:= .list [.str (Ey q.1)]) (x3:= .list (vH (Ey q.1) (qo q.2.2.1) (qL q)).tail) (x4:= .list (vH (Ey q.1) (qo q.2.2.1) (qL q))) (gJ_cs q.2.1.1.1) (ZI (Dh h.h)) (fun u=>rfl) b
 refine ⟨_,_,du rfl ((aW.mp (la_all f tab [110,c] _ _) q.1 h.h).trans ((aW.mp (lb_all f tab [110,c] q.1.1 (Ey q.1) (oL q.1.2.1) q.1.2.2.1.1 (Qn q.2.2.1 ((q.2.2.2,2)::[(d,3)])) _) q.2.1 h.z).trans (aG ?_ ((sq_eq (q15_eq (OE h).1 rfl)).trans ((D _).1.trans (aG ((Y7 (OE h).1 rfl).trans (D ae).2) (bj E.1))))))),E.2⟩
 exact (rJ (cU (vs:=[.ref 0,.i (oL q.1.2.1),.i q.1.2.2.1.1]) rfl rfl g (aM (RE.ok _) (pb _ j)))).trans rfl
end
end
section
section
variable {f tab name k:T} {q:Q} {c d:Nat}
theorem VW (h:Sh):∃ v,I8 h∈op wl v:=pn ..
theorem V7 (es:List El):∃ v,(el es).2∈op eH v:=pn ..
theorem op_fl (p:Nat):∃ v,(fl p).2∈op jg v:=pn ..
theorem op_ti (p:Nat):∃ v,(ti p).2∈op eu v:=pn ..
theorem Wg (p:Nat):∃ v,(sz p).2∈op jp v:=pn ..
theorem VQ (p:Nat):∃ v,(me p).2∈op qV v:=pn ..
def qP' (q:Q):Ps:=qP (oL q.1.2.1) q.2.2.2 ((I8 q.1,(el q.2.2.1).2),q.2.1.1,(sz q.2.1.2.1).2,(me q.2.1.2.2).2)
theorem o_0 {v:I}:[]++[]++[]++[]∈QL v v v v:=gg (gg (gg Cd Cd) Cd) Cd
theorem XS {h:Sh} {z:Z4} {es:List El} (k:AO (h,z,es,0)) {fam tab:I} {kn:List (I×I)}:iv fam tab kn h.1 (Dy h es++zR z) [] (qP' (h,z,es,0)):=
 have ⟨h1,h2,h3,h4⟩:=Ig k.z
 (VW h).elim fun j m1=>(V7 es).elim fun j m2=>(Re (P:=[]++[]++[]++[]) (o_0 (v:= .none)) k.h k.e).app (QW (P:=[(lW,oL h.2.1)]++(I8 h++(el es).2)) (gg op_1 (gg m1 m2)) h1 h2 h3 h4)
theorem WR {h:Sh} {z:Z4} {es:List El} {o:Nat} (k:AO (h,z,es,o)) {fam tab:I} {kn:List (I×I)}:iv fam tab kn h.1 (zR z++Dy h es) [] (qP' (h,z,es,1)):=
 have ⟨h1,h2,h3,h4⟩:=Ig k.z
 (op_fl z.1.1).elim fun j m4=>(op_ti z.1.2).elim fun j m5=>(Wg z.2.1).elim fun j m6=>(VQ z.2.2).elim fun j m7=>
  (QW (P:=[]++([]++[])) (gg (Cd (v:= .none)) (gg (Cd (v:= .none)) (Cd (v:= .none)))) h1 h2 h3 h4).app (Re (P:=(fl z.1.1).2++(ti z.1.2).2++(sz z.2.1).2++(me z.2.2).2) (gg (gg (gg m4 m5) m6) m7) k.h k.e)
theorem Ya (k:AO q) {fam tab:I} {kn:List (I×I)}:iv fam tab kn q.1.1 (sT q) [] (qP' q):=match q,k with
 |(_,_,_,0),k=>XS k
 |(_,_,_,_+1),k=>WR k
theorem pc_6 {ds:Ds} (R:Sx):(sq mq (sq mz R)) [some (.i (.num ((6,7)::ds))),some (.i (.str f)),some (.i (.str tab)),some (.i (.str name))] []=R (UY f tab name ds 6) [.list [.dig ds]]:=by kernel_rfl
theorem gP_da (h:Sh):gP (I8 h) .none=h.2.2.1.1:=by
 unfold I8
 generalize h.2.2.1.1=x
 cases x<;>rfl
theorem gP_el (es:List El):gP (el es).2 (.tup [])= .tup (es.map gF):=by cases es<;>rfl
theorem aad (h:AO q) (d:Nat):Of q.1.1 (jh d ((sT q).map (·.2))) (.tup [qS q,.tup (qL q)]) (.str f) (.str tab):=by
 have ⟨h1,h2,_,_⟩:=Ig h.z
 obtain ⟨_,m1⟩:=VW q.1
 obtain ⟨_,m2⟩:=V7 q.2.2.1
 obtain ⟨_,m6⟩:=Wg q.2.1.2.1
 obtain ⟨_,m7⟩:=VQ q.2.1.2.2
 have T:=fun pre rest kn=>aW.mp (ZQ q.1.1 f tab pre rest kn (oL q.1.2.1) ..) (q.2.2.2,((I8 q.1,(el q.2.2.1).2),q.2.1.1,(sz q.2.1.2.1).2,(me q.2.1.2.2).2)) (cA (cE.mpr h.o) (cA (cA m1 m2) (cA (cA (cE.mpr h1) (cE.mpr h2)) (cA m6 m7))))
 unfold btG sp at T
 have B:=Qu (fun j=>Ya h) (cD (as:=sT q) _▸eM (Iv h).1 (aI rfl)) T d
 dsimp only at B
 rw [gP_da,gP_el] at B
 exact B
theorem LL:HL.map (fun h=>(tM (h.1++eI),Eg (match bU h.1 dO with |true=>6 |false=>7),bS 10 (oL h.2.1) && bS 10 h.2.2.1.1,Mu h.1))=HL.map fun h=>(some [wd h.1],(h.1,[wd h.1]),true,true):=by kernel_rfl
theorem Yn:ZL.map (fun z=>bS 11 (zS z .none .none))=ZL.map fun j=>true:=by kernel_rfl
theorem aaj (h:AO q):(En f tab name q).length<=3/\∀ c∈En f tab name q,za c:=by
 have g:=(aT (aT (aW.mp LL q.1 h.h)).2).2
 have g2:=aT g
 have a:=cp.mp g2.1
 have e:(Mu q.1.1 && (bS 10 (oL q.1.2.1) && (bS 10 q.1.2.2.1.1 && bS 11 (zS q.2.1 .none .none))))=true:=by
  rw [g2.2,a.1,a.2,aW.mp Yn q.2.1 h.z];rfl
 have e2:∀ L,bS 11 (.tup L)=true->(zW f tab q.1.1 name (qS q) L).length<=3/\∀ c∈zW f tab q.1.1 name (qS q) L,za c:=fun L hL=>match L,hL with
  |[],_=>⟨ib 1 2,fun j m=>cY.mp m▸xQ e⟩
  |_::_,hL=>⟨iD 2,b9.mpr ⟨xQ e,fun j m=>cY.mp m▸xQ hL⟩⟩
 exact e2 _ (OE h).2
theorem Rb (hn:toks [110,c]=some [wd [110,c]]) (h:AO q):fq f tab [110,c] (Nw [110,c] q d) (En f tab [110,c] q):=by
 have g:=aT (aW.mp LL q.1 h.h)
 have g1:=(aT g.2).1
 have R:=Iv h
 have bl:=uE (d:=d) (mA (B:=300) fun r m=>(R.2 r m).2.1)
 rw [cD] at bl
 have cm:=aaj (f:=f) (tab:=tab) (name:=[110,c]) h
 refine ⟨?_,cm.1,cm.2,(q.1.1,[wd q.1.1]),g1▸yy (by cases bU q.1.1 dO<;>exact aI rfl),_,?_,SD (Dh h.h) (h.e.forms gF) (aad h d)⟩
 ·rw [bd]
  exact ba (d8 (UH (Dh h.h)) (gu (ba bl (fU (CD _ R.1) 4)))) (aI rfl)
 ·unfold Nw
  rw [bM]
  exact qf g.1 hn (DZ d fun r m=>(R.2 r m).1).rd
end
theorem aaK {fam tab name:T} (hn:lM name) (N:Int) (hN:N.fmod 7=6):qC fam tab name N:=by
 obtain ⟨c,rfl,hc⟩:=uL hn
 obtain ⟨h,hh,N1,h1⟩:=cov_H (N.fdiv 7)
 obtain ⟨p,hp,e1⟩:=bG N1 (m:=16) (bf _)
 obtain ⟨t,ht,e2⟩:=bG (N1.fdiv 16) (m:=3) (bf _)
 obtain ⟨s,hs,e3⟩:=bG ((N1.fdiv 16).fdiv 3) (m:=3) (bf _)
 obtain ⟨b,hb,e4⟩:=bG (((N1.fdiv 16).fdiv 3).fdiv 3) (m:=2) (bf _)
 obtain ⟨es,N2,hes,h2⟩:=Z7 hh ((((N1.fdiv 16).fdiv 3).fdiv 3).fdiv 2)
 obtain ⟨o,ho,e5⟩:=bG N2 (m:=2) (bf _)
 obtain ⟨d,hd,e6⟩:=bG (N2.fdiv 2) (m:=3) (bf _)
 have q:AO (h,((p,t),s,b),es,o):=⟨hh,cA (cA (cE.mpr hp) (cE.mpr ht)) (cA (cE.mpr hs) (cE.mpr hb)),hes,ho⟩
 obtain ⟨k,σ,g,hc'⟩:=QT (f:=fam) (tab:=tab) (c:=c) q hd
 obtain ⟨cl,g⟩:=Jz (fun g=>(pc_6 _).trans (aG (iL rfl rfl) (bj (gc rfl (bj (eZ g)))))) g hc'
 exact ⟨(6,7)::qD (h,((p,t),s,b),es,o) [(d,3)],_,⟨bf _,hN,h1.app ⟨bf _,e1,bf _,e2,bf _,e3,bf _,e4,h2 ((o,2)::[(d,3)]) _ ⟨bf _,e5,bf _,e6,rfl⟩⟩⟩,_,_,_,g,Rb hc q⟩
theorem SM {fam tab name:T} (hf:EM fam) (hn:lM name) (N:Int):qC fam tab name N:=by
 obtain ⟨w,hw,e⟩:=bG N (m:=7) (bf _)
 exact match w,hw,e with
  |0,_,e=>Jv hn (w:=0) (bf _) N e
  |1,_,e=>Jv hn (w:=1) (aI rfl) N e
  |2,_,e=>Jv hn (w:=2) (aI rfl) N e
  |3,_,e=>ZR hf hn N e
  |4,_,e=>XG hf hn N e
  |5,_,e=>S4 hf hn N e
  |6,_,e=>aaK hn N e
  |_+7,h,_=>absurd h (EC (ib 7 _))
end
section
section
variable (pre rest:List I) (kn:List (I×I)) (fam tab:I)
theorem LN:(List.range 1000).map (fun n=>(dp [.ref 0] [.rd pre (wd (cF n)::rest) kn fam tab],toks (cF n),Nat.ble (cF n).length 3))=
  (List.range 1000).map fun n=>(.ok (.i (.int (.ofNat n))) [.rd (wd (cF n)::pre) rest kn fam tab],some [wd (cF n)],true):=by kernel_rfl
end
end
section
def tabL:List T:=[Fu,FV,Bg]
def FT:List (T×T):=bD oc tabL
def Y3 (e:T):List I:=[.tk fE e,lE]
def D0 (y:I):Prop:=∃ e,y∈Y3 e
noncomputable def aaV (r:RE V):Option (I×Option aF×Option aF):=match r with
 | .ok (.i x) σ=>some (x,σ[0]?,σ[1]?)
 |_=>none
theorem WB {r:RE V} {x:I} {c d:aF} (h:aaV r=some (x,some c,some d)):∃ j,r= .ok (.i x) (c::d::j):=by
 cases r with
 |ok v σ=>cases v with
  |i=>cases σ with
   |nil=>exact jc (aM (fun x=>x.2.1) (bO h))
   |cons a σ=>cases σ with
    |nil=>exact jc (aM (fun x=>x.2.2) (bO h))
    |cons b σ=>
     have e:=aT (bO h)
     have e2:=aT e.2
     exact ⟨σ,by rw [e.1,bO e2.1,bO e2.2]⟩
  |_=>exact jc h
 |_=>exact jc h
noncomputable abbrev sJ (s:T) (n:Nat):I:= .tup [.str s,.int (.ofNat n)]
noncomputable abbrev Gy (r:Rl) (p:I):I:= .tup [r.2.2.1,.str r.2.2.2,p]
def LV (verb:T) (ts:List I) (ab fam tab:I):Prop:=∀ pre y rest kn,D0 y->∃ p j,eY [.ref 0,.i (.str verb),.ref 1] [.rd pre (ts++y::rest) kn fam tab,WD]= .ok (.i ab) (.rd p (y::rest) kn fam tab::WD::j)
noncomputable abbrev Et (verb:T) (p:I) (tl:av):av:=some (.ref 0)::some (.i (.str verb))::some (.ref 1)::some (.i p)::tl
section
variable (e verb:T) (pre rest u:List I) (kn:List (I×I)) (fam tab p x:I) (R:Sx)
def reF (z:((T×av)×Rl)×I):Option (I×Option aF×Option aF):=aaV ((sq lX (sq lT (sq lR ae))) (Et z.1.1.1 p z.1.1.2) [.rd pre (z.1.2.2.1++z.2::rest) kn fam tab,WD]).fin
def reG (z:((T×av)×Rl)×I):Option (I×Option aF×Option aF):=some (Gy z.1.2 p,some (.rd (z.1.2.2.1.reverse++pre) (z.2::rest) kn fam tab),some WD)
def VL:List (T×av):=[(aU,[]),(aU,[some (.i x)]),(mE,[some (.i x)]),(kH,[])]
theorem re_all:(bD (bD (VL x) rL) (Y3 e)).map (reF pre rest kn fam tab p)=(bD (bD (VL x) rL) (Y3 e)).map (reG pre rest kn fam tab p):=by kernel_rfl
def ra0F (z:Rl×I):RS:=(sq ip (sq ij R)) [some (.ref 0),some (.i (.str aU)),some (.ref 1)] [.rd pre (z.1.2.1++z.2::rest) kn fam tab,WD]
def ra0G (z:Rl×I):RS:=R (Et aU (sJ aQ 0) []) [.rd pre (z.1.2.1++z.2::rest) kn fam tab,WD]
theorem W6:(bD rL (Y3 e)).map (ra0F pre rest kn fam tab R)=(bD rL (Y3 e)).map (ra0G pre rest kn fam tab R):=by kernel_rfl
abbrev W3:=T×T×T
def WL:List W3:=[(mE,rY,rY),(aU,Bh,e9)]
def raF (z:W3):RE Bool×RS:=(aj cM (call fW [aa 0,ah [cs e9,cs Bh,cs rY]]) (cs aQ) (Et z.1 (sJ aQ 0) []) [.rd pre (wd z.2.1::u) kn fam tab,WD],(sq jb (sq ja R)) (Et z.1 (sJ aQ 0) []) [.rd pre (wd z.2.1::u) kn fam tab,WD])
def raG (z:W3):RE Bool×RS:=(.ok true [.rd pre (wd z.2.1::u) kn fam tab,WD],R (Et z.1 (sJ aQ 0) [some (.i (.str z.2.2))]) [.rd (wd z.2.1::pre) u kn fam tab,WD])
theorem ra_all:WL.map (raF pre u kn fam tab R)=WL.map (raG pre u kn fam tab R):=by kernel_rfl
theorem PW:kA (Et verb p []) [.rd pre (wd e9::u) kn fam tab,WD]= .ok .nxt (Et verb p []) [.rd (wd e9::pre) u kn fam tab,WD]:=by kernel_rfl
end
section
variable {e verb:T} {pre rest u:List I} {kn:List (I×I)} {fam tab p x:I} {r:Rl} {n:Nat} {tl:av}
theorem num_ok (hn:n< 1000):∀ {pre rest kn fam tab},dp [.ref 0] [.rd pre (wd (cF n)::rest) kn fam tab]= .ok (.i (.int (.ofNat n))) [.rd (wd (cF n)::pre) rest kn fam tab]:=fun {pre rest kn fam tab}=>(aT (aW.mp (LN pre rest kn fam tab) n (cE.mpr hn))).1
theorem MZ {a:Ex} {l:av} {s:T} (hn:n< 1000) (h0:bN l 0=some (.ref 0)) (ha:∀ σ,a l σ= .ok (.i (.str s)) σ):set 3 (ah [a,call dp [aa 0]]) l [.rd pre (wd (cF n)::u) kn fam tab,WD]= .ok .nxt (bK l 3 (.i (sJ s n))) [.rd (wd (cF n)::pre) u kn fam tab,WD]:=
 dm (hX (bk (ha _) (bk (kw (vs:=[]) (num_ok hn) (bk (jD h0) rfl)) rfl)) rfl)
theorem IZ (hv:(verb,tl)∈VL x) (hr:r∈rL) {y:I} (hy:D0 y) {l0:av} {c0:ai} (h:∀ R,(sq ip (sq ij R)) [some (.ref 0),some (.i (.str verb)),some (.ref 1)] c0=R (Et verb p tl) [.rd pre (r.2.1++y::rest) kn fam tab,WD]):∃ q j,eY [.ref 0,.i (.str verb),.ref 1] c0= .ok (.i (Gy r p)) (.rd q (y::rest) kn fam tab::WD::j):=
 let ⟨e,hy⟩:=hy
 let ⟨j,g⟩:=WB (aW.mp (re_all e pre rest kn fam tab p x) (((verb,tl),r),y) (cA (cA hv hr) hy))
 ⟨_,j,H4 rfl ((aM RS.fin (h _)).trans g)⟩
theorem ru_0 (hr:r∈rL):LV aU r.2.1 (Gy r (sJ aQ 0)) fam tab:=fun pre y rest kn hy=>
 IZ (x:= .none) (.head _) hr hy (l0:=[]) fun R=>hy.elim fun e m=>aW.mp (W6 e pre rest kn fam tab R) (r,y) (cA hr m)
theorem aal {w:W3} (hw:w∈WL) (hv:(w.1,[some (.i (.str w.2.2))])∈VL (.str w.2.2)) (hn:n< 1000) (hr:r∈rL) (h1:∀ σ,aj cJ (aa 1) (ah [cs kH,cs ze,cs jS]) (Et w.1 (sJ aQ 0) []) σ= .ok false σ):LV w.1 (wd w.2.1::wd (cF n)::r.2.1) (Gy r (sJ w.2.2 n)) fam tab:=fun pre y rest kn hy=>
 have g:=fun R=>aT (aW.mp (ra_all pre (wd (cF n)::(r.2.1++y::rest)) kn fam tab R) w hw)
 IZ hv hr hy (l0:=[]) fun R=>aG rfl (aG (iL (h1 _) (aG (gc (g ae).1 ((g _).2.trans (aG (MZ hn rfl fun j=>rfl) rfl))) rfl)) rfl)
theorem ru_2 (hn:n< 1000) (hr:r∈rL):LV kH (wd e9::wd (cF n)::r.2.1) (Gy r (sJ e9 n)) fam tab:=fun pre y rest kn hy=>
 IZ (x:= .none) (.tail _ (.tail _ (.tail _ (.head _)))) hr hy (l0:=[]) fun R=>aG rfl (aG (gc rfl (aG (PW ..) (aG (MZ hn rfl fun j=>rfl) rfl))) rfl)
theorem ru_3 (hn:n< 1000):LV jS [wd e9,wd (cF n)] (.tup [.tup [],.str aQ,sJ e9 n]) fam tab:=fun pre y rest kn hy=>
 ⟨_,[],du rfl (aG rfl (aG (gc rfl (aG (PW ..) (aG (MZ hn rfl fun j=>rfl) rfl))) (bj (gc rfl (bj rfl)))))⟩
end
end
section
def CmdR (fam tab:T) (ts:List I) (cmd:I):Prop:=∀ pre y rest kn n f0 t0,D0 y->n<=20->jX fam tab n kn->∃ pre' fam' tab',ew [.ref 0,.ref 1] [.rd pre (ts++y::rest) kn f0 t0,WD]=Ek (.rd pre' (y::rest) kn fam' tab') [cmd]
structure mT (fam tab text:T) (cmd:I):Prop where
 len:text.length<=400
 okd:bS 12 cmd=true
 rd:∃ s u,Rd text (wd s::u)/\CmdR fam tab (wd s::u) cmd
def zV (fam tab:T) (ds:Ds):Prop:=∃ text cmd j,eC [.i (.num ds),.i (.str fam),.i (.str tab)] []= .ok (.i (.tup [.str text,cmd])) j/\mT fam tab text cmd
def vbT:I:= .tup [.str aU,.str Io,.str mE,.str kH,.str ze,.str jS,.str EX,.str Kl,.str ON]
abbrev Vz (verb name:T) (a:I):av:=[some (.ref 0),some (.ref 1),some (.i vbT),some (.i (.str verb)),some (.i (.str fH)),some (.i (.bool (bU verb aU))),some (.i (.str name)),some (.i a)]
abbrev atT (z:T×T):T:=((z.1++eI)++z.2)++eI
noncomputable abbrev Dcs (w r n:Nat):Ds:=[(w,14),(r,4),(n,1000)]
abbrev AN (z:T×T) (ds:Ds) (w:Nat) (x:I) (n:Nat) (tl:av):av:=some (.i (.num ds))::some (.i (.str z.1))::some (.i (.str z.2))::some (.ref 0)::some (.i (.int (.ofNat w)))::some (.i x)::some (.i (.int (.ofNat n)))::some (.i (.str (atT z)))::tl
section
variable (e:T) (pre rest u:List I) (kn:List (I×I)) (f0 t0 x:I) (ds:Ds) (w n:Nat) (R:Sx)
def chF (z:(T×T)×Rl):RS:=(sq qO (sq rU (sq pY (sq rN (sq qX R))))) [some (.i (.num (Dcs w (ix z.2.1 (rL.map (·.1))) n))),some (.i (.str z.1.1)),some (.i (.str z.1.2))] []
def chG (z:(T×T)×Rl):RS:=R (AN z.1 (Dcs w (ix z.2.1 (rL.map (·.1))) n) w (rI z.2) n []) [.list [.dig []]]
theorem ch_all:(bD FT rL).map (chF w n R)=(bD FT rL).map (chG w n R):=by kernel_rfl
abbrev cdB:Sx:=sq km (sq qG (sq qT (sq qy (sq rD (sq oZ (sq oq (sq oG (sq oK (sq oF (sq oP (sq oH ae)))))))))))
noncomputable def tcOf (r:RE V):T×I:=match r with
 | .ok (.i (.tup [.str t,c])) _=>(t,c)
 |_=>([],.none)
def YR (z:(T×T)×Nat×I):RE V:=(cdB (AN z.1 ds z.2.1 (match z.2.1 with |0=>z.2.2 |_=>x) n []) [.list [.dig []]]).fin
def cx (z:(T×T)×Nat×I):T×I:=tcOf (YR .none [] 0 z)
def G3 (z:(T×T)×Nat×I):List I:=(toks (cx z).1).getD []
def Qf (z:T×T) (r:List (I×I)):List (I×I):=(.tup [.str z.1,.str z.2,.str tG],OD)::r
def yp:List (Nat×I):=rL.map (fun r=>(0,rI r))++(List.range 9).map fun k=>(k+5,.none)
theorem SZ:(bD FT yp).map (fun z=>(xy (YR x ds n z),toks (cx z).1,Nat.ble (cx z).1.length 300 && bS 12 (cx z).2,G3 z))=(bD FT yp).map fun z=>(some (.tup [.str (cx z).1,(cx z).2],some (.list [.dig []])),some (G3 z),true,wd (PD (G3 z))::(G3 z).tail):=by kernel_rfl
def Wn (z:((T×T)×Nat×I)×I):RE V:=ew [.ref 0,.ref 1] [.rd pre (G3 z.1++z.2::rest) (Qf z.1.1 kn) f0 t0,WD]
def We (z:((T×T)×Nat×I)×I):RE V:=Ek (.rd ((G3 z.1).reverse++pre) (z.2::rest) (Qf z.1.1 kn) (match z.1.2.1 with |5=>f0 |13=> .str s0 |_=> .str z.1.1.1) (match z.1.2.1 with |5=>t0 |_=> .str z.1.1.2)) [(cx z.1).2]
theorem cx_r1:((bD (bD FT yp) (Y3 e)).take 160).map (Wn pre rest kn f0 t0)=((bD (bD FT yp) (Y3 e)).take 160).map (We pre rest kn f0 t0):=by kernel_rfl
theorem cx_r2:(((bD (bD FT yp) (Y3 e)).drop 160).take 160).map (Wn pre rest kn f0 t0)=(((bD (bD FT yp) (Y3 e)).drop 160).take 160).map (We pre rest kn f0 t0):=by kernel_rfl
theorem cx_r3:(((bD (bD FT yp) (Y3 e)).drop 160).drop 160).map (Wn pre rest kn f0 t0)=(((bD (bD FT yp) (Y3 e)).drop 160).drop 160).map (We pre rest kn f0 t0):=by kernel_rfl
theorem Mv {α β:Type} {l:List α} {f g:α->β} {n:Nat} (a:(l.take n).map f=(l.take n).map g) (b:(l.drop n).map f=(l.drop n).map g):l.map f=l.map g:=by
 have h:=congr (aM HAppend.hAppend a) b
 rw [<-iQ,<-iQ,List.take_append_drop] at h
 exact h
theorem WF:(bD (bD FT yp) (Y3 e)).map (Wn pre rest kn f0 t0)=(bD (bD FT yp) (Y3 e)).map (We pre rest kn f0 t0):=Mv (cx_r1 ..) (Mv (cx_r2 ..) (cx_r3 ..))
end
end
section
abbrev V3:=Nat×T×T×T×T
def VN:List V3:=[(1,mE,Ub,rY,rY),(2,aU,SO,Bh,e9),(3,kH,TZ,e9,e9)]
abbrev vA (z:(T×T)×V3):T:=((z.2.2.1++Sq)++atT z.1)++Tz
abbrev vW (z:T×T) (v:T):List I:=[wd v,wd fH,wd z.1,wd z.2,wd mn]
abbrev vL (z:(T×T)×V3) (ds:Ds) (x:I) (n:Nat) (tl:av):av:=AN z.1 ds z.2.1 x n (some (.i (.str z.2.2.1))::some (.i (.str z.2.2.2.1))::some (.i (.str z.2.2.2.2.2))::tl)
section
variable (pre u:List I) (kn:List (I×I)) (f0 t0 x:I) (ds:Ds) (n:Nat) (R:Sx) (σ:ai) (text:T)
def vnF (z:(T×T)×V3):(RE Bool×RS×RE V×RE Bool)×Option (List I)×Option (List I)×Bool:=
 ((aj fz (aa 4) (ci 4) (AN z.1 ds z.2.1 x n []) σ,sq nB R (AN z.1 ds z.2.1 x n []) σ,af au (af au (af au (aa 8) (cs Sq)) (aa 7)) (cs Tz) (vL z ds x n []) σ,aj cM (aa 9) (cs aQ) (vL z ds x n []) σ),
  tM (vA z),tM z.2.2.2.1,Nat.ble (vA z).length 100 && Nat.ble z.2.2.2.1.length 20)
def vnG (z:(T×T)×V3):(RE Bool×RS×RE V×RE Bool)×Option (List I)×Option (List I)×Bool:=
 ((.ok true σ,R (vL z ds x n []) σ,.ok (.i (.str (vA z))) σ,.ok true σ),some (vW z.1 z.2.2.1),some [wd z.2.2.2.2.1],true)
theorem vn_all:(bD FT VN).map (vnF x ds n R σ)=(bD FT VN).map (vnG x ds n R σ):=by kernel_rfl
def vtF (z:((T×T)×V3)×Rl):RS×Bool:=(sq nj ae (vL z.1 ds (rI z.2) n [some (.i (.str text))]) σ,bS 12 (ce z.1.1.1 z.1.1.2 z.1.2.2.1 fH mn (Gy z.2 (sJ z.1.2.2.2.2.2 n))))
def vtG (z:((T×T)×V3)×Rl):RS×Bool:=(.ok (.ret (.i (.tup [.str text,ce z.1.1.1 z.1.1.2 z.1.2.2.1 fH mn (Gy z.2 (sJ z.1.2.2.2.2.2 n))]))) (vL z.1 ds (rI z.2) n [some (.i (.str text))]) σ,true)
theorem vt_all:(bD (bD FT VN) rL).map (vtF ds n σ text)=(bD (bD FT VN) rL).map (vtG ds n σ text):=by kernel_rfl
abbrev vD (z:T×T):T:=(TV++atT z)++Sw
def vdF (z:T×T):(RS×RE V)×Option (List I)×Bool:=(((sq km R) (AN z ds 4 x n []) σ,af au (af au (cs TV) (aa 7)) (cs Sw) (AN z ds 4 x n []) σ),tM (vD z),Nat.ble (vD z).length 100)
def vdG (z:T×T):(RS×RE V)×Option (List I)×Bool:=((R (AN z ds 4 x n []) σ,.ok (.i (.str (vD z))) σ),some (vW z jS++[wd e9]),true)
theorem Zj:FT.map (vdF x ds n R σ)=FT.map (vdG x ds n R σ):=by kernel_rfl
def vrF (z:(T×T)×T):RS:=(sq ki (sq j9 (sq jZ (sq jV (sq jR (sq jU (sq jY (sq jW (sq qY (sq rO (sq oE (sq pa R)))))))))))) [some (.ref 0),some (.ref 1)] [.rd pre (vW z.1 z.2++u) kn f0 t0,WD]
def vrG (z:(T×T)×T):RS:=R (Vz z.2 mn (.tup [])) [.rd ((vW z.1 z.2).reverse++pre) u kn (.str z.1.1) (.str z.1.2),WD]
theorem vr_all:(bD FT [mE,aU,kH,jS]).map (vrF pre u kn f0 t0 R)=(bD FT [mE,aU,kH,jS]).map (vrG pre u kn R):=by kernel_rfl
end
section
variable {z:T×T} {v:T} {ts:List I} {ab:I} {n:Nat} {σ:ai}
theorem Mj (hz:z∈FT) (hv:v∈[mE,aU,kH,jS]) (H:LV v ts ab (.str z.1) (.str z.2)):CmdR z.1 z.2 (vW z v++ts) (ce z.1 z.2 v fH mn ab):=fun pre y rest kn q f0 t0 hy q q=>by
 obtain ⟨p,j,g⟩:=H ((vW z v).reverse++pre) y rest kn hy
 have c:oO (Vz v mn (.tup [])) [.rd ((vW z v).reverse++pre) (ts++y::rest) kn (.str z.1) (.str z.2),WD]= .ok .nxt (Vz v mn ab) [.rd p (y::rest) kn (.str z.1) (.str z.2),WD]:=
  gc rfl (aG (dm (cU (vs:=[.ref 0,.i (.str v),.ref 1]) rfl rfl g (aM (RE.ok _) (pb _ j)))) rfl)
 have e:ur [some (.ref 0),some (.ref 1)] [.rd pre (vW z v++(ts++y::rest)) kn f0 t0,WD]= .ok (.ret (.ref 2)) (Vz v mn ab) [.rd p (y::rest) kn (.str z.1) (.str z.2),WD,.list [ce z.1 z.2 v fH mn ab]]:=
  (aW.mp (vr_all pre (ts++y::rest) kn f0 t0 _) (z,v) (cA hz hv)).trans (aG c (bj rfl))
 refine ⟨p,.str z.1,.str z.2,?_⟩
 rw [bM]
 exact aM RS.fin e
theorem Pc {e:Ex} {l:av} (hn:n< 1000) (h:e l σ= .ok (.i (.int (.ofNat n))) σ):un jt e l σ= .ok (.i (.str (cF n))) σ:=by
 show (e l σ).bind _=_
 rw [h]
 show gd (Nat.blt n (10 ^ 100)) _=_
 rw [show Nat.blt n (10 ^ 100)=true from gp (ba hn (aI rfl))];rfl
theorem UW (hn:n< 1000):Rd (cF n) [wd (cF n)]/\(cF n).length<=3:=
 have g:=aT (aT (aW.mp (LN [] [] [] .none .none) n (cE.mpr hn))).2
 ⟨iC g.1,aI g.2⟩
end
end
section
section
variable {z:T×T} {n w:Nat} {r:Rl} {x:I} {text:T} {ts:List I} {cmd:I} {σ:ai} {l':av} {ds:Ds}
abbrev dW (w:Nat) (r:Rl) (n:Nat):Ds:=Dcs w (ix r.1 (rL.map (·.1))) n
theorem Nq (hz:z∈FT) (hr:r∈rL) {j:ai} (h:(cdB (AN z (dW w r n) w (rI r) n []) [.list [.dig []]]).fin= .ok (.i (.tup [.str text,cmd])) j) (k:mT z.1 z.2 text cmd):zV z.1 z.2 (dW w r n):=
 ⟨text,cmd,j,H4 rfl ((aM RS.fin (aW.mp (ch_all w n _) (z,r) (cA hz hr))).trans h),k⟩
theorem Ut {c:Nat×I} (hz:z∈FT) (hr:r∈rL) (hc:c∈yp) (h0:YR (rI r) (dW c.1 r n) n (z,c)=(cdB (AN z (dW c.1 r n) c.1 (rI r) n []) [.list [.dig []]]).fin):zV z.1 z.2 (dW c.1 r n):=by
 have m:=cA hz hc
 have g:=aT (aW.mp (SZ (rI r) (dW c.1 r n) n) _ m)
 have g2:=aT g.2
 have g3:=aT g2.2
 have b:=cp.mp g3.1
 obtain ⟨j,e⟩:=pM g.1
 refine Nq hz hr (h0▸e) ⟨ba (aI b.1) (aI rfl),b.2,PD (G3 (z,c)),(G3 (z,c)).tail,g3.2▸iC g2.1,?_⟩
 rw [<-g3.2]
 intro pre y rest kn n f0 t0 hy _ hk
 obtain ⟨e,hy⟩:=hy
 obtain ⟨q,rfl,_⟩:=hk
 exact ⟨_,_,_,aW.mp (WF e pre rest q f0 t0) ((z,c),y) (cA m hy)⟩
theorem OP {v:V3} (hz:z∈FT) (hr:r∈rL) (hv:v∈VN) (hn:n< 1000) (H:∀ {fam tab},LV v.2.1 (wd v.2.2.2.1::wd (cF n)::r.2.1) (Gy r (sJ v.2.2.2.2 n)) fam tab) (hm:v.2.1∈[mE,aU,kH,jS]):zV z.1 z.2 (dW v.1 r n):=by
 have m:=cA hz hv
 have G:=fun R σ=>aT (aW.mp (vn_all (rI r) (dW v.1 r n) n R σ) _ m)
 have A:=fun R σ=>aT (G R σ).1
 have A2:=fun R σ=>aT (A R σ).2
 have A3:=fun σ=>aT (A2 ae σ).2
 have g2:=aT (G ae []).2
 have g3:=aT g2.2
 have b:=cp.mp g3.2
 have lA:=aI b.1
 have lw:=aI b.2
 have rr:=aT (aW.mp F9 r hr)
 have lr:=aI (aT rr.2).1
 obtain ⟨rn,ln⟩:=UW hn
 have lm:((v.2.2.1++cF n)++eI).length<=24:=by
  rw [bd,bd]
  exact d8 (d8 lw ln) (cR 1)
 have lt:(vA (z,v)++((v.2.2.1++cF n)++eI)).length<=124:=by
  rw [bd]
  exact d8 lA lm
 have lx:((vA (z,v)++((v.2.2.1++cF n)++eI))++r.1).length<=400:=by
  rw [bd]
  exact ba (d8 lt lr) (aI rfl)
 have L:=fun {m k:Nat} (h:m<=k) (h2:Nat.ble k aJ=true)=>ba h (aI h2)
 have V:=fun text=>aT (aW.mp (vt_all (dW v.1 r n) n [.list [.dig []]] text) ((z,v),r) (cA m hr))
 refine Nq hz hr (aM RS.fin (bj (gc (A ae _).1 ((A2 _ _).1.trans (aG (dm (ec (ec (A3 _).1 ((Cv (A3 _).2).trans (ec (ec (jD rfl) (Pc hn rfl) (gj (L lm rfl))) rfl (L lm rfl))) (L lt rfl)) rfl (L lx rfl))) (V _).1))))) ⟨lx,(V []).2,v.2.1,_,((dU g2.1).app (((dU g3.1).appd rn).appc (c:=32) (b:=[]) (dU (ts:=[]) (by kernel_rfl)) rfl)).appd (iC rr.1),Mj hz hm H⟩
theorem vd_at (hz:z∈FT) (hr:r∈rL) (hn:n< 1000):zV z.1 z.2 (dW 4 r n):=by
 have G:=fun R σ=>aT (aW.mp (Zj (rI r) (dW 4 r n) n R σ) z hz)
 have A:=fun R σ=>aT (G R σ).1
 have g2:=aT (G ae []).2
 obtain ⟨rn,ln⟩:=UW hn
 have lx:(vD z++cF n).length<=400:=by
  rw [bd]
  exact ba (d8 (aI g2.2) ln) (aI rfl)
 refine Nq hz hr (aM RS.fin ((A _ _).1.trans (bj (gc rfl (bj (eZ (hX (bk (ec (A ae _).2 (Pc hn rfl) (ba lx (aI rfl))) (bk (v:= .i (ce z.1 z.2 jS fH mn (.tup [.tup [],.str aQ,sJ e9 n]))) rfl rfl)) rfl))))))) ⟨lx,rfl,jS,_,(dU g2.1).appd rn,Mj hz (.tail _ (.tail _ (.tail _ (.head _)))) (ru_3 hn)⟩
end
theorem cmd_ex {z:T×T} (hz:z∈FT) (N:Int):∃ ds N',fN N ds N'/\zV z.1 z.2 ds:=by
 obtain ⟨w,hw,e1⟩:=bG N (m:=14) (bf _)
 obtain ⟨r,hr,N1,h2⟩:=pN (d:=fun r:Rl=>[(ix r.1 (rL.map (·.1)),4)]) (show rL.map _=JJ 4 1 by kernel_rfl) (pQ (bf _) 1) (N.fdiv 14)
 obtain ⟨n,hn,e3⟩:=bG N1 (m:=1000) (bf _)
 have D:fN N (dW w r n) (N1.fdiv 1000):=⟨bf _,e1,h2.1,h2.2.1,(show N1=_ from h2.2.2)▸⟨bf _,e3,rfl⟩⟩
 exact ⟨_,_,D,match w,hw with
  |0,_=>Ut (c:=(0,rI r)) hz hr (AS _ (gI hr)) rfl
  |1,_=>OP (v:=(1,mE,Ub,rY,rY)) hz hr (.head _) hn (aal (w:=(mE,rY,rY)) (.head _) (.tail _ (.tail _ (.head _))) hn hr fun j=>rfl) (.head _)
  |2,_=>OP (v:=(2,aU,SO,Bh,e9)) hz hr (.tail _ (.head _)) hn (aal (w:=(aU,Bh,e9)) (.tail _ (.head _)) (.tail _ (.head _)) hn hr fun j=>rfl) (.tail _ (.head _))
  |3,_=>OP (v:=(3,kH,TZ,e9,e9)) hz hr (.tail _ (.tail _ (.head _))) hn (ru_2 hn hr) (.tail _ (.tail _ (.head _)))
  |4,_=>vd_at hz hr hn
  |k+5,h=>Ut (c:=(k+5,.none)) hz hr (kh _ (cZ.mpr ⟨k,cE.mpr (Nat.lt_of_add_lt_add_right h),rfl⟩)) rfl⟩
end
section
def KL:List T:=[nZ,mu,sZ,il,iG,er,dO,fS,ly,fH]
def RDd:List (I×I):=[(.str er,.int 1),(.str dO,.int 2),(.str fS,.int 2),(.str ly,.int 3),(.str fH,.int 4)]
def MW (k:T):Nat:=match fQ RDd (.str k) with
 |some (.int (.ofNat n))=>n
 |_=>0
def rk:I->Nat
 | .tup (_:: .str k::_)=>MW k
 |_=>0
noncomputable def vF (b:Bool) (c:I):List I:=match b with
 |true=>[c]
 |false=>[]
def iU (r:Nat) (xs:List I):List I:=xs.filter fun c=>Nat.beq (rk c) r
def dk (rs:List Nat) (xs:List I):List I:=rs.flatMap (iU · xs)
theorem UT {k:T} (h:Mu k=true):k∈KL:=by
 obtain ⟨x,m,e⟩:=List.any_eq_true.mp h
 exact Il e▸m
abbrev qQ (xs:List I):Prop:=∀ c∈xs,za c
noncomputable abbrev DR (r:Nat) (tl:av):av:=some (.ref 0)::some (.ref 1)::some (.ref 2)::some (.i (.int (.ofNat r)))::tl
abbrev lS (xs acc:List I):ai:=[.list xs,.dict RDd,.list acc]
abbrev Dx (tl:av):Prop:=∀ v,bK tl 0 v=[some v]
theorem OV:Dx []:=fun j=>rfl
theorem Ic {v:Option V}:Dx [v]:=fun j=>rfl
section
variable {xs acc p q:List I} {r:Nat} {c:I} {f t v k n:T} {ab:I} {σ:ai} {l l':av}
def rcF (f t v n:T) (ab:I) (σ:ai) (z:T×Nat):RE Bool:=aj az (jm (aa 1) (af ag (aa 4) (ci 1)) (ci 0)) (aa 3) (DR z.2 [some (.i (ce f t v z.1 n ab))]) σ
theorem Z9 (xs acc:List I):(bD KL (List.range 5)).map (rcF f t v n ab (lS xs acc))=(bD KL (List.range 5)).map fun z=> .ok (Nat.beq (MW z.1) z.2) (lS xs acc):=by kernel_rfl
theorem IP:iU r (c::q)=vF (Nat.beq (rk c) r) c++iU r q:=by
 unfold iU
 rw [List.filter_cons]
 cases Nat.beq (rk c) r<;>rfl
theorem Ac:(iU r xs).length<=xs.length:=List.length_filter_le ..
theorem U6 {n:Nat} {xs:List I} (hc:aP σ n=some (.list xs)) (e:xs=p++c::q):sK n p.length σ=some (some c):=by
 unfold sK
 rw [hc,e]
 exact aM some ((wz (cR _)).trans (by rw [wr];rfl))
theorem QP {n:Nat} {xs:List I} (hc:aP σ n=some (.list xs)):sK n xs.length σ=some none:=by
 unfold sK
 rw [hc]
 exact aM some (List.getElem?_eq_none (cR _))
theorem Xw (h:za c) (hr:r< 5) (ha:acc.length< aJ):pe (DR r [some (.i c)]) (lS xs acc)= .ok .nxt (DR r [some (.i c)]) (lS xs (acc++vF (Nat.beq (rk c) r) c)):=by
 obtain ⟨f,t,v,k,n,ab,rfl,hk,_⟩:=h
 have e:=aW.mp (Z9 (f:=f) (t:=t) (v:=v) (n:=n) (ab:=ab) xs acc) (k,r) (cA (UT hk) (cE.mpr hr))
 change aj az (jm (aa 1) (af ag (aa 4) (ci 1)) (ci 0)) (aa 3) (DR r [some (.i (ce f t v k n ab))]) (lS xs acc)= .ok (Nat.beq (MW k) r) _ at e
 change _=RS.ok .nxt _ (lS xs (acc++vF (Nat.beq (MW k) r) _))
 cases b:Nat.beq (MW k) r with
 |false=>rw [b] at e;rw [show vF false _=[] from rfl,dT];exact aG (iL e rfl) rfl
 |true=>
  rw [b] at e
  refine aG (gc e (aG (gZ (v:= .i .none) ?_) rfl)) rfl
  show gd (Nat.blt acc.length aJ) _=_
  rw [show Nat.blt acc.length aJ=true from gp ha];rfl
def RkE (xs acc:List I) (r:Nat) (q:List I) (x:RS):Prop:=∃ tl,Dx tl/\x= .ok .nxt (DR r tl) (lS xs (acc++iU r q))
abbrev rkW (n i:Nat):Sx:=iu .bad (fun l σ=> .ok .nxt l σ) (gx [4] pe) 0 n i
theorem XF (hx:qQ xs) (hr:r< 5) (e:xs=p++q) {n:Nat} (hf:q.length< n) {tl:av} (ht:Dx tl) (ha:acc.length+q.length< aJ):RkE xs acc r q (rkW n p.length (DR r tl) (lS xs acc)):=by
 induction q generalizing p n tl acc with
 |nil=>cases n with
  |zero=>exact absurd hf (ie _)
  |succ n=>exact ⟨tl,ht,(z8 (by rw [e,dT];exact QP rfl)).trans (by rw [show iU r []=[] from rfl,dT])⟩
 |cons c q ih=>cases n with
  |zero=>exact absurd hf (ie _)
  |succ n=>
   have b:=Xw (xs:=xs) (acc:=acc) (hx c (e▸kh _ (.head _))) hr (eM (mr _ _) ha)
   have l1:(acc++vF (Nat.beq (rk c) r) c).length+q.length< aJ:=by
    rw [bd]
    refine eM ?_ ha
    show _<=acc.length+(q.length+1)
    rw [mv,lQ q.length]
    exact f7 (fU (by cases Nat.beq (rk c) r;exact dI _;exact cR _) _) _
   obtain ⟨tl',h1,h2⟩:=ih (p:=p++[c]) (acc:=acc++vF (Nat.beq (rk c) r) c) (by rw [bM];exact e) (rt hf) (tl:=[some (.i c)]) Ic l1
   rw [bM,<-IP,bd] at h2
   refine ⟨tl',h1,(pJ (U6 rfl e)).trans ?_⟩
   show (pe (some (.ref 0)::some (.ref 1)::some (.ref 2)::some (.i (.int (.ofNat r)))::bK tl 0 (.i c)) (lS xs acc)).loop _=_
   rw [ht,b]
   exact h2
theorem Qc (hx:qQ xs) (hr:r< 5) {tl:av} (ht:Dx tl) (ha:acc.length+xs.length< aJ) (hl:xs.length< fw):RkE xs acc r xs (jJ (DR r tl) (lS xs acc)):=by
 obtain ⟨tl',h1,h2⟩:=XF (p:=[]) hx hr rfl hl ht ha
 exact ⟨tl',h1,aG ((show uW (DR r tl) (lS xs acc)=rkW fw 0 (DR r tl) (lS xs acc) from rfl).trans h2) rfl⟩
abbrev Tl2 (t2:av):Prop:=∃ tl,Dx tl/\∀ v,bK t2 0 v=some v::tl
noncomputable abbrev UI (t2:av):av:=some (.ref 0)::some (.ref 1)::some (.ref 2)::t2
theorem PP (hx:qQ xs) (hl:xs.length<=9) {rs:List Nat} (hr:∀ r∈rs,r< 5) {t2:av} (h2:Tl2 t2) (ha:acc.length+rs.length*9< aJ):∃ t2',pF (fun l σ=> .ok .nxt l σ) (gx [3] jJ) (rs.map fun r=> .int (.ofNat r)) (UI t2) (lS xs acc)= .ok .nxt (UI t2') (lS xs (acc++dk rs xs)):=by
 induction rs generalizing t2 acc with
 |nil=>exact ⟨t2,by rw [show dk [] xs=[] from rfl,dT];rfl⟩
 |cons r rs ih=>
  obtain ⟨tl,ht,h2⟩:=h2
  have ha:acc.length+9+rs.length*9< aJ:=by rw [Ba,Nat.succ_mul,lQ (_*_),<-mv] at ha;exact ha
  obtain ⟨tl',h3,h4⟩:=Qc (acc:=acc) hx (hr r (.head _)) ht (eM (ba (f7 hl _) (mr _ _)) ha) (eM hl (aI rfl))
  obtain ⟨t2',h5⟩:=ih (acc:=acc++iU r xs) (fun r m=>hr r (.tail _ m)) (t2:=some (.i (.int (.ofNat r)))::tl') ⟨tl',h3,fun j=>rfl⟩ (eM (fU (by rw [bd];exact f7 (ba Ac hl) _) _) ha)
  refine ⟨t2',?_⟩
  show (jJ (some (.ref 0)::some (.ref 1)::some (.ref 2)::bK t2 0 (.i (.int (.ofNat r)))) (lS xs acc)).loop _=_
  rw [h2,h4]
  rw [bM] at h5
  exact h5
noncomputable abbrev R5:List Nat:=[0,1,2,3,4]
theorem Ql (hx:qQ xs) (hl:xs.length<=9):kF [.ref 0] [.list xs]= .ok (.ref 2) (lS xs (dk R5 xs)):=by
 obtain ⟨t2,h⟩:=PP (acc:=[]) hx hl (rs:=R5) (fun r m=>List.mem_range.mp ((show R5=List.range 5 from rfl)▸m)) (t2:=[]) ⟨[],OV,fun j=>rfl⟩ (aI rfl)
 exact du rfl (aG rfl (aG rfl (aG ((show x6 (UI []) (lS xs [])=pF (fun l σ=> .ok .nxt l σ) (gx [3] jJ) (R5.map fun r=> .int (.ofNat r)) (UI []) (lS xs []) from rfl).trans h) (bj rfl))))
end
end
section
abbrev AD (fl:I) (tl:av):av:=some (.i (.str aU))::some (.ref 1)::some (.i fl)::some (.ref 2)::tl
abbrev g9 (found:List I) (J:ai):ai:=WD:: .list found::J
abbrev rW (kn:List (I×I)) (fl:I) (found:List I) (tl:av) (J:ai):St:=⟨AD fl tl,kn,g9 found J⟩
section
variable {fam tab c:T} {kn kn':List (I×I)} {fl x:I} {found made pre rest u:List I} {tl:av} {J:ai} {R:Sx} {c0 c1 c2:aF} {y:I}
theorem RN:AQ eL (.str fam) (.str tab) [wd jg,wd mD] (rW kn fl found tl J) (rW kn (.tup [.str mD]) found tl J):=⟨⟨_,_,rfl⟩,fun pre y rest j=>⟨[wd mD,wd jg]++pre,by
 refine bc ?_
 show nc (some (.ref 0)::AD fl tl) (.rd pre (wd jg::wd mD::y::rest) kn (.str fam) (.str tab)::g9 found J)=_
 kernel_rfl⟩⟩
def tbkF (fl:I) (pre u:List I) (kn:List (I×I)) (fam tab:I) (r:ai) (R:Sx) (z:av×T×List I):RE Bool×RS:=(a7 (aw bq (aa 0) [cs jg]) (some (.ref 0)::AD fl z.1) (.rd pre (z.2.2++u) kn fam tab::r),sq lC R (some (.ref 0)::AD fl z.1) (.rd pre (z.2.2++u) kn fam tab::r))
def tbkG (fl:I) (pre u:List I) (kn:List (I×I)) (fam tab:I) (r:ai) (R:Sx) (z:av×T×List I):RE Bool×RS:=(.ok false (.rd pre (z.2.2++u) kn fam tab::r),R (some (.ref 0)::AD fl [some (.i (.str z.2.1))]) (.rd (z.2.2.reverse++pre) u kn fam tab::r))
theorem XC (x fl:I) (pre u:List I) (kn:List (I×I)) (fam tab:I) (r:ai) (R:Sx):(bD [[],[some (.i x)]] kY).map (tbkF fl pre u kn fam tab r R)=(bD [[],[some (.i x)]] kY).map (tbkG fl pre u kn fam tab r R):=by kernel_rfl
theorem Rf (pre rest:List I) (kn:List (I×I)) (fam tab:I):[[110,48],[110,49],[110,50]].map (fun n=>f9 [.ref 0] [.rd pre (wd n::rest) kn fam tab])=[[110,48],[110,49],[110,50]].map fun n=> .ok (.i (.str n)) [.rd (wd n::pre) rest kn fam tab]:=by kernel_rfl
theorem Yo {a b:aF} {r:ai}:aP (a::b::(r++[c0])) (r.length+2)=some c0:=(wz (cR _)).trans (by rw [wr];rfl)
theorem PT {F:Fn} {as:List Ex} {l:av} {vs:List V} {k:Nat} (hk:bN l k=some (.ref 2)) (h:cS as l (c0::g9 found J)= .ok vs (c1::g9 found J)) (hr:bz vs []=[0,1]) (hF:F (vs.map (gH (eP [0,1]))) [c1,WD]=Ek c2 made) (hl:found.length+made.length< aJ):aE (bm a6 fm (aa k) (call F as)) l (c0::g9 found J)= .ok .nxt l (c2::g9 (found++made) (J++[.list made])):=by
 have e:call F as l (c0::g9 found J)= .ok (.ref (J.length+3)) (c2::g9 found (J++[.list made])):=cU h (by rw [hr];rfl) (by rw [hr];exact hF) (by rw [hr];rfl)
 refine gZ (v:= .i .none) ?_
 show ((match bN l k with |some v=>RE.ok v (c0::g9 found J) |none=> .bad).bind _)=_
 rw [hk]
 show (call F as l (c0::g9 found J)).bind _=_
 rw [e]
 show ph _ _ (aP (c2::WD::((.list found::J)++[aF.list made])) ((aF.list found::J).length+2))=_
 rw [Yo]
 show gd (Nat.blt (found.length+made.length) aJ) _=_
 rw [show Nat.blt (found.length+made.length) aJ=true from gp hl];rfl
theorem Rz {kk:T×List I} {bt:List I} {name:T} (hk:kk∈kY) (hn:name∈[[110,48],[110,49],[110,50]]) (ht:tl∈[[],[some (.i x)]]) (hl:found.length+made.length< aJ) (H:∀ pre y rest,n0 y->∃ pre',NN kk.1 name bt fam tab pre y rest kn=Ek (.rd pre' (y::rest) kn' (.str fam) (.str tab)) made):
  AQ eL (.str fam) (.str tab) (kk.2++wd name::bt) (rW kn fl found tl J) (rW kn' fl (found++made) [some (.i (.str kk.1))] (J++[.list made])):=by
 refine ⟨⟨_,_,aM (·++wd name::bt) (aW.mp (show kY.map (fun k=>k.2)=kY.map fun k=>wd (PD k.2)::k.2.tail by kernel_rfl) kk hk)⟩,fun pre y rest hy=>?_⟩
 obtain ⟨p,g⟩:=H (wd name::(kk.2.reverse++pre)) y rest hy
 have K:=fun R=>aT (aW.mp (XC x fl pre (wd name::(bt++y::rest)) kn (.str fam) (.str tab) (g9 found J) R) (tl,kk) (cA ht hk))
 have n:=kw (as:=[aa 0]) (l:=some (.ref 0)::AD fl [some (.i (.str kk.1))]) (r:=g9 found J) (vs:=[]) (aW.mp (Rf (kk.2.reverse++pre) (bt++y::rest) kn (.str fam) (.str tab)) name hn) rfl
 refine ⟨p,bc ?_⟩
 rw [bM]
 exact iL (K ae).1 ((K _).2.trans (aG (PT (vs:=[.ref 0,.i (.str aU),.i (.str kk.1),.i (.str name),.ref 1]) rfl (bk rfl (bk rfl (bk rfl (bk n (bk rfl rfl))))) rfl g hl) rfl))
end
end
section
theorem vx {rs:List Nat} {xs:List I}:(dk rs xs).length<=rs.length*xs.length:=by
 induction rs with
 |nil=>exact dI _
 |cons r rs ih=>
  show (iU r xs++dk rs xs).length<=_
  rw [bd,Ba,Nat.succ_mul,lQ]
  exact d8 ih Ac
def GD:Nat->List (T×List I)
 |0=>[]
 |_=>[(OX,[wd jg,wd mD])]
def xJ:Nat->I
 |0=> .tup []
 |_=> .tup [.str mD]
noncomputable def n3:List T:=[[110,48],[110,49],[110,50]]
def EE (fam tab name:T) (made w:List I):Prop:=∃ kk∈kY,∃ bt,w=kk.2++wd name::bt/\wi fam tab name kk.1 bt made
abbrev Mb (b:Nat) (w0 w1 w2:List I):List (List I):=(GD b).map (·.2)++[w0,w1,w2]
def HP (fam tab:T) (inner:List I) (fl:I) (s:St):Prop:=∃ kn' tl J,jX fam tab 3 kn'/\s=rW kn' fl inner tl J/\∃ a b c,J=[a,b,c]
section
variable {fam tab:T} {kn kn':List (I×I)} {fl:I} {m0 m1 m2 w0 w1 w2 inner pre rest:List I} {tl:av} {b:Nat}
theorem Ip {name:T} {made w found:List I} {J:ai} {x:I} {n:Nat} (h:EE fam tab name made w) (hn:name∈n3) (hm:n<=10) (hk:jX fam tab n kn) (ht:tl∈[[],[some (.i x)]]) (hl:found.length+made.length< aJ):∃ kn' y,jX fam tab (n+1) kn'/\AQ eL (.str fam) (.str tab) w (rW kn fl found tl J) (rW kn' fl (found++made) [some (.i y)] (J++[.list made])):=by
 obtain ⟨kk,hkk,bt,rfl,H⟩:=h
 obtain ⟨kn',h1,h2⟩:=H kn n hm hk
 exact ⟨kn',_,h1,Rz hkk hn ht hl h2⟩
theorem XO (h0:EE fam tab [110,48] m0 w0) (h1:EE fam tab [110,49] m1 w1) (h2:EE fam tab [110,50] m2 w2) (l0:m0.length<=3) (l1:m1.length<=3) (l2:m2.length<=3) (hk:jX fam tab 0 kn):∃ s,HP fam tab (m0++m1++m2) fl s/\Rows eL (.str fam) (.str tab) [w0,w1,w2] (rW kn fl [] [] []) s:=by
 have L:=fun {k:Nat} (h:k<=9)=>eM h (aI (rfl:Nat.blt 9 aJ=true))
 have a1:([]++m0).length<=3:=l0
 have a2:([]++m0++m1).length<=6:=bd (as:=[]++m0) (bs:=m1)▸d8 a1 l1
 obtain ⟨k1,y1,q1,r1⟩:=Ip (fl:=fl) (x:= .none) (found:=[]) (J:=[]) h0 (.head _) (dI _) hk (.head _) (L (om _▸ba l0 (aI rfl)))
 obtain ⟨k2,y2,q2,r2⟩:=Ip (fl:=fl) (found:=[]++m0) (J:=[]++[.list m0]) h1 (.tail _ (.head _)) (aI rfl) q1 (.tail _ (.head _)) (L (ba (d8 a1 l1) (aI rfl)))
 obtain ⟨k3,y3,q3,r3⟩:=Ip (fl:=fl) (found:=[]++m0++m1) (J:=[]++[.list m0]++[.list m1]) h2 (.tail _ (.tail _ (.head _))) (aI rfl) q2 (.tail _ (.head _)) (L (d8 a2 l2))
 exact ⟨_,⟨k3,_,_,q3,rfl,_,_,_,rfl⟩,_,r1,_,r2,_,r3,rfl⟩
theorem tb_all (h:∀ fl,∃ s,HP fam tab inner fl s/\Rows eL (.str fam) (.str tab) [w0,w1,w2] (rW kn fl [] [] []) s):∃ s,HP fam tab inner (xJ b) s/\Rows eL (.str fam) (.str tab) (Mb b w0 w1 w2) (rW kn (.tup []) [] [] []) s:=by
 cases b with
 |zero=>exact h _
 |succ=>exact (h (.tup [.str mD])).imp fun j h=>⟨h.1,_,RN,h.2⟩
def aak (fam tab:T) (kn:List (I×I)) (ts all:List I):Prop:=∃ kn',jX fam tab 3 kn'/\∀ pre rest,∃ p j,kO [.ref 0,.i (.str aU),.ref 1] [.rd pre (ts++rest) kn (.str fam) (.str tab),WD]= .ok (.ref 8) (.rd p rest kn' (.str fam) (.str tab)::WD::j)/\j[6]?=some (.list all)
theorem Yc {p:List I} {x y z:aF} (hx:qQ inner) (hl:inner.length<=9):∃ j,(sq uy ae) (some (.ref 0)::AD fl tl) (.rd p rest kn (.str fam) (.str tab)::g9 inner [x,y,z])= .ok (.ret (.ref 8)) (some (.ref 0)::AD fl tl) (.rd p rest kn (.str fam) (.str tab)::WD::j)/\j[6]?=some (.list (ce fam tab aU fL aQ fl::dk R5 inner)):=by
 have g:af au (aZ [call cO [aa 0,aa 1,cs fL,cs aQ,aa 3]]) (call kF [aa 4]) (some (.ref 0)::AD fl tl) (.rd p rest kn (.str fam) (.str tab)::g9 inner [x,y,z])= .ok (.ref 8) (.rd p rest kn (.str fam) (.str tab)::g9 inner [x,y,z,.list [ce fam tab aU fL aQ fl],.list (dk R5 inner),.list (ce fam tab aU fL aQ fl::dk R5 inner)]):=by
  refine rB (IJ (bk (v:= .i (ce fam tab aU fL aQ fl)) rfl rfl) rfl) (cU (vs:=[.ref 2]) rfl rfl (Ql hx hl) rfl) ?_
  show gd (Nat.ble (1+(dk R5 inner).length) aJ) _=_
  rw [gp (ba (f7 (ba vx (HO _ hl)) 1) (aI rfl))];rfl
 exact ⟨_,bj (eZ g),rfl⟩
theorem Xf {s:St} (hs:HP fam tab inner (xJ b) s) (R:Rows eL (.str fam) (.str tab) (Mb b w0 w1 w2) (rW kn (.tup []) [] [] []) s) (hx:qQ inner) (hl:inner.length<=9) (d:Nat):aak fam tab kn (jh d (Mb b w0 w1 w2)) (ce fam tab aU fL aQ (xJ b)::dk R5 inner):=by
 obtain ⟨kn',tl,J,hk,rfl,x,y,z,rfl⟩:=hs
 refine ⟨kn',hk,fun pre rest=>?_⟩
 obtain ⟨p,g⟩:=xz (pre:=pre) (rest:=rest) d R (by cases b<;>exact aI rfl)
 obtain ⟨j,e,hj⟩:=Yc (fl:=xJ b) (tl:=tl) (kn:=kn') (fam:=fam) (tab:=tab) (rest:=rest) (p:=p) (x:=x) (y:=y) (z:=z) hx hl
 exact ⟨p,j,du rfl (aG rfl (aG rfl (aG (gc (by show a7 (aw bR (aa 0) [cs cH]) (some (.ref 0)::AD (.tup []) []) (.rd pre (sg cH::_) kn (.str fam) (.str tab)::g9 [] [])= .ok true _;kernel_rfl) (g ae)) e))),hj⟩
end
end
section
noncomputable abbrev Kn:=List (I×I)
def Vf (w all:List I) (kn kn':Kn):Prop:=(∃ x u,w=wd x::u)/\∀ pre y rest f0 t0,D0 y->∃ p f t,ew [.ref 0,.ref 1] [.rd pre (w++y::rest) kn f0 t0,WD]=Ek (.rd p (y::rest) kn' f t) all
abbrev Sg:=List I×List T×List I
abbrev ends (l:List T):List I:=l.map (.tk fE)
def eh:List Sg->List I
 |[]=>[lE]
 |g::r=>g.1++(ends g.2.1++eh r)
noncomputable def UB:List T->List Sg->Prop
 |l,[]=>l=[]
 |l,_::_=>(∃ a,l=[a])\/∃ a b,l=[a,b]
def OR:List Sg->Kn->Kn->Prop
 |[],kn,kn'=>kn'=kn
 |g::r,kn,kn'=>(∃ k1,Vf g.1 g.2.2 kn k1/\OR r k1 kn')/\UB g.2.1 r
noncomputable abbrev nO (s:T):av:=[some (.i (.str s)),some (.ref 0),some (.ref 1),some (.ref 2)]
section
variable {s x:T} {pre u acc all z z':List I} {kn kn':Kn} {f t f0 t0:I} {r:ai} {J:ai} {segs:List Sg} {n:Nat}
theorem lr_c:fi (nO s) (.rd pre (wd x::u) kn f t::r)= .ok true (.rd pre (wd x::u) kn f t::r):=by kernel_rfl
theorem lr_e:fi (nO s) (.rd pre [lE] kn f t::r)= .ok false (.rd pre [lE] kn f t::r):=by kernel_rfl
theorem se_0:aE (call dn [aa 1]) (nO s) (.rd pre [lE] kn f t::r)= .ok .nxt (nO s) (.rd pre [lE] kn f t::r):=by kernel_rfl
theorem se_n (a b:T):[[a],[a,b]].map (fun l=>aE (call dn [aa 1]) (nO s) (.rd pre (ends l++wd x::u) kn f t::r))=[[a],[a,b]].map fun l=> .ok .nxt (nO s) (.rd ((ends l).reverse++pre) (wd x::u) kn f t::r):=by kernel_rfl
def LrE (s:T) (kn':Kn) (all:List I) (x:RS):Prop:=∃ p f t J,x= .ok .nxt (nO s) (.rd p [lE] kn' f t::g9 all J)
theorem Vr {l:List T} {k1:Kn} (h:OR segs k1 kn') (hs:UB l segs):(∃ y rest,D0 y/\ends l++eh segs=y::rest)/\∀ pre r,∃ p,aE (call dn [aa 1]) (nO s) (.rd pre (ends l++eh segs) kn f t::r)= .ok .nxt (nO s) (.rd p (eh segs) kn f t::r):=by
 cases segs with
 |nil=>
  cases (show l=[] from hs)
  exact ⟨⟨lE,[],⟨[],.tail _ (.head _)⟩,rfl⟩,fun pre r=>⟨pre,se_0⟩⟩
 |cons g gs=>
  obtain ⟨⟨_,⟨⟨x,u,e⟩,_⟩,_⟩,_⟩:=h
  have e:eh (g::gs)=wd x::(u++(ends g.2.1++eh gs)):=aM (·++(ends g.2.1++eh gs)) e
  rw [e]
  rcases hs with ⟨a,rfl⟩ |⟨a,b,rfl⟩
  ·exact ⟨⟨_,_,⟨a,.head _⟩,rfl⟩,fun pre r=>⟨_,aW.mp (se_n a a) [a] (.head _)⟩⟩
  ·exact ⟨⟨_,_,⟨a,.head _⟩,rfl⟩,fun pre r=>⟨_,aW.mp (se_n a b) [a,b] (.tail _ (.head _))⟩⟩
theorem aam (h:OR segs kn kn') (hn:segs.length< n) (hl:acc.length+(segs.flatMap (·.2.2)).length< aJ):LrE s kn' (acc++segs.flatMap (·.2.2)) (jq fi hV n (nO s) (.rd pre (eh segs) kn f0 t0::g9 acc J)):=by
 induction segs generalizing kn n acc pre f0 t0 J with
 |nil=>cases n with
  |zero=>exact absurd hn (ie _)
  |succ n=>
   cases (show kn'=kn from h)
   exact ⟨pre,f0,t0,J,(uR lr_e).trans (by rw [show List.flatMap (fun g:Sg=>g.2.2) []=[] from rfl,dT])⟩
 |cons g r ih=>cases n with
  |zero=>exact absurd hn (ie _)
  |succ n=>
   obtain ⟨⟨k1,⟨⟨x,u,e⟩,H⟩,h⟩,hs⟩:=h
   obtain ⟨⟨y,rest,hy,ez⟩,sp⟩:=Vr (s:=s) (f:= .none) (t:= .none) (kn:=kn) h hs
   obtain ⟨p,f,t,g1⟩:=H pre y rest f0 t0 hy
   obtain ⟨_,sp⟩:=Vr (s:=s) (f:=f) (t:=t) (kn:=k1) h hs
   have l1:acc.length+g.2.2.length+(r.flatMap (·.2.2)).length< aJ:=by
    rw [show (g::r).flatMap (fun g:Sg=>g.2.2)=g.2.2++r.flatMap (·.2.2) from rfl,bd,<-mv] at hl
    exact hl
   rw [<-ez] at g1
   obtain ⟨p',g2⟩:=sp p (g9 (acc++g.2.2) (J++[.list g.2.2]))
   obtain ⟨q,f',t',J',k⟩:=ih (acc:=acc++g.2.2) (pre:=p') (f0:=f) (t0:=t) (J:=J++[.list g.2.2]) h (rt hn) (by rw [bd];exact l1)
   refine ⟨q,f',t',J',(qi (b:=hV) (l':=nO s) ?_ (aG (PT (as:=[aa 1,aa 2]) (vs:=[.ref 0,.ref 1]) rfl rfl rfl g1 (eM (mr _ _) l1)) (aG g2 rfl))).trans ?_⟩
   ·show fi _ (.rd pre (g.1++(ends g.2.1++eh r)) kn f0 t0::_)=_
    rw [e]
    exact lr_c
   ·rw [k,bM];rfl
theorem lr_run {w:List I} (ht:tz s [] .no=some w) (hw:w++[lE]=ends [bX,iT]++eh segs) (hd:∃ x u,eh segs=wd x::u) (hl:s.length+2<=aJ) (h:OR segs [] kn') (hn:segs.length< fw) (hc:(segs.flatMap (·.2.2)).length< aJ):∃ σ,eF (tkF b8) [.i (.str s)] []= .ok (.ref 2) σ/\aP σ 2=some (.list (segs.flatMap (·.2.2))):=by
 have tk:=Q2 ht hl
 rw [hw] at tk
 obtain ⟨p,f,t,J,g⟩:=aam (s:=s) (acc:=[]) (pre:=(ends [bX,iT]).reverse++[]) (f0:= .str []) (t0:= .str []) (J:=[]) h hn (by rw [List.length_nil,om];exact hc)
 obtain ⟨x,u,hd⟩:=hd
 refine ⟨_,du (l':=nO s) (σ':= .rd p [lE] kn' f t::g9 ([]++segs.flatMap (·.2.2)) J) rfl (aG (l':=[some (.i (.str s)),some (.ref 0)]) (σ':=[.rd [] (ends [bX,iT]++eh segs) [] (.str []) (.str [])]) ?_ (aG (l':=[some (.i (.str s)),some (.ref 0),some (.ref 1)]) (σ':=[.rd [] (ends [bX,iT]++eh segs) [] (.str []) (.str []),WD]) rfl (aG (l':=nO s) (σ':= .rd [] (ends [bX,iT]++eh segs) [] (.str []) (.str [])::g9 [] []) rfl (aG (l':=nO s) (σ':= .rd p [lE] kn' f t::g9 ([]++segs.flatMap (·.2.2)) J) ?_ rfl)))),rfl⟩
 ·show (match tkF b8 [.i (.str s)] [] with | .ok v σ'=>_ | .exc w r c=>_ | .bad=>_)=_
  rw [tk];rfl
 ·have e:aE (call fe [aa 1]) (nO s) (.rd [] (ends [bX,iT]++eh segs) [] (.str []) (.str [])::g9 [] [])= .ok .nxt (nO s) (.rd ((ends [bX,iT]).reverse++[]) (eh segs) [] (.str []) (.str [])::g9 [] []):=by
   rw [hd];kernel_rfl
  show (match sq (aE (call fe [aa 1])) (sq (wh fi hV) ae) (nO s) (.rd [] (ends [bX,iT]++eh segs) [] (.str []) (.str [])::g9 [] []) with | .exc w r c=>_ | .ok f l σ=>_ | .bad=>_)=_
  rw [aG (b:=sq (wh fi hV) ae) e (aG (a:=wh fi hV) g rfl)];rfl
end
end
section
abbrev AW (z:T×T):T:=(((SV++z.1)++eI)++z.2)++RW
abbrev Bn (z:T×T):List I:=[wd aU,wd fS,wd z.1,wd z.2,wd tG,sg cH,wd lW,wd ma,sg jE,wd iV,sg cV]
abbrev FN (z:T×T):I:=ce z.1 z.2 aU fS tG OD
def DF (a:Nat) (z:T×T):T:=((match a with |0=>Jx |_=>Jt)++match bU z.1 s0 with |true=>aQ |false=>z.1++eI)++z.2
def wK (a:Nat) (z:T×T):List I:=(match a with |0=>[wd fL] |_=>[wd aU,wd fL])++((match bU z.1 s0 with |true=>[] |false=>[wd z.1])++[wd z.2])
section
variable (e:T) (pre u rest:List I) (kn:Kn) (f0 t0 y:I) (R:Sx)
def txF (z:T×T):Option (List I)×Bool:=(tM (AW z),Nat.ble (AW z).length 100)
theorem O5:FT.map txF=FT.map fun z=>(some (ends [bX,iT]++Bn z),true):=by kernel_rfl
def hxF (w:Nat×T×T):Option (List I)×Bool×List I:=(toks (DF w.1 w.2),Nat.ble (DF w.1 w.2).length 100,wK w.1 w.2)
theorem O6:(bD (List.range 2) FT).map hxF=(bD (List.range 2) FT).map fun w=>(some (wK w.1 w.2),true,wd (PD (wK w.1 w.2))::(wK w.1 w.2).tail):=by kernel_rfl
def mpF (w:(T×T)×I):RE V:=ew [.ref 0,.ref 1] [.rd pre (Bn w.1++w.2::rest) [] f0 t0,WD]
def mpG (w:(T×T)×I):RE V:=Ek (.rd ((Bn w.1).reverse++pre) (w.2::rest) (Qf w.1 []) (.str w.1.1) (.str w.1.2)) [FN w.1]
theorem mp_all:(bD FT (Y3 e)).map (mpF pre rest f0 t0)=(bD FT (Y3 e)).map (mpG pre rest):=by kernel_rfl
abbrev rdT (R:Sx):Sx:=sq ki (sq j9 (sq jZ (sq jV (sq jR (sq jU (sq jY (sq jW R)))))))
abbrev tbl:av:=[some (.ref 0),some (.ref 1),some (.i vbT),some (.i (.str aU)),some (.i (.str fL)),some (.i (.bool true))]
def htF (w:Nat×T×T):RS:=rdT R [some (.ref 0),some (.ref 1)] [.rd pre (wK w.1 w.2++u) kn f0 t0,WD]
def htG (w:Nat×T×T):RS:=R tbl [.rd ((wK w.1 w.2).reverse++pre) u kn (.str w.2.1) (.str w.2.2),WD]
theorem ht_all:(bD (List.range 2) FT).map (htF pre u kn f0 t0 R)=(bD (List.range 2) FT).map (htG pre u kn R):=by kernel_rfl
end
section
variable {z:T×T} {a n:Nat} {kn:Kn} {ts all:List I} {text:T} {cmd:I}
theorem Zx (hz:z∈FT):Vf (Bn z) [FN z] [] (Qf z []):=⟨⟨_,_,rfl⟩,fun pre y rest f0 t0 hy=>
 let ⟨e,hy⟩:=hy
 ⟨_,.str z.1,.str z.2,aW.mp (mp_all e pre rest f0 t0) (z,y) (cA hz hy)⟩⟩
theorem aa4 (ha:a< 2) (hz:z∈FT) (H:aak z.1 z.2 kn ts all):∃ kn',jX z.1 z.2 3 kn'/\Vf (wK a z++ts) all kn kn':=by
 obtain ⟨kn',hk,H⟩:=H
 have m:=cA (cE.mpr ha) hz
 refine ⟨kn',hk,⟨_,_,aM (·++ts) (aT (aT (aW.mp O6 (a,z) m)).2).2⟩,fun pre y rest f0 t0 q=>?_⟩
 obtain ⟨p,j,g,hj⟩:=H ((wK a z).reverse++pre) (y::rest)
 refine ⟨p,.str z.1,.str z.2,du (l':=tbl) rfl ?_⟩
 rw [bM]
 refine (aW.mp (ht_all pre (ts++y::rest) kn f0 t0 _) (a,z) m).trans (bj (gc rfl (bj (eZ (cU (vs:=[.ref 0,.i (.str aU),.ref 1]) rfl rfl g ?_)))))
 show (match j[6]? with |some c=>RE.ok (V.ref 2) (cT [.rd p (y::rest) kn' (.str z.1) (.str z.2),WD] [] j++[c]) |none=> .bad)=_
 rw [hj,pb];rfl
theorem IE (k:mT z.1 z.2 text cmd) (hk:jX z.1 z.2 n kn) (hn:n<=20):∃ w,Rd text w/\Vf w [cmd] kn kn:=
 let ⟨s,u,h1,h2⟩:=k.rd
 ⟨wd s::u,h1,⟨_,_,rfl⟩,fun pre y rest f0 t0 hy=>h2 pre y rest kn n f0 t0 hy hn hk⟩
abbrev i0 (m bl t4 t5 t6:T):T:=(bA bX [m,bl,t4]++Ox)++bA FU [t5,t6]
theorem WA {m bl t4 t5 t6:T} {mt bt w4 w5 w6:List I} (hm:Rc m mt) (hb:Rc bl bt) (h4:Rd t4 w4) (h5:Rd t5 w5) (h6:Rd t6 w6):Rd (i0 m bl t4 t5 t6) (((mt++([nl]++(bt++([nl]++w4))))++[se])++(w5++([nl,nl]++w6))):=
 have n:Rc bX [nl]:=dU (by kernel_rfl)
 ((hm.appd (n.appd (hb.appd (n.appd h4)))).appc (c:=32) (b:=[59,32]) (dU (ts:=[se]) (by kernel_rfl)) rfl).appd (h5.appd (c:=10) (b:=10::t6) (Rc.appd (a:=[10,10]) (dU (ts:=[nl,nl]) (by kernel_rfl)) h6) rfl)
end
end
section
abbrev P3s:=(T×List I)×(T×List I)×(T×List I)
abbrev tbP (b:Nat) (w:P3s):List (T×List I):=GD b++[w.1,w.2.1,w.2.2]
abbrev uY (b:Nat) (t0 t1 t2:T):List T:=(GD b).map (·.1)++[t0,t1,t2]
abbrev UP (a b d:Nat) (z:T×T) (t0 t1 t2:T):T:=DF a z++32::iM d (uY b t0 t1 t2)
noncomputable abbrev inr (m0 m1 m2:List I):List I:=m0++m1++m2
def z6 (z:T×T) (b:Nat) (inner:List I) (c4 c5 c6:I):List I:=FN z::ce z.1 z.2 aU fL aQ (xJ b)::(dk R5 inner++[c4,c5,c6])
section
variable {z:T×T} {a b d:Nat} {t0 t1 t2 t4 t5 t6:T} {m0 m1 m2 w0 w1 w2:List I} {c4 c5 c6:I}
theorem GH (ha:a< 2) (hz:z∈FT) (r0:Rd t0 w0) (r1:Rd t1 w1) (r2:Rd t2 w2) (l0:t0.length<=20000) (l1:t1.length<=20000) (l2:t2.length<=20000):Rc (UP a b d z t0 t1 t2) (wK a z++jh d (Mb b w0 w1 w2))/\(UP a b d z t0 t1 t2).length<=100000/\(DF a z).length<=100/\(uY b t0 t1 t2).length<=4/\∀ x∈uY b t0 t1 t2,x.length<=20000:=by
 have g:=aT (aW.mp O6 (a,z) (cA (cE.mpr ha) hz))
 have hl:=aI (aT g.2).1
 have R:∀ p∈tbP b ((t0,w0),(t1,w1),(t2,w2)),Rd p.1 p.2/\p.1.length<=20000:=by
  have q:∀ p∈[(t0,w0),(t1,w1),(t2,w2)],Rd p.1 p.2/\p.1.length<=20000:=b9.mpr ⟨⟨r0,l0⟩,b9.mpr ⟨⟨r1,l1⟩,fun j m=>cY.mp m▸⟨r2,l2⟩⟩⟩
  cases b with
  |zero=>exact q
  |succ=>exact b9.mpr ⟨⟨iC (by kernel_rfl),aI rfl⟩,q⟩
 have ln:(uY b t0 t1 t2).length<=4:=by cases b;exact iD 3;exact cR 4
 have B:=DZ d fun p m=>(R p m).1
 have M:=mA fun p m=>(R p m).2
 rw [show (tbP b ((t0,w0),(t1,w1),(t2,w2))).map (·.1)=uY b t0 t1 t2 from iQ] at B M
 rw [show (tbP b ((t0,w0),(t1,w1),(t2,w2))).map (·.2)=Mb b w0 w1 w2 from iQ] at B
 refine ⟨(iC g.1).appc B rfl,?_,hl,ln,M⟩
 rw [bd]
 exact ba (d8 hl (gu (ba (uE M) (fU (CD _ ln) 4)))) (aI rfl)
def TextR (s:T) (all:List I):Prop:=∃ σ,eF (tkF b8) [.i (.str s)] []= .ok (.ref 2) σ/\aP σ 2=some (.list all)
theorem QD (p0:fq z.1 z.2 [110,48] t0 m0) (p1:fq z.1 z.2 [110,49] t1 m1) (p2:fq z.1 z.2 [110,50] t2 m2):(inr m0 m1 m2).length<=9/\qQ (inr m0 m1 m2):=
 ⟨by rw [bd,bd];exact d8 (d8 p0.few p1.few) p2.few,fun c m=>(jv.mp m).elim (fun m=>(jv.mp m).elim (p0.cmds c) (p1.cmds c)) (p2.cmds c)⟩
theorem IA {m bl:T} (hm:m.length<=100) (hb:bl.length<=100000) (h4:t4.length<=400) (h5:t5.length<=400) (h6:t6.length<=400):(i0 m bl t4 t5 t6).length+2<=aJ:=by
 show (((m++(bX++(bl++(bX++t4))))++Ox)++(t5++(FU++t6))).length+2<=aJ
 rw [bd,bd,bd,bd,bd,bd,bd,bd]
 show ((m.length+(1+(bl.length+(1+t4.length))))+3)+(t5.length+(2+t6.length))+2<=16777216
 exact ba (fU (d8 (fU (d8 hm (f7 (d8 hb (f7 h4 _)) _)) _) (d8 h5 (f7 h6 _))) _) (aI rfl)
abbrev segs (z:T×T) (a:Nat) (bw w4 w5 w6 all:List I) (c4 c5 c6:I):List Sg:=[(Bn z,[bX],[FN z]),(wK a z++bw,[bX],all),(w4,[iT],[c4]),(w5,[bX,bX],[c5]),(w6,[],[c6])]
theorem seg_t (z:T×T) (a:Nat) (bw w4 w5 w6 all:List I) (c4 c5 c6:I):((((ends [bX,iT]++Bn z)++([nl]++((wK a z++bw)++([nl]++w4))))++[se])++(w5++([nl,nl]++w6)))++[lE]=ends [bX,iT]++eh (segs z a bw w4 w5 w6 all c4 c5 c6):=by
 show _=ends [bX,iT]++(Bn z++([nl]++((wK a z++bw)++([nl]++(w4++([se]++(w5++([nl,nl]++(w6++[lE])))))))))
 simp only [List.append_assoc]
theorem VE {bw w4 w5 w6:List I} {inner:List I}:(segs z a bw w4 w5 w6 (ce z.1 z.2 aU fL aQ (xJ b)::dk R5 inner) c4 c5 c6).flatMap (·.2.2)=z6 z b inner c4 c5 c6:=rfl
theorem WY {inner:List I} (h:inner.length<=9):(z6 z b inner c4 c5 c6).length< aJ:=by
 show (dk R5 inner++[c4,c5,c6]).length+2< aJ
 rw [bd]
 exact eM (fU (fU (ba vx (HO _ h)) _) _) (aI rfl)
theorem Ri (hz:z∈FT) (ha:a< 2) (p0:fq z.1 z.2 [110,48] t0 m0) (p1:fq z.1 z.2 [110,49] t1 m1) (p2:fq z.1 z.2 [110,50] t2 m2) (k4:mT z.1 z.2 t4 c4) (k5:mT z.1 z.2 t5 c5) (k6:mT z.1 z.2 t6 c6):TextR (i0 (AW z) (UP a b d z t0 t1 t2) t4 t5 t6) (z6 z b (inr m0 m1 m2) c4 c5 c6):=by
 obtain ⟨kk0,hk0,b0,r0,M0⟩:=p0.rd
 obtain ⟨kk1,hk1,b1,r1,M1⟩:=p1.rd
 obtain ⟨kk2,hk2,b2,r2,M2⟩:=p2.rd
 have I:=QD p0 p1 p2
 obtain ⟨s,hs,Rw⟩:=tb_all (b:=b) fun fl=>XO (kn:=Qf z []) (fl:=fl) ⟨kk0,hk0,b0,rfl,M0⟩ ⟨kk1,hk1,b1,rfl,M1⟩ ⟨kk2,hk2,b2,rfl,M2⟩ p0.few p1.few p2.few ⟨[],rfl,cR _⟩
 obtain ⟨kn',hk,C⟩:=aa4 ha hz (Xf hs Rw I.2 I.1 d)
 obtain ⟨w4,q4,C4⟩:=IE k4 hk (aI rfl)
 obtain ⟨w5,q5,C5⟩:=IE k5 hk (aI rfl)
 obtain ⟨w6,q6,C6⟩:=IE k6 hk (aI rfl)
 have B:=GH (b:=b) (d:=d) ha hz r0 r1 r2 p0.len p1.len p2.len
 have T:=aT (aW.mp O5 z hz)
 have L:=IA (aI T.2) B.2.1 k4.len k5.len k6.len
 have ht:tz _ [] .no=some _:=(WA (dU T.1) B.1 q4 q5 q6).tz
 have G:=lr_run (kn':=kn') (segs:=segs z a (jh d (Mb b (kk0.2++wd [110,48]::b0) (kk1.2++wd [110,49]::b1) (kk2.2++wd [110,50]::b2))) w4 w5 w6 (ce z.1 z.2 aU fL aQ (xJ b)::dk R5 (inr m0 m1 m2)) c4 c5 c6) ht (seg_t ..) ⟨_,_,rfl⟩ L ⟨⟨_,Zx hz,⟨_,C,⟨_,C4,⟨_,C5,⟨_,C6,rfl⟩,rfl⟩,.inr ⟨_,_,rfl⟩⟩,.inl ⟨_,rfl⟩⟩,.inl ⟨_,rfl⟩⟩,.inl ⟨_,rfl⟩⟩ (aI rfl) ?_
 ·rw [VE] at G;exact G
 ·rw [VE];exact WY I.1
end
end
section
theorem LE {n:Nat} {xs:List I} (ih:∀ x,bS n x=true->uS n x x=some true) (h:xs.all (bS n)=true):AR (uS n) xs xs=some true:=by
 induction xs with
 |nil=>rfl
 |cons a r ihr=>
  have h:=cp.mp h
  show (match uS n a a with |some true=>AR (uS n) r r |some false=>some false |none=>none)=_
  rw [ih a h.1]
  exact ihr h.2
theorem JR {f:List I->Bool} {g:List I->List I->Option Bool} (hg:∀ xs,f xs=true->g xs xs=some true) (x:I) (h:LP f x=true):Uo g x x=some true:=by
 cases x with
 |none=>rfl
 |bool b=>cases b<;>rfl
 |int i=>exact aM some (jn rfl)
 |str s=>exact aM some (BU s)
 |tup xs=>exact hg xs h
 |_=>exact ff h
theorem Ke:(n:Nat)->(x:I)->bS n x=true->uS n x x=some true
 |0,x,h=>JR (f:=fun j=>false) (fun j h=>ff h) x h
 |n+1,x,h=>JR (f:=fun xs=>xs.all (bS n)) (fun j h=>LE (Ke n) h) x h
noncomputable def aaB (r:RE V):ai:=match r with
 | .ok _ σ=>σ
 |_=>[]
abbrev F3:=T×T×Int
def FL:Nat->List F3
 |0=>[(s34,ZU,19),(s38,s39,40),(s42,s43,20)]
 |_=>[(s36,s37,17),(s40,s41,49),(s44,s45,7)]
noncomputable abbrev fI (x:F3):I:= .tup [.str x.1,.str x.2.1,.int x.2.2]
noncomputable abbrev fA (x:F3):I:= .tup [.str x.2.1,.int 1,.int x.2.2]
noncomputable def Pg:T->Bool
 |10::_=>false
 |_=>true
abbrev kZ:Fn:=pickF Pg (eF b8) (eF (tkF b8))
abbrev MH:Sx:=sq (am (aj cM (call kZ [aa 2]) (ah [aa 3,ci 1,aa 4])) (sq (al (aN (.bool false))) ae) ae) ae
theorem ZT (σ:ai):(List.range 2).map (fun k=>(FL k).map fun x=>(kZ [.i (.str x.1)] [],cM (.i (fA x)) (.i (fA x)) σ))=(List.range 2).map fun k=>(FL k).map fun x=>(.ok (.i (fA x)) (aaB (kZ [.i (.str x.1)] [])),.ok false σ):=by kernel_rfl
noncomputable abbrev lw2 (a b:Option V) (tl:av):av:=a::b::tl
def Tq (tl:av):Prop:=Tl tl/\∃ x y z,∀ v,bK tl 3 v=[x,y,z,some v]
def FlE (a b:Option V) (σ:ai) (x:RS):Prop:=∃ tl',Tq tl'/\x= .ok .nxt (lw2 a b tl') σ
theorem Xy {a b:Option V} {σ:ai} {fs:List F3} (h:∀ x∈fs,∀ σ,(kZ [.i (.str x.1)] [],cM (.i (fA x)) (.i (fA x)) σ)=(.ok (.i (fA x)) (aaB (kZ [.i (.str x.1)] [])),.ok false σ)) {tl:av} (ht:Tq tl):FlE a b σ (pF (fun l σ=> .ok .nxt l σ) (gx [2,3,4] MH) (fs.map fI) (lw2 a b tl) σ):=by
 induction fs generalizing tl with
 |nil=>exact ⟨tl,ht,rfl⟩
 |cons x fs ih=>
  obtain ⟨tl',h1,h2⟩:=ih (fun y m=>h y (.tail _ m)) (tl:=[some (.i (.str x.1)),some (.i (.str x.2.1)),some (.i (.int x.2.2))]) ⟨tl_3,_,_,_,fun j=>rfl⟩
  have g:=fun σ=>aT (h x (.head _) σ)
  refine ⟨tl',h1,?_⟩
  have e:MH [a,b,some (.i (.str x.1)),some (.i (.str x.2.1)),some (.i (.int x.2.2))] σ= .ok .nxt [a,b,some (.i (.str x.1)),some (.i (.str x.2.1)),some (.i (.int x.2.2))] σ:=by
   refine aG (iL (σ':=σ) ?_ rfl) rfl
   show (call kZ [aa 2] _ σ).bind _=_
   rw [qt (xs:=[.str x.1]) (y:=fA x) rfl (g σ).1]
   exact (g σ).2
  show (MH (a::b::bK (bK (bK tl 0 (.i (.str x.1))) 1 (.i (.str x.2.1))) 2 (.i (.int x.2.2))) σ).loop _=_
  rw [ht.1,e]
  exact h2
end
section
noncomputable def NZ:List Int:=[37386868921023,6427915518827,225158491127,46,9,1,13]
abbrev sN:Ex:=af au (bF (aa 0) (aN .none) (ci 7)) (bF (un HT (call pB [])) (un bC (bF (aa 0) (aN .none) (ci 7))) (aN .none))
abbrev nK (k:Nat):Ex:=af ag (aa 1) (aN (.int (.ofNat k)))
noncomputable abbrev cj (a b c d e f g:Int):List I:=[.int a,.int b,.int c,.int d,.int e,.int f,.int g]
def PK (xs:List I):Prop:=∃ a b c d e f g,xs=cj a b c d e f g
theorem tab_of (N:List Int):N=(List.range N.length).map fun k=>N.getD k 0:=List.ext_getElem (by rw [cD,List.length_range]) fun i h j=>by rw [List.getElem_map,List.getElem_range,<-List.getElem_eq_getD (h:=h)]
theorem seven {N:List Int} (h:N.length=7):PK (N.map I.int):=by
 rw [tab_of N,h]
 exact ⟨_,_,_,_,_,_,_,rfl⟩
theorem WI (xs:List I):sN [some (.i (.fl xs))] []=au (.ref 0) (.ref 3) [.list (xs.take 7),.list (NZ.map I.int),.list (xs.take 7),.list ((NZ.map I.int).drop (Nat.min (xs.take 7).length 7))]:=by kernel_rfl
theorem Yz (m:Nat) (h:m<=7):m+(7 - Nat.min m 7)=7:=by rw [show Nat.min m 7=m from Nat.min_eq_left h];exact Nat.add_sub_of_le h
def Y0 (x:RE V):Prop:=∃ a b c d e f g c0 c1 c2 c3,x= .ok (.ref 4) [c0,c1,c2,c3,.list (cj a b c d e f g)]
theorem num_e {A B o:List I} (h:PK (A++B)) (hl:A.length+B.length=7):Y0 (au (.ref 0) (.ref 3) [.list A,.list o,.list A,.list B]):=by
 obtain ⟨a,b,c,d,e,f,g,q⟩:=h
 refine ⟨a,b,c,d,e,f,g,.list A,.list o,.list A,.list B,?_⟩
 show gd (Nat.ble (A.length+B.length) aJ) (iI _ (A++B))=_
 rw [hl,q];rfl
theorem sN_ok (ns:List Int):Y0 (sN [some (.i (.fl (ns.map I.int)))] []):=by
 have h2:((ns.map I.int).take 7).length+((NZ.map I.int).drop (Nat.min ((ns.map I.int).take 7).length 7)).length=7:=by
  rw [Dd];exact Yz _ (List.length_take_le ..)
 rw [WI]
 refine num_e ?_ h2
 have s:=seven (N:=ns.take 7++NZ.drop (Nat.min ((ns.map I.int).take 7).length 7))
 rw [<-cD (f:=I.int),iQ,List.map_take,List.map_drop,bd] at s
 exact s h2
section
variable {a b c d e f g:Int} {fl:I} {σ r:ai} {tl:av} {k q:Nat} {c0 c1 c2 c3:aF} {x2 x3 x4:Option V}
abbrev sV (c0 c1 c2 c3:aF) (a b c d e f g:Int) (r:ai):ai:=c0::c1::c2::c3:: .list (cj a b c d e f g)::r
noncomputable abbrev l2 (fl:I) (tl:av):av:=some (.i fl)::some (.ref 4)::tl
theorem bin_go {f:V->V->ai->RE V} {x y:Ex} {l:av} {u w:V} {R:RE V} (h1:x l σ= .ok u σ) (h2:y l σ= .ok w σ) (h3:f u w σ=R):af f x y l σ=R:=rB h1 h2 h3
theorem CV {z:Int} {e:Ex} {l:av} (h:e l σ= .ok (.i (.int z)) σ) (h2:z=k):e l σ= .ok (.i (.int (.ofNat k))) σ:=h.trans (h2▸rfl)
theorem law_1 (h:(d.fdiv 7).fmod 2=(k:Nat)) (hk:k< 2):FlE (some (.i fl)) (some (.ref 4)) (sV c0 c1 c2 c3 a b c d e f g r) (cI (di (af pc (aN eJ) (af ck (af f6 (nK 3) (ci 7)) (ci 2)))) [2,3,4] MH (l2 fl []) (sV c0 c1 c2 c3 a b c d e f g r)):=by
 have h2:=Xy (a:=some (.i fl)) (b:=some (.ref 4)) (σ:=sV c0 c1 c2 c3 a b c d e f g r) (fs:=FL k) (fun x m σ=>aW.mp (aW.mp (ZT σ) k (cE.mpr hk)) x m) ⟨tl_0,_,_,_,fun j=>rfl⟩
 have e0:di (af pc (aN eJ) (af ck (af f6 (nK 3) (ci 7)) (ci 2))) (l2 fl []) (sV c0 c1 c2 c3 a b c d e f g r)= .ok (.xs ((FL k).map fI)) (sV c0 c1 c2 c3 a b c d e f g r):=by
  show (af pc _ _ _ _).bind R3=_
  rw [rB (u:= .i eJ) rfl (CV (σ:=sV c0 c1 c2 c3 a b c d e f g r) (e:=af ck (af f6 (nK 3) (ci 7)) (ci 2)) rfl h) rfl]
  exact aW.mp (show (List.range 2).map (fun k=>(pc (.i eJ) (.i (.int (.ofNat k))) (sV c0 c1 c2 c3 a b c d e f g r)).bind R3)=(List.range 2).map fun k=> .ok (.xs ((FL k).map fI)) (sV c0 c1 c2 c3 a b c d e f g r) by kernel_rfl) k (cE.mpr hk)
 obtain ⟨tl,h3,h4⟩:=h2
 refine ⟨tl,h3,?_⟩
 show (di _ _ _).bindS _=_
 rw [e0]
 exact h4
end
end
section
def fT (k:Nat):T:=(oc[k]?).getD []
def tT (k:Nat):T:=(tabL[k]?).getD []
noncomputable abbrev gD (fl:I) (x2 x3 x4:Option V) (z:T×T) (tl:av):av:=some (.i fl)::some (.ref 4)::x2::x3::x4::some (.i (.str z.1))::some (.i (.str z.2))::some (.ref 5)::some (.ref 6)::some (.ref 7)::tl
abbrev Wh:Ex:=af ck (af au (af f6 (nK 0) (ci 7)) (un bC (aa 0))) (ci 6)
abbrev doC:Tx:=aj az (af ck (af f6 (nK 2) (ci 8)) (ci 2)) (ci 1)
abbrev qA (z:T×T) (p:Nat):List I:=[FN z,ce z.1 z.2 aU fL aQ (xJ p)]
abbrev S3 (R:Sx):Sx:=(sq (set 7 (aZ [(ah [(cs aU),(cs fS),(aa 5),(aa 6),(cs tG),(ah [(ah [(cs ma)]),(cs iV),(ah []),(ci (0)),(ci (0)),(aN (.bool false))])])])) (sq (aE (bm a6 aO (aa 7) (ah [(cs aU),(cs fL),(aa 5),(aa 6),(cs aQ),(dj doC (ah [(cs mD)]) (ah []))]))) (sq (set 8 (dj doC (aZ [(cs OX)]) (aZ []))) (sq (set 9 (aZ [])) R))))
section
variable {a b c d e f g:Int} {xs:List I} {σ r:ai} {tl:av} {k q p:Nat} {c0 c1 c2 c3:aF} {x2 x3 x4:Option V} {z:T×T} {R:Sx} {fl:I}
theorem fam_at (σ:ai):(List.range 6).map (fun k=>ag (.i fk) (.i (.int (.ofNat k))) σ)=(List.range 6).map fun k=> .ok (.i (.str (fT k))) σ:=by kernel_rfl
theorem ZC (σ:ai):(List.range 3).map (fun k=>ag (.i (.tup [.str Fu,.str FV,.str Bg])) (.i (.int (.ofNat k))) σ)=(List.range 3).map fun k=> .ok (.i (.str (tT k))) σ:=by kernel_rfl
theorem z_m (hk:k< 6) (hq:q< 3):(fT k,tT q)∈FT:=cA (vV hk) (vV hq)
theorem law_2 (ht:Tq tl) (hk:k< 6) (hq:q< 3) (h0:(a.fdiv 7+Int.ofNat xs.length).fmod 6=(k:Nat)) (h1:b.fmod 3=(q:Nat)):∃ x2 x3 x4,∀ R:Sx,sq (set 5 (af ag (aN fk) Wh)) (sq (set 6 (af ag (ah [cs Fu,cs FV,cs Bg]) (af ck (nK 1) (ci 3)))) R) (l2 (.fl xs) tl) (sV c0 c1 c2 c3 a b c d e f g r)=
  R [some (.i (.fl xs)),some (.ref 4),x2,x3,x4,some (.i (.str (fT k))),some (.i (.str (tT q)))] (sV c0 c1 c2 c3 a b c d e f g r):=by
 obtain ⟨_,x2,x3,x4,h⟩:=ht
 refine ⟨x2,x3,x4,fun R=>aG (l':=[some (.i (.fl xs)),some (.ref 4),x2,x3,x4,some (.i (.str (fT k)))]) (σ':=sV c0 c1 c2 c3 a b c d e f g r) ?_ (aG (l':=[some (.i (.fl xs)),some (.ref 4),x2,x3,x4,some (.i (.str (fT k))),some (.i (.str (tT q)))]) (σ':=sV c0 c1 c2 c3 a b c d e f g r) ?_ rfl)⟩
 ·rw [dm (rB rfl (CV (e:=Wh) rfl h0) (aW.mp (fam_at (sV c0 c1 c2 c3 a b c d e f g r)) k (cE.mpr hk)))]
  exact aM (fun l=>RS.ok .nxt (some (.i (.fl xs))::some (.ref 4)::l) _) (h _)
 ·exact dm (rB rfl (CV (e:=af ck (nK 1) (ci 3)) rfl h1) (aW.mp (ZC (sV c0 c1 c2 c3 a b c d e f g r)) q (cE.mpr hq)))
theorem do_ok {l:av} (h2:(c.fdiv 8).fmod 2=(p:Nat)) (hp:p< 2) (h:af ck (af f6 (nK 2) (ci 8)) (ci 2) l (sV c0 c1 c2 c3 a b c d e f g r)= .ok (.i (.int ((c.fdiv 8).fmod 2))) (sV c0 c1 c2 c3 a b c d e f g r)):doC l (sV c0 c1 c2 c3 a b c d e f g r)= .ok (Nat.beq p 1) (sV c0 c1 c2 c3 a b c d e f g r):=by
 show (af ck _ _ l _).bind _=_
 rw [CV h h2]
 exact aW.mp (show (List.range 2).map (fun p=>az (.i (.int (.ofNat p))) (.i (.int (.ofNat 1))) (sV c0 c1 c2 c3 a b c d e f g r))=(List.range 2).map fun p=> .ok (Nat.beq p 1) (sV c0 c1 c2 c3 a b c d e f g r) by kernel_rfl) p (cE.mpr hp)
theorem do_i (hp:p< 2) (l:av) (σ:ai):(match Nat.beq p 1 with |true=>ah [cs mD] |false=>ah []) l σ= .ok (.i (xJ p)) σ:=match p,hp with
 |0,_=>rfl
 |1,_=>rfl
theorem do_r (hp:p< 2) (l:av) (σ:ai):(match Nat.beq p 1 with |true=>aZ [cs OX] |false=>aZ []) l σ=iI σ (gf (GD p)):=match p,hp with
 |0,_=>rfl
 |1,_=>rfl
theorem law_3 (h2:(c.fdiv 8).fmod 2=(p:Nat)) (hp:p< 2):S3 R [some (.i fl),some (.ref 4),x2,x3,x4,some (.i (.str z.1)),some (.i (.str z.2))] (sV c0 c1 c2 c3 a b c d e f g [])=R (gD fl x2 x3 x4 z []) (sV c0 c1 c2 c3 a b c d e f g [.list (qA z p),.list (gf (GD p)),.list []]):=by
 have D:=fun {l r} h=>do_ok (c0:=c0) (c1:=c1) (c2:=c2) (c3:=c3) (a:=a) (b:=b) (d:=d) (e:=e) (f:=f) (g:=g) (l:=l) (r:=r) h2 hp h
 have Q:=fun {x y:Ex} {l r} h=>Cv (a:=x) (b:=y) (D (l:=l) (r:=r) h)
 refine aG rfl (aG (gZ (v:= .i .none) (σ':=sV c0 c1 c2 c3 a b c d e f g [.list (qA z p)]) ?_) (aG (l':=[some (.i fl),some (.ref 4),x2,x3,x4,some (.i (.str z.1)),some (.i (.str z.2)),some (.ref 5),some (.ref 6)]) (σ':=sV c0 c1 c2 c3 a b c d e f g [.list (qA z p),.list (gf (GD p))]) (dm ?_) rfl))
 ·show (ah _ _ _).bind _=_
  rw [hX (R:= .ok (.i (ce z.1 z.2 aU fL aQ (xJ p))) (sV c0 c1 c2 c3 a b c d e f g [.list [FN z]])) (vs:=[.i (.str aU),.i (.str fL),.i (.str z.1),.i (.str z.2),.i (.str aQ),.i (xJ p)]) (bk rfl (bk rfl (bk rfl (bk rfl (bk rfl (bk ((Q rfl).trans (do_i hp ..)) rfl)))))) rfl]
  rfl
 ·exact (Q rfl).trans (do_r hp ..)
end
end
section
theorem WK {P:Fn} {as:List Ex} {l:av} {σ:ai} {xs:List I} {t:T} {m:List I} {c:aF} (h:cS as l σ= .ok (xs.map .i) σ) (k:P (xs.map .i) []=Ei c t m):call P as l σ= .ok (.pr (.str t) σ.length) (σ++[.list m]):=by
 show (cS as l σ).bind _=_
 rw [h]
 show et P _ _=_
 unfold et
 rw [yu]
 show dX σ [] (P ((xs.map V.i).map _) [])=_
 rw [EJ,k];rfl
abbrev CM:List Ex:=[af ag (aa 1) (aa 10),aa 5,aa 6,af au (cs s311) (un jt (aa 10))]
abbrev pf (P:Fn):Sx:=sq (fu [2,11] (call P CM)) (sq (aE (bm a6 aO (aa 8) (aa 2))) (sq (aE (bm a6 fm (aa 9) (aa 11))) ae))
noncomputable abbrev sW (N:List I) (c0 c1 c2 c3:aF) (due rows inner:List I) (J:ai):ai:=c0::c1::c2::c3:: .list N:: .list due:: .list rows:: .list inner::J
section
variable {N due rows inner made xs:List I} {σ J:ai} {tl:av} {k q p:Nat} {c0 c1 c2 c3 c:aF} {x2 x3 x4:Option V} {z:T×T} {P:Fn} {fl:I} {t name:T} {nk:Int} {v:V}
theorem last_8:aP (sW N c0 c1 c2 c3 due rows inner (J++[c])) (J.length+8)=some c:=(wz (cR _)).trans (by rw [wr];rfl)
theorem Vu {l:av} {e:Ex} {n i:Nat} {ys:List I} (hi:bN l i=some (.ref n)) (h:e l σ= .ok (.ref (J.length+8)) (sW N c0 c1 c2 c3 due rows inner (J++[aF.list made]))) (hc:a6 (.ref n) σ=true) (hn:aP (sW N c0 c1 c2 c3 due rows inner (J++[aF.list made])) n=some (.list ys)) (h8:Nat.blt n 8=true) (hl:ys.length+made.length< aJ):aE (bm a6 fm (aa i) e) l σ= .ok .nxt l (putAt (sW N c0 c1 c2 c3 due rows inner (J++[aF.list made])) n (.list (ys++made))):=by
 refine gZ (v:= .i .none) ?_
 show ((match bN l i with |some v=>RE.ok v σ |none=> .bad).bind _)=_
 rw [hi]
 show gd (a6 (.ref n) σ) ((e l σ).bind _)=_
 rw [hc,h]
 show ph _ _ (aP (sW N c0 c1 c2 c3 due rows inner (J++[aF.list made])) n)=_
 rw [hn]
 show ph _ _ (aP (sW N c0 c1 c2 c3 due rows inner (J++[aF.list made])) (J.length+8))=_
 rw [last_8]
 show gd (!Nat.beq (J.length+8) n && Nat.blt (ys.length+made.length) aJ) _=_
 have b:Nat.beq (J.length+8) n=false:=by
  cases q:Nat.beq (J.length+8) n with
  |false=>rfl
  |true=>exact absurd (kj q▸aI h8) (Nat.not_succ_le_self _ ∘ ba (gu (ib 8 J.length)))
 rw [b,show Nat.blt (ys.length+made.length) aJ=true from gp hl];rfl
theorem FQ (ht:Dx tl) (h:cS CM (gD fl x2 x3 x4 z (some v::tl)) (sW N c0 c1 c2 c3 due rows inner J)= .ok (xs.map .i) (sW N c0 c1 c2 c3 due rows inner J)) (hP:P (xs.map .i) []=Ei c t made) (hr:rows.length< aJ) (hl:inner.length+made.length< aJ):
  pf P (gD fl x2 x3 x4 z (some v::tl)) (sW N c0 c1 c2 c3 due rows inner J)= .ok .nxt (gD fl (some (.i (.str t))) x3 x4 z [some v,some (.ref (J.length+8))]) (sW N c0 c1 c2 c3 due (rows++[.str t]) (inner++made) (J++[aF.list made])):=by
 refine aG (l':=gD fl (some (.i (.str t))) x3 x4 z [some v,some (.ref (J.length+8))]) (σ':=sW N c0 c1 c2 c3 due rows inner (J++[aF.list made])) ((rJ (WK h hP)).trans (aM (fun u=>RS.ok .nxt (gD fl (some (.i (.str t))) x3 x4 z (some v::u)) (sW N c0 c1 c2 c3 due rows inner (J++[aF.list made]))) (ht (.ref (J.length+8))))) (aG (l':=gD fl (some (.i (.str t))) x3 x4 z [some v,some (.ref (J.length+8))]) (σ':=sW N c0 c1 c2 c3 due (rows++[.str t]) inner (J++[aF.list made])) (gZ (v:= .i .none) ?_) (aG (Vu (σ:=sW N c0 c1 c2 c3 due (rows++[.str t]) inner (J++[aF.list made])) (rows:=rows++[.str t]) (n:=7) rfl rfl rfl rfl rfl hl) rfl))
 show gd (Nat.blt rows.length aJ) _=_
 rw [show Nat.blt rows.length aJ=true from gp hr];rfl
end
end
section
abbrev gC:Tx:=aj cJ (af ag (aa 13) (ci 1)) (aa 12)
abbrev gB:Sx:=sq (aE (bm a6 fm (aa 7) (eG (di (aa 9)) [13] gC (aa 13)))) ae
def kN:Nat->I
 |0=> .tup [.str nZ,.str mu,.str sZ,.str il,.str iG]
 |1=> .tup [.str er]
 |2=> .tup [.str dO,.str fS]
 |3=> .tup [.str ly]
 |_=> .tup [.str fH]
section
variable {N due rows inner xs acc p q:List I} {σ J:ai} {tl:av} {r:Nat} {c0 c1 c2 c3:aF} {x2 x3 x4 x10 x11:Option V} {z:T×T} {fl c ab:I} {f t v n:T} {l:av}
def gcF (l:av) (f t v n:T) (ab:I) (σ:ai) (y:T×Nat):RE Bool:=gC (bK (bK l 12 (.i (kN y.2))) 13 (.i (ce f t v y.1 n ab))) σ
noncomputable abbrev tE (fl:I) (x2 x3 x4 x10 x11:Option V) (z:T×T) (tl:av):av:=gD fl x2 x3 x4 z (x10::x11::tl)
theorem aaN (fl:I) (x2 x3 x4 x10 x11:Option V) (z:T×T) (f t v n:T) (ab:I) (σ:ai):(bD KL (List.range 5)).map (gcF (tE fl x2 x3 x4 x10 x11 z []) f t v n ab σ)=(bD KL (List.range 5)).map fun y=> .ok (Nat.beq (MW y.1) y.2) σ:=by kernel_rfl
theorem gc_ok (h:za c) (hr:r< 5):gC (tE fl x2 x3 x4 x10 x11 z [some (.i (kN r)),some (.i c)]) σ= .ok (Nat.beq (rk c) r) σ:=by
 obtain ⟨f,t,v,k,n,ab,rfl,hk,_⟩:=h
 exact aW.mp (aaN fl x2 x3 x4 x10 x11 z f t v n ab σ) (k,r) (cA (UT hk) (cE.mpr hr))
abbrev gW (l:av) (n i:Nat):List I->ai->RE (List I):=iu .bad .ok (gG [13] gC (aa 13) l) 7 n i
theorem Yw (hx:qQ xs) (hr:r< 5) (e:xs=p++q) {n:Nat} (hf:q.length< n) (hc:aP σ 7=some (.list xs)) (ha:acc.length+q.length< aJ):gW (tE fl x2 x3 x4 x10 x11 z [some (.i (kN r))]) n p.length acc σ= .ok (acc++iU r q) σ:=by
 induction q generalizing p n acc with
 |nil=>cases n with
  |zero=>exact absurd hf (ie _)
  |succ n=>exact (z8 (by rw [e,dT] at hc;exact QP hc)).trans (by rw [show iU r []=[] from rfl,dT])
 |cons c q ih=>cases n with
  |zero=>exact absurd hf (ie _)
  |succ n=>
   have l1:(acc++vF (Nat.beq (rk c) r) c).length+q.length< aJ:=by
    rw [bd]
    refine eM ?_ ha
    show _<=acc.length+(q.length+1)
    rw [mv,lQ q.length]
    exact f7 (fU (by cases Nat.beq (rk c) r;exact dI _;exact cR _) _) _
   have h2:=ih (p:=p++[c]) (acc:=acc++vF (Nat.beq (rk c) r) c) (by rw [bM];exact e) (rt hf) l1
   rw [bM,<-IP,bd] at h2
   refine (pJ (U6 hc e)).trans ?_
   show xZ (gC (tE fl x2 x3 x4 x10 x11 z [some (.i (kN r)),some (.i c)]) σ) _=_
   rw [gc_ok (hx c (e▸kh _ (.head _))) hr]
   revert h2
   cases Nat.beq (rk c) r with
   |false=>rw [show vF false c=[] from rfl,dT];exact id
   |true=>
    intro h2
    show gd (Nat.blt acc.length aJ) _=_
    rw [show Nat.blt acc.length aJ=true from gp (eM (mr _ _) ha)]
    exact h2
def Tgg (tl:av):Prop:=Dx tl/\∃ y,∀ v,bK tl 2 v=[y,none,some v]
theorem X1 (hx:qQ inner) (hl:inner.length<=9) (hr:r< 5) (hd:due.length+inner.length< aJ):gB (tE fl x2 x3 x4 x10 x11 z [some (.i (kN r))]) (sW N c0 c1 c2 c3 due rows inner J)= .ok .nxt (tE fl x2 x3 x4 x10 x11 z [some (.i (kN r))]) (sW N c0 c1 c2 c3 (due++iU r inner) rows inner (J++[aF.list (iU r inner)])):=by
 have g:=Yw (fl:=fl) (x2:=x2) (x3:=x3) (x4:=x4) (x10:=x10) (x11:=x11) (z:=z) (σ:=sW N c0 c1 c2 c3 due rows inner J) (acc:=[]) (p:=[]) hx hr rfl (n:=fw) (eM hl (aI rfl)) rfl (eM (by rw [List.length_nil,om];exact ib _ _) hd)
 have e:eG (di (aa 9)) [13] gC (aa 13) (tE fl x2 x3 x4 x10 x11 z [some (.i (kN r))]) (sW N c0 c1 c2 c3 due rows inner J)= .ok (.ref (J.length+8)) (sW N c0 c1 c2 c3 due rows inner (J++[aF.list (iU r inner)])):=
  aM (fun x=>xZ x fun ys σ=>RE.ok (V.ref σ.length) (σ++[aF.list ys])) g
 exact aG (Vu (n:=5) rfl e rfl rfl rfl (eM (f7 Ac _) hd)) rfl
def GpE (l:av->av) (σ:ai) (x:RS):Prop:=∃ tl,Tgg tl/\x= .ok .nxt (l tl) σ
theorem ZO (hx:qQ inner) (hl:inner.length<=9) {rs:List Nat} (hr:∀ r∈rs,r< 5) (hd:due.length+rs.length*9< aJ) {tl:av} (ht:Tgg tl):GpE (tE fl x2 x3 x4 x10 x11 z) (sW N c0 c1 c2 c3 (due++dk rs inner) rows inner (J++rs.map fun r=>aF.list (iU r inner))) (pF (fun l σ=> .ok .nxt l σ) (gx [12] gB) (rs.map kN) (tE fl x2 x3 x4 x10 x11 z tl) (sW N c0 c1 c2 c3 due rows inner J)):=by
 induction rs generalizing due J tl with
 |nil=>exact ⟨tl,ht,by rw [show dk [] inner=[] from rfl,dT,show List.map (fun r=>aF.list (iU r inner)) []=[] from rfl,dT];rfl⟩
 |cons r rs ih=>
  have ha:due.length+9+rs.length*9< aJ:=by rw [Ba,Nat.succ_mul,lQ (_*_),<-mv] at hd;exact hd
  obtain ⟨tl',h1,h⟩:=ih (due:=due++iU r inner) (J:=J++[aF.list (iU r inner)]) (tl:=[some (.i (kN r))]) (fun r m=>hr r (.tail _ m)) (eM (fU (by rw [bd];exact f7 (ba Ac hl) _) _) ha) ⟨Ic,_,fun j=>rfl⟩
  refine ⟨tl',h1,?_⟩
  show (gB (gD fl x2 x3 x4 z (x10::x11::bK tl 0 (.i (kN r)))) (sW N c0 c1 c2 c3 due rows inner J)).loop _=_
  rw [ht.1,X1 hx hl (hr r (.head _)) (eM (ba (f7 hl _) (mr _ _)) ha)]
  rw [bM,bM] at h
  exact h
end
end
section
abbrev Zr:Ex:=af au (af au (af au (af au (cs SV) (aa 5)) (cs eI)) (aa 6)) (cs RW)
abbrev aC:Tx:=aj az (af ck (nK 3) (ci 2)) (ci 0)
abbrev ZH:Ex:=dj (aj az (aa 5) (cs s0)) (cs aQ) (af au (aa 5) (cs eI))
abbrev Wl:Ex:=call cB [aa 15,aa 8,aZ [af ck (nK 4) (af ig (ci 2) (ci 120))]]
abbrev su (C:Fn):Sx:=sq (fu [2,17] (call C [aa 16,aa 5,aa 6])) (sq (aE (bm a6 aO (aa 14) (aa 2))) (sq (aE (bm a6 aO (aa 7) (aa 17))) ae))
section
variable {a b c d e f g n:Int} {rows inner due mj made:List I} {σ J:ai} {tl:av} {k:Nat} {c0 c1 c2 c3:aF} {x2 x3 x4 x10 x11 y:Option V} {z:T×T} {C:Fn} {fl cmd:I} {t hd:T} {R:Sx} {rs:List T}
theorem XM (fl:I) (x2 x3 x4:Option V) (tl:av) (σ:ai):FT.map (fun z=>Zr (gD fl x2 x3 x4 z tl) σ)=FT.map fun z=> .ok (.i (.str (AW z))) σ:=by kernel_rfl
def e15F (fl:I) (x2 x3 x4:Option V) (tl:av) (σ:ai) (w:Nat×T×T):RE V:=af au (af au (match Nat.beq w.1 0 with |true=>cs Jx |false=>cs Jt) ZH) (aa 6) (gD fl x2 x3 x4 w.2 tl) σ
theorem Yp (fl:I) (x2 x3 x4:Option V) (tl:av) (σ:ai):(bD (List.range 2) FT).map (e15F fl x2 x3 x4 tl σ)=(bD (List.range 2) FT).map fun w=> .ok (.i (.str (DF w.1 w.2))) σ:=by kernel_rfl
theorem Qi {F:V->V->ai->RE V} {x x' w:Ex} {l:av} (h:x l σ=x' l σ):af F x w l σ=af F x' w l σ:=by
 show (x l σ).bind _=_
 rw [h];rfl
noncomputable abbrev EG (fl:I) (x2 x3 x4:Option V) (z:T×T) (x10 x11 y:Option V) (tl:av):av:=gD fl x2 x3 x4 z (x10::x11::y::none::some (.ref 16)::tl)
theorem ZJ (hz:z∈FT) (hk:k< 2) (h3:d.fmod 2=(k:Nat)) {r:ai}:af au (af au (dj aC (cs Jx) (cs Jt)) ZH) (aa 6) (EG fl x2 x3 x4 z x10 x11 y []) (sV c0 c1 c2 c3 a b c d e f g r)= .ok (.i (.str (DF k z))) (sV c0 c1 c2 c3 a b c d e f g r):=by
 have q:aC (EG fl x2 x3 x4 z x10 x11 y []) (sV c0 c1 c2 c3 a b c d e f g r)= .ok (Nat.beq k 0) (sV c0 c1 c2 c3 a b c d e f g r):=by
  show (af ck (nK 3) (ci 2) (EG fl x2 x3 x4 z x10 x11 y []) (sV c0 c1 c2 c3 a b c d e f g r)).bind _=_
  rw [CV (k:=k) (e:=af ck (nK 3) (ci 2)) rfl h3]
  exact aW.mp (show (List.range 2).map (fun p=>az (.i (.int (.ofNat p))) (.i (.int (.ofNat 0))) (sV c0 c1 c2 c3 a b c d e f g r))=(List.range 2).map fun p=> .ok (Nat.beq p 0) (sV c0 c1 c2 c3 a b c d e f g r) by kernel_rfl) k (cE.mpr hk)
 exact (Qi (Qi (Cv q))).trans (aW.mp (Yp fl x2 x3 x4 (x10::x11::y::none::[some (.ref 16)]) (sV c0 c1 c2 c3 a b c d e f g r)) (k,z) (cA (cE.mpr hk) hz))
theorem YC {head:T} {x:Int} {dg:Nat} {rw:aF} (h:x.fmod 3=(dg:Nat)):mG [some (.i (.str head)),some (.ref 0),some (.ref 1)] [rw,.list [.int x]]= .ok .nxt (zo head dg) [rw,.list [.int (x.fdiv 3)]]:=
 (show _=RS.ok .nxt [some (.i (.str head)),some (.ref 0),some (.ref 1),some (.i (.int (x.fmod 3)))] [rw,.list [.int (x.fdiv 3)]] by kernel_rfl).trans (by rw [h];rfl)
noncomputable abbrev J8:=aF×aF×aF×aF×aF×aF×aF×aF
noncomputable abbrev j8 (j:J8) (r:ai):ai:=j.1::j.2.1::j.2.2.1::j.2.2.2.1::j.2.2.2.2.1::j.2.2.2.2.2.1::j.2.2.2.2.2.2.1::j.2.2.2.2.2.2.2::r
variable {j:J8}
theorem X2 {h:V} {m:aF}:cS [aa 15,aa 8,aZ [af ck (nK 4) (af ig (ci 2) (ci 120))]] (EG fl x2 x3 x4 z x10 x11 y [some h]) (sW (cj a b c d e f g) c0 c1 c2 c3 due rows inner (j8 j [m]))= .ok [h,.ref 6,.ref 17] (sW (cj a b c d e f g) c0 c1 c2 c3 due rows inner (j8 j [m,.list [.int (e.fmod (2 ^ 120))]])):=by kernel_rfl
theorem law_16 {head:T} {dg:Nat} (h:(e.fmod (2 ^ 120)).fmod 3=(dg:Nat)) (hd:dg< 3) (hh:head.length<=200) (hn:rs.length<=12) (hr:∀ x∈rs,x.length<=20000):∃ m,aE (bm a6 aO (aa 14) Wl) (EG fl x2 x3 x4 z x10 x11 y [some (.i (.str head))]) (sW (cj a b c d e f g) c0 c1 c2 c3 due (rs.map .str) inner (j8 j [.list [.str t]]))=
  .ok .nxt (EG fl x2 x3 x4 z x10 x11 y [some (.i (.str head))]) (sW (cj a b c d e f g) c0 c1 c2 c3 due (rs.map .str) inner (j8 j [.list [.str t,.str (head++32::iM dg rs)],m])):=by
 obtain ⟨j',q⟩:=GI (YC (rw:= .list (rs.map .str)) h) hd hh hn hr
 have cl:Wl (EG fl x2 x3 x4 z x10 x11 y [some (.i (.str head))]) (sW (cj a b c d e f g) c0 c1 c2 c3 due (rs.map .str) inner (j8 j [.list [.str t]]))= .ok (.i (.str (head++32::iM dg rs))) (sW (cj a b c d e f g) c0 c1 c2 c3 due (rs.map .str) inner (j8 j [.list [.str t],.list [.int ((e.fmod (2 ^ 120)).fdiv 3)]])):=
  cU (X2 (h:= .i (.str head)) (m:= .list [.str t])) rfl q (aM (RE.ok (V.i (.str (head++32::iM dg rs)))) (pb (sW (cj a b c d e f g) c0 c1 c2 c3 due (rs.map .str) inner (j8 j [.list [.str t],.list [.int ((e.fmod (2 ^ 120)).fdiv 3)]])) j'))
 refine ⟨.list [.int ((e.fmod (2 ^ 120)).fdiv 3)],gZ (v:= .i .none) ?_⟩
 show (Wl _ _).bind (fun y σ=>aO (.ref 16) y σ)=_
 rw [cl];rfl
end
end
section
section
variable {a b c d e f g n:Int} {inner due mj all rows:List I} {tl:av} {c0 c1 c2 c3 m:aF} {x2 x3 x4 x10 x11 y hd:Option V} {z:T×T} {C R:Fn} {fl cmd k4 k5 k6:I} {t t4 t5 t6 mp bl:T} {j:J8} {i4 i5 i6:ai}
noncomputable abbrev sH (fl:I) (x2 x3 x4:Option V) (z:T×T) (x10 x11 y hd:Option V) (tl:av):av:=EG fl x2 x3 x4 z x10 x11 y (hd::tl)
abbrev qW (a b c d e f g:Int) (c0 c1 c2 c3:aF) (due rows inner:List I) (j:J8) (mj:List I) (m:aF) (r:ai):ai:=sW (cj a b c d e f g) c0 c1 c2 c3 due rows inner (j8 j (.list mj::m:: .list [.int e,.int f,.int g]::r))
abbrev AL (C:Fn) (z:T×T) (n:Int) (t:T) (cmd:I):Prop:=∃ j,C [.i (.int n),.i (.str z.1),.i (.str z.2)] []= .ok (.i (.tup [.str t,cmd])) j
theorem FE (ht:Dx tl) (hC:AL C z n t cmd) (h1:mj.length< aJ) (h2:due.length< aJ):su C (sH fl x2 x3 x4 z x10 x11 y hd (some (.i (.int n))::tl)) (qW a b c d e f g c0 c1 c2 c3 due rows inner j mj m [])=
  .ok .nxt (sH fl (some (.i (.str t))) x3 x4 z x10 x11 y hd [some (.i (.int n)),some (.i cmd)]) (qW a b c d e f g c0 c1 c2 c3 (due++[cmd]) rows inner j (mj++[.str t]) m []):=by
 obtain ⟨_,hC⟩:=hC
 refine aG ((rJ (qt (xs:=[.int n,.str z.1,.str z.2]) (y:= .tup [.str t,cmd]) rfl hC)).trans (aM (fun u=>RS.ok .nxt (sH fl (some (.i (.str t))) x3 x4 z x10 x11 y hd (some (.i (.int n))::u)) (qW a b c d e f g c0 c1 c2 c3 due rows inner j mj m [])) (ht _))) (aG (σ':=qW a b c d e f g c0 c1 c2 c3 due rows inner j (mj++[.str t]) m []) (gZ (v:= .i .none) ?_) (aG (gZ (v:= .i .none) ?_) rfl))
 ·show gd (Nat.blt mj.length aJ) _=_
  rw [show Nat.blt mj.length aJ=true from gp h1];rfl
 ·show gd (Nat.blt due.length aJ) _=_
  rw [show Nat.blt due.length aJ=true from gp h2];rfl
theorem Kj {l:av} {σ:ai} {k:Sx}:(RS.ok .nxt l σ).loop k=k l σ:=rfl
theorem cm_go (n:Nat) (h4:AL C z e t4 k4) (h5:AL C z f t5 k5) (h6:AL C z g t6 k6) (h2:due.length+2< aJ):iu .bad (fun l σ=>RS.ok .nxt l σ) (gx [16] (su C)) 18 (n+1+1+1+1) 0 (sH fl x2 x3 x4 z x10 x11 y hd []) (qW a b c d e f g c0 c1 c2 c3 due rows inner j [.str mp,.str bl] m [])=
  .ok .nxt (sH fl (some (.i (.str t6))) x3 x4 z x10 x11 y hd [some (.i (.int g)),some (.i k6)]) (qW a b c d e f g c0 c1 c2 c3 (due++[k4]++[k5]++[k6]) rows inner j [.str mp,.str bl,.str t4,.str t5,.str t6] m []):=by
 have lt:∀ {k},k<=4->k< aJ:=fun h=>eM h (aI rfl)
 refine (pJ (x:= .int e) rfl).trans ?_
 show (su C (sH fl x2 x3 x4 z x10 x11 y hd [some (.i (.int e))]) _).loop _=_
 rw [FE (fun q=>rfl) h4 (lt (aI rfl)) (eM (mr _ _) h2),Kj]
 refine (pJ (x:= .int f) rfl).trans ?_
 show (su C (sH fl (some (.i (.str t4))) x3 x4 z x10 x11 y hd [some (.i (.int f)),some (.i k4)]) _).loop _=_
 rw [FE (fun q=>rfl) h5 (lt (aI rfl)) (by rw [bd];exact zh h2),Kj]
 refine (pJ (x:= .int g) rfl).trans ?_
 show (su C (sH fl (some (.i (.str t5))) x3 x4 z x10 x11 y hd [some (.i (.int g)),some (.i k5)]) _).loop _=_
 rw [FE (fun q=>rfl) h6 (lt (aI rfl)) (by rw [bd,bd];exact h2),Kj]
 exact z8 rfl
theorem W5 (h4:AL C z e t4 k4) (h5:AL C z f t5 k5) (h6:AL C z g t6 k6) (h2:due.length+2< aJ):∃ tl,cI (di (bF (aa 1) (ci 4) (aN .none))) [16] (su C) (sH fl x2 x3 x4 z x10 x11 y hd []) (sW (cj a b c d e f g) c0 c1 c2 c3 due rows inner (j8 j [.list [.str mp,.str bl],m]))=
  .ok .nxt (sH fl (some (.i (.str t6))) x3 x4 z x10 x11 y hd tl) (qW a b c d e f g c0 c1 c2 c3 (due++[k4]++[k5]++[k6]) rows inner j [.str mp,.str bl,.str t4,.str t5,.str t6] m []):=
 have h:di (bF (aa 1) (ci 4) (aN .none)) (sH fl x2 x3 x4 z x10 x11 y hd []) (sW (cj a b c d e f g) c0 c1 c2 c3 due rows inner (j8 j [.list [.str mp,.str bl],m]))= .ok (.lst 18) (qW a b c d e f g c0 c1 c2 c3 due rows inner j [.str mp,.str bl] m []):=by kernel_rfl
 ⟨_,(aM (fun r:RE uA=>r.bindS fun it σ=>Ad .bad (fun l σ=> .ok .nxt l σ) (gx [16] (su C)) it (sH fl x2 x3 x4 z x10 x11 y hd []) σ) h).trans (cm_go 16777212 h4 h5 h6 h2)⟩
abbrev QH:Ex:=af au (af au (bm dK eV (cs bX) (bF (aa 14) (aN .none) (ci 3))) (cs Ox)) (bm dK eV (cs FU) (bF (aa 14) (ci 3) (aN .none)))
abbrev YS (a b c d e f g:Int) (c0 c1 c2 c3:aF) (due rows inner:List I) (j:J8) (m:aF) (mp bl t4 t5 t6:T):ai:=qW a b c d e f g c0 c1 c2 c3 due rows inner j [.str mp,.str bl,.str t4,.str t5,.str t6] m [.list [.str mp,.str bl,.str t4],.list [.str t5,.str t6]]
theorem aay (hl:(i0 mp bl t4 t5 t6).length+2<=aJ):QH (sH fl x2 x3 x4 z x10 x11 y hd tl) (qW a b c d e f g c0 c1 c2 c3 due rows inner j [.str mp,.str bl,.str t4,.str t5,.str t6] m [])= .ok (.i (.str (i0 mp bl t4 t5 t6))) (YS a b c d e f g c0 c1 c2 c3 due rows inner j m mp bl t4 t5 t6):=by
 have h0:(i0 mp bl t4 t5 t6).length<=aJ:=ba (mr _ 2) hl
 have h1:=gj (cR (i0 mp bl t4 t5 t6).length)
 have h2:(bA bX [mp,bl,t4]).length<=(i0 mp bl t4 t5 t6).length:=gj h1
 have h3:(bA FU [t5,t6]).length<=(i0 mp bl t4 t5 t6).length:=by rw [bd];exact ib _ _
 have J:∀ {p x:T},p.length<=2->x.length<=(i0 mp bl t4 t5 t6).length->(p++x).length<=aJ:=fun {p x} hp hx=>by
  rw [bd,lQ]
  exact ba (d8 hx hp) hl
 exact ec (ec (Co (z:=bX) (ss:=[mp,bl,t4]) (n:=19) rfl rfl rfl (J (iD 1) h2) (cR _)) rfl (ba h1 h0)) (Co (z:=FU) (ss:=[t5,t6]) (n:=20) rfl rfl rfl (J (cR 2) h3) (cR _)) h0
theorem Xd {F:Fn} {as:List Ex} {l:av} {σ σ1 cs:ai} {xs:List I} {n:Nat} {c:aF} (h:cS as l σ= .ok (xs.map .i) σ1) (k:F (xs.map .i) []= .ok (.ref n) cs) (hc:aP cs n=some c):call F as l σ= .ok (.ref σ1.length) (σ1++[c]):=by
 show (cS as l σ).bind _=_
 rw [h]
 show et F _ _=_
 unfold et
 rw [yu]
 show dX σ1 [] (F ((xs.map V.i).map _) [])=_
 rw [EJ,k]
 show (match aP cs n with |some c=>RE.ok (V.ref σ1.length) (cT σ1 [] cs++[c]) |none=> .bad)=_
 rw [hc,pb]
theorem YE (hl:(i0 mp bl t4 t5 t6).length+2<=aJ) (hR:∃ σ,R [.i (.str (i0 mp bl t4 t5 t6))] []= .ok (.ref 2) σ/\aP σ 2=some (.list due)) (hk:due.all (bS 12)=true):∃ l' σ',al (gE (aj az (call R [QH]) (aa 7))) (sH fl x2 x3 x4 z x10 x11 y hd tl) (qW a b c d e f g c0 c1 c2 c3 due rows inner j [.str mp,.str bl,.str t4,.str t5,.str t6] m [])= .ok (.ret (.i (.bool true))) l' σ':=by
 obtain ⟨_,h1,h2⟩:=hR
 have q:=Xd (as:=[QH]) (xs:=[.str (i0 mp bl t4 t5 t6)]) (bk (aay (fl:=fl) (x2:=x2) (x3:=x3) (x4:=x4) (z:=z) (x10:=x10) (x11:=x11) (y:=y) (hd:=hd) (tl:=tl) (a:=a) (b:=b) (c:=c) (d:=d) (e:=e) (f:=f) (g:=g) (c0:=c0) (c1:=c1) (c2:=c2) (c3:=c3) (due:=due) (rows:=rows) (inner:=inner) (j:=j) (m:=m) hl) rfl) h1 h2
 refine ⟨_,YS a b c d e f g c0 c1 c2 c3 due rows inner j m mp bl t4 t5 t6++[.list due],eZ (QY ?_)⟩
 show (call R [QH] _ _).bind _=_
 rw [q]
 show eq3 _ (due.all (bS 12)) (due.all (bS 12)) (AR (uS 12) due due)=_
 rw [hk,LE (Ke 12) hk];rfl
end
end
section
noncomputable abbrev Un (k:Nat):T:=[110,48+k]
abbrev PcE (P:Fn) (z:T×T) (n:Int) (k:Nat) (t:T) (m:List I):Prop:=∃ c,P [.i (.int n),.i (.str z.1),.i (.str z.2),.i (.str (Un k))] []=Ei c t m
section
variable {a b c d e f g:Int} {rows inner due m0 m1 m2:List I} {c0 c1 c2 c3:aF} {x2 x3 x4 x10 x11:Option V} {z:T×T} {P C R:Fn} {fl k4 k5 k6:I} {t0 t1 t2 t4 t5 t6:T} {p dg ka:Nat} {tl:av}
def PcL (x3 x4:Option V) (fl:I) (z:T×T) (σ:ai) (x:RS):Prop:=∃ x2 x10 x11,x= .ok .nxt (gD fl x2 x3 x4 z [x10,x11]) σ
theorem pa_0 (N:List I) (hN:N=cj a b c d e f g):cS CM (gD fl x2 x3 x4 z [some (.i (.int (.ofNat 0)))]) (sW N c0 c1 c2 c3 due rows [] [])= .ok ([.int a,.str z.1,.str z.2,.str (Un 0)].map .i) (sW N c0 c1 c2 c3 due rows [] []):=by subst hN;kernel_rfl
theorem pa_1 (N:List I) (hN:N=cj a b c d e f g) (J:ai):cS CM (gD fl x2 x3 x4 z [some (.i (.int (.ofNat 1))),x11]) (sW N c0 c1 c2 c3 due rows inner J)= .ok ([.int b,.str z.1,.str z.2,.str (Un 1)].map .i) (sW N c0 c1 c2 c3 due rows inner J):=by subst hN;kernel_rfl
theorem pa_2 (N:List I) (hN:N=cj a b c d e f g) (J:ai):cS CM (gD fl x2 x3 x4 z [some (.i (.int (.ofNat 2))),x11]) (sW N c0 c1 c2 c3 due rows inner J)= .ok ([.int c,.str z.1,.str z.2,.str (Un 2)].map .i) (sW N c0 c1 c2 c3 due rows inner J):=by subst hN;kernel_rfl
theorem Xc (h0:PcE P z a 0 t0 m0) (h1:PcE P z b 1 t1 m1) (h2:PcE P z c 2 t2 m2) (l0:m0.length<=3) (l1:m1.length<=3) (l2:m2.length<=3) (hr:rows.length<=1):PcL x3 x4 fl z (sW (cj a b c d e f g) c0 c1 c2 c3 due (rows++[.str t0]++[.str t1]++[.str t2]) (inr m0 m1 m2) [.list m0,.list m1,.list m2]) (cI (gO (ci 0) (ci 3)) [10] (pf P) (gD fl x2 x3 x4 z []) (sW (cj a b c d e f g) c0 c1 c2 c3 due rows [] [])):=by
 obtain ⟨_,h0⟩:=h0
 obtain ⟨_,h1⟩:=h1
 obtain ⟨_,h2⟩:=h2
 have L:=fun {k:Nat} (h:k<=9)=>eM h (aI (rfl:Nat.blt 9 aJ=true))
 have a1:([]++m0).length<=3:=l0
 have a2:([]++m0++m1).length<=6:=bd (as:=[]++m0) (bs:=m1)▸d8 a1 l1
 have r1:(rows++[I.str t0]).length<=2:=by rw [bd];exact fU hr 1
 have r2:(rows++[I.str t0]++[I.str t1]).length<=3:=by rw [bd];exact fU r1 1
 have u0:=FQ (N:=cj a b c d e f g) (c0:=c0) (c1:=c1) (c2:=c2) (c3:=c3) (x2:=x2) (x3:=x3) (x4:=x4) (z:=z) (fl:=fl) (due:=due) (rows:=rows) (inner:=[]) (J:=[]) OV (pa_0 _ rfl) h0 (L (ba hr (aI rfl))) (L (om _▸ba l0 (aI rfl)))
 have u1:=FQ (N:=cj a b c d e f g) (c0:=c0) (c1:=c1) (c2:=c2) (c3:=c3) (x2:=some (.i (.str t0))) (x3:=x3) (x4:=x4) (z:=z) (fl:=fl) (due:=due) (rows:=rows++[I.str t0]) (inner:=[]++m0) (J:=[]++[aF.list m0]) (Ic (v:=some (.ref 8))) (pa_1 _ rfl _) h1 (L (ba r1 (aI rfl))) (L (ba (d8 a1 l1) (aI rfl)))
 have u2:=FQ (N:=cj a b c d e f g) (c0:=c0) (c1:=c1) (c2:=c2) (c3:=c3) (x2:=some (.i (.str t1))) (x3:=x3) (x4:=x4) (z:=z) (fl:=fl) (due:=due) (rows:=rows++[I.str t0]++[I.str t1]) (inner:=[]++m0++m1) (J:=[]++[aF.list m0]++[aF.list m1]) (Ic (v:=some (.ref 9))) (pa_2 _ rfl _) h2 (L (ba r2 (aI rfl))) (L (d8 a2 l2))
 refine ⟨some (.i (.str t2)),some (.i (.int (.ofNat 2))),some (.ref 10),(show _=(pf P (gD fl x2 x3 x4 z [some (.i (.int (.ofNat 0)))]) (sW (cj a b c d e f g) c0 c1 c2 c3 due rows [] [])).loop (fun l σ=>(pf P (bK l 10 (.i (.int 1))) σ).loop fun l σ=>(pf P (bK l 10 (.i (.int 2))) σ).loop fun l σ=> .ok .nxt l σ) from rfl).trans ?_⟩
 rw [u0]
 show (pf P (gD fl (some (.i (.str t0))) x3 x4 z [some (.i (.int (.ofNat 1))),some (.ref 8)]) (sW (cj a b c d e f g) c0 c1 c2 c3 due (rows++[.str t0]) ([]++m0) ([]++[aF.list m0]))).loop _=_
 rw [u1]
 show (pf P (gD fl (some (.i (.str t1))) x3 x4 z [some (.i (.int (.ofNat 2))),some (.ref 9)]) (sW (cj a b c d e f g) c0 c1 c2 c3 due (rows++[.str t0]++[.str t1]) ([]++m0++m1) ([]++[aF.list m0]++[aF.list m1]))).loop _=_
 rw [u2];rfl
theorem WG:gf (GD p)++[.str t0]++[.str t1]++[.str t2]=(uY p t0 t1 t2).map .str:=by cases p<;>rfl
end
end
section
theorem Yv {c:I} (h:za c):bS 12 c=true:=by
 obtain ⟨f,t,v,k,n,ab,rfl,_,h⟩:=h
 show (bS 11 ab && true)=true
 rw [h];rfl
theorem Xx {z:T×T} {p:Nat} {inner:List I} {k4 k5 k6:I} (h:qQ inner) (h4:bS 12 k4=true) (h5:bS 12 k5=true) (h6:bS 12 k6=true):(z6 z p inner k4 k5 k6).all (bS 12)=true:=
 Em.mpr (b9.mpr ⟨rfl,b9.mpr ⟨by cases p<;>rfl,fun c m=>(jv.mp m).elim (fun m=>(jA.mp m).elim fun j e=>Yv (h c (List.mem_filter.mp e.2).1))
  ((b9 (p:=fun c=>bS 12 c=true)).mpr ⟨h4,(b9 (p:=fun c=>bS 12 c=true)).mpr ⟨h5,fun j m=>cY.mp m▸h6⟩⟩ c)⟩⟩)
def LawE (P C:Fn) (fl:I):Prop:=∃ l' σ',DW P C kZ [some (.i fl)] []= .ok (.ret (.i (.bool true))) l' σ'
section
variable {a b c d e f g:Int} {xs:List I} {c0 c1 c2 c3:aF} {P C:Fn} {z:T×T} {p k dg:Nat} {x2 x3 x4 x10 x11:Option V} {fl k4 k5 k6:I} {t0 t1 t2 t4 t5 t6:T} {m0 m1 m2:List I}
abbrev S8 (C:Fn):Sx:=sq (set 14 (aZ [Zr])) (sq (set 15 (af au (af au (dj aC (cs Jx) (cs Jt)) ZH) (aa 6))) (sq (aE (bm a6 aO (aa 14) Wl)) (sq (cI (di (bF (aa 1) (ci 4) (aN .none))) [16] (su C)) (sq (al (gE (aj az (call kZ [QH]) (aa 7)))) ae))))
abbrev RX:Sx:=cI (di (ah [(ah [(cs nZ),(cs mu),(cs sZ),(cs il),(cs iG)]),(ah [(cs er)]),(ah [(cs dO),(cs fS)]),(ah [(cs ly)]),(ah [(cs fH)])])) [12] gB
abbrev g8 (m0 m1 m2:List I):J8:=(.list m0,.list m1,.list m2,.list (iU 0 (inr m0 m1 m2)),.list (iU 1 (inr m0 m1 m2)),.list (iU 2 (inr m0 m1 m2)),.list (iU 3 (inr m0 m1 m2)),.list (iU 4 (inr m0 m1 m2)))
theorem S5 (hz:z∈FT) (hk:k< 2) (h3:d.fmod 2=(k:Nat)) (hd:dg< 3) (hdg:(e.fmod (2 ^ 120)).fmod 3=(dg:Nat)) (q0:fq z.1 z.2 [110,48] t0 m0) (q1:fq z.1 z.2 [110,49] t1 m1) (q2:fq z.1 z.2 [110,50] t2 m2) (h4:AL C z e t4 k4) (h5:AL C z f t5 k5) (h6:AL C z g t6 k6) (o4:mT z.1 z.2 t4 k4) (o5:mT z.1 z.2 t5 k5) (o6:mT z.1 z.2 t6 k6):
  ∃ l' σ',sq RX (S8 C) (gD fl x2 x3 x4 z [x10,x11]) (sW (cj a b c d e f g) c0 c1 c2 c3 (qA z p) ((uY p t0 t1 t2).map .str) (inr m0 m1 m2) [.list m0,.list m1,.list m2])= .ok (.ret (.i (.bool true))) l' σ':=by
 have IN:=QD q0 q1 q2
 obtain ⟨w0,r0⟩:∃ w,Rd t0 w:=let ⟨_,_,_,r,_⟩:=q0.rd;⟨_,r⟩
 obtain ⟨w1,r1⟩:∃ w,Rd t1 w:=let ⟨_,_,_,r,_⟩:=q1.rd;⟨_,r⟩
 obtain ⟨w2,r2⟩:∃ w,Rd t2 w:=let ⟨_,_,_,r,_⟩:=q2.rd;⟨_,r⟩
 have B:=GH (b:=p) (d:=dg) hk hz r0 r1 r2 q0.len q1.len q2.len
 have T:=aT (aW.mp O5 z hz)
 have L:=IA (aI T.2) B.2.1 o4.len o5.len o6.len
 have K:=Xx (z:=z) (p:=p) IN.2 o4.okd o5.okd o6.okd
 have R:=Ri (b:=p) (d:=dg) hz hk q0 q1 q2 o4 o5 o6
 obtain ⟨tl,⟨_,y,hy⟩,u1⟩:=ZO (N:=cj a b c d e f g) (c0:=c0) (c1:=c1) (c2:=c2) (c3:=c3) (due:=qA z p) (rows:=(uY p t0 t1 t2).map I.str) (J:=[aF.list m0,aF.list m1,aF.list m2]) (x2:=x2) (x3:=x3) (x4:=x4) (x10:=x10) (x11:=x11) (z:=z) (fl:=fl) IN.2 IN.1 (rs:=R5) (fun r m=>List.mem_range.mp ((show R5=List.range 5 from rfl)▸m)) (aI rfl) (tl:=[]) ⟨OV,_,fun q=>rfl⟩
 have u2:set 14 (aZ [Zr]) (tE fl x2 x3 x4 x10 x11 z tl) (sW (cj a b c d e f g) c0 c1 c2 c3 (qA z p++dk R5 (inr m0 m1 m2)) ((uY p t0 t1 t2).map .str) (inr m0 m1 m2) (j8 (g8 m0 m1 m2) []))= .ok .nxt (EG fl x2 x3 x4 z x10 x11 y []) (sW (cj a b c d e f g) c0 c1 c2 c3 (qA z p++dk R5 (inr m0 m1 m2)) ((uY p t0 t1 t2).map .str) (inr m0 m1 m2) (j8 (g8 m0 m1 m2) [.list [.str (AW z)]])):=
  (dm (IJ (bk (aW.mp (XM fl x2 x3 x4 (x10::x11::tl) _) z hz) rfl) rfl)).trans (aM (fun u=>RS.ok .nxt (gD fl x2 x3 x4 z (x10::x11::u)) _) (hy (.ref 16)))
 obtain ⟨m,u4⟩:=law_16 (a:=a) (b:=b) (c:=c) (d:=d) (f:=f) (g:=g) (c0:=c0) (c1:=c1) (c2:=c2) (c3:=c3) (due:=qA z p++dk R5 (inr m0 m1 m2)) (inner:=inr m0 m1 m2) (j:=g8 m0 m1 m2) (t:=AW z) (x2:=x2) (x3:=x3) (x4:=x4) (x10:=x10) (x11:=x11) (y:=y) (z:=z) (fl:=fl) (head:=DF k z) (rs:=uY p t0 t1 t2) hdg hd (ba B.2.2.1 (aI rfl)) (ba B.2.2.2.1 (aI rfl)) B.2.2.2.2
 have ln:(qA z p++dk R5 (inr m0 m1 m2)).length+2< aJ:=by
  rw [bd]
  exact eM (fU (f7 (ba vx (HO _ IN.1)) _) _) (aI rfl)
 obtain ⟨tl',u5⟩:=W5 (a:=a) (b:=b) (c:=c) (d:=d) (c0:=c0) (c1:=c1) (c2:=c2) (c3:=c3) (rows:=(uY p t0 t1 t2).map I.str) (inner:=inr m0 m1 m2) (j:=g8 m0 m1 m2) (m:=m) (mp:=AW z) (bl:=UP k p dg z t0 t1 t2) (x2:=x2) (x3:=x3) (x4:=x4) (x10:=x10) (x11:=x11) (y:=y) (hd:=some (.i (.str (DF k z)))) (fl:=fl) h4 h5 h6 ln
 have ed:qA z p++dk R5 (inr m0 m1 m2)++[k4]++[k5]++[k6]=z6 z p (inr m0 m1 m2) k4 k5 k6:=by
  rw [bM,bM,bM];rfl
 rw [ed] at u5
 obtain ⟨l',σ',u6⟩:=YE (a:=a) (b:=b) (c:=c) (d:=d) (e:=e) (f:=f) (g:=g) (c0:=c0) (c1:=c1) (c2:=c2) (c3:=c3) (due:=z6 z p (inr m0 m1 m2) k4 k5 k6) (rows:=(uY p t0 t1 t2).map I.str) (inner:=inr m0 m1 m2) (j:=g8 m0 m1 m2) (m:=m) (R:=kZ) (x2:=some (.i (.str t6))) (x3:=x3) (x4:=x4) (x10:=x10) (x11:=x11) (y:=y) (hd:=some (.i (.str (DF k z)))) (fl:=fl) (z:=z) (tl:=tl') L R K
 exact ⟨l',σ',aG u1 (aG u2 (aG (dm (ZJ hz hk h3)) (aG u4 (aG u5 (bj u6)))))⟩
end
end
section
section
variable {P C:Fn}
def bL (P C:Fn):Sx:=sq (set 1 sN) (sq (cI (di (af pc (aN eJ) (af ck (af f6 (nK 3) (ci 7)) (ci 2)))) [2,3,4] MH) (sq (set 5 (af ag (aN fk) Wh)) (sq (set 6 (af ag (ah [cs Fu,cs FV,cs Bg]) (af ck (nK 1) (ci 3)))) (S3 (sq (cI (gO (ci 0) (ci 3)) [10] (pf P)) (sq RX (S8 C)))))))
theorem bL_eq:DW P C kZ=bL P C:=by kernel_rfl
theorem bL_go {a b c d e f g:Int} {xs:List I} {tl:av} {x2 x3 x4 y2 y10 y11:Option V} {c0 c1 c2 c3:aF} {z:T×T} {due:List I} {rows inner:List I} {J:ai} {R:RS} {r0:List I} (u0:sN [some (.i (.fl xs))] []= .ok (.ref 4) [c0,c1,c2,c3,.list (cj a b c d e f g)])
  (u1:cI (di (af pc (aN eJ) (af ck (af f6 (nK 3) (ci 7)) (ci 2)))) [2,3,4] MH (l2 (.fl xs) []) (sV c0 c1 c2 c3 a b c d e f g [])= .ok .nxt (lw2 (some (.i (.fl xs))) (some (.ref 4)) tl) (sV c0 c1 c2 c3 a b c d e f g []))
  (u2:∀ R:Sx,sq (set 5 (af ag (aN fk) Wh)) (sq (set 6 (af ag (ah [cs Fu,cs FV,cs Bg]) (af ck (nK 1) (ci 3)))) R) (l2 (.fl xs) tl) (sV c0 c1 c2 c3 a b c d e f g [])=R [some (.i (.fl xs)),some (.ref 4),x2,x3,x4,some (.i (.str z.1)),some (.i (.str z.2))] (sV c0 c1 c2 c3 a b c d e f g []))
  (u3:∀ R:Sx,S3 R [some (.i (.fl xs)),some (.ref 4),x2,x3,x4,some (.i (.str z.1)),some (.i (.str z.2))] (sV c0 c1 c2 c3 a b c d e f g [])=R (gD (.fl xs) x2 x3 x4 z []) (sV c0 c1 c2 c3 a b c d e f g [.list due,.list r0,.list []]))
  (u4:cI (gO (ci 0) (ci 3)) [10] (pf P) (gD (.fl xs) x2 x3 x4 z []) (sW (cj a b c d e f g) c0 c1 c2 c3 due r0 [] [])= .ok .nxt (gD (.fl xs) y2 x3 x4 z [y10,y11]) (sW (cj a b c d e f g) c0 c1 c2 c3 due rows inner J))
  (u5:sq RX (S8 C) (gD (.fl xs) y2 x3 x4 z [y10,y11]) (sW (cj a b c d e f g) c0 c1 c2 c3 due rows inner J)=R):DW P C kZ [some (.i (.fl xs))] []=R:=
 (congrFun (congrFun bL_eq _) _).trans (aG (dm u0) (aG u1 ((u2 _).trans ((u3 _).trans (aG u4 u5)))))
theorem YK (ns:List Int) (hP:∀ z∈FT,∀ n name,lM name->∃ t m c,P [.i (.int n),.i (.str z.1),.i (.str z.2),.i (.str name)] []=Ei c t m/\fq z.1 z.2 name t m) (hC:∀ z∈FT,∀ n,∃ t cmd j,C [.i (.int n),.i (.str z.1),.i (.str z.2)] []= .ok (.i (.tup [.str t,cmd])) j/\mT z.1 z.2 t cmd):LawE P C (.fl (ns.map I.int)):=by
 obtain ⟨a,b,c,d,e,f,g,c0,c1,c2,c3,u0⟩:=sN_ok ns
 obtain ⟨kf,hf,ef⟩:=bG (d.fdiv 7) (m:=2) (bf _)
 obtain ⟨tl,ht,u1⟩:=law_1 (a:=a) (b:=b) (c:=c) (e:=e) (f:=f) (g:=g) (c0:=c0) (c1:=c1) (c2:=c2) (c3:=c3) (r:=[]) (fl:= .fl (ns.map I.int)) ef hf
 obtain ⟨k,hk,ek⟩:=bG (a.fdiv 7+Int.ofNat (ns.map I.int).length) (m:=6) (bf _)
 obtain ⟨q,hq,eq⟩:=bG b (m:=3) (bf _)
 obtain ⟨x2,x3,x4,u2⟩:=law_2 (c:=c) (d:=d) (e:=e) (f:=f) (g:=g) (c0:=c0) (c1:=c1) (c2:=c2) (c3:=c3) (r:=[]) ht hk hq ek eq
 have hz:=z_m hk hq
 obtain ⟨p,hp,ep⟩:=bG (c.fdiv 8) (m:=2) (bf _)
 obtain ⟨t0,m0,_,h0,q0⟩:=hP _ hz a [110,48] (.inl rfl)
 obtain ⟨t1,m1,_,h1,q1⟩:=hP _ hz b [110,49] (.inr (.inl rfl))
 obtain ⟨t2,m2,_,h2,q2⟩:=hP _ hz c [110,50] (.inr (.inr rfl))
 obtain ⟨y2,y10,y11,u4⟩:=Xc (d:=d) (e:=e) (f:=f) (g:=g) (c0:=c0) (c1:=c1) (c2:=c2) (c3:=c3) (x2:=x2) (x3:=x3) (x4:=x4) (fl:= .fl (ns.map I.int)) (due:=qA (fT k,tT q) p) (rows:=gf (GD p)) ⟨_,h0⟩ ⟨_,h1⟩ ⟨_,h2⟩ q0.few q1.few q2.few (by cases p;exact dI _;exact cR 1)
 rw [WG] at u4
 obtain ⟨kb,hb,eb⟩:=bG d (m:=2) (bf _)
 obtain ⟨dg,hg,eg⟩:=bG (e.fmod (2 ^ 120)) (m:=3) (bf _)
 obtain ⟨t4,k4,j4,h4,o4⟩:=hC _ hz e
 obtain ⟨t5,k5,j5,h5,o5⟩:=hC _ hz f
 obtain ⟨t6,k6,j6,h6,o6⟩:=hC _ hz g
 obtain ⟨l',σ',u5⟩:=S5 (a:=a) (b:=b) (c:=c) (c0:=c0) (c1:=c1) (c2:=c2) (c3:=c3) (p:=p) (x2:=y2) (x3:=x3) (x4:=x4) (x10:=y10) (x11:=y11) (fl:= .fl (ns.map I.int)) hz hb eb hg eg q0 q1 q2 ⟨_,h4⟩ ⟨_,h5⟩ ⟨_,h6⟩ o4 o5 o6
 exact ⟨l',σ',bL_go u0 u1 u2 (fun u=>law_3 ep hp) u4 u5⟩
end
noncomputable def ND (v:V):T:=cz id [] v
noncomputable def rA (r:List V):T×T×T:=(ND (r.getD 0 (.ref 0)),ND (r.getD 1 (.ref 0)),ND (r.getD 2 (.ref 0)))
theorem Nl (n:Int) (r:List V):∃ ds,(∃ N',fN (n.fmod (2 ^ 120)) ds N')/\((rA r).1∈oc->lM (rA r).2.2->Fo (rA r).1 (rA r).2.1 (rA r).2.2 ds):=
 (Classical.em ((rA r).1∈oc/\lM (rA r).2.2)).elim (fun h=>let ⟨ds,N',h1,h2⟩:=SM h.1 h.2 (n.fmod (2 ^ 120));⟨ds,⟨N',h1⟩,fun j j=>h2⟩) fun h=>⟨[],⟨_,rfl⟩,fun h1 h2=>(h ⟨h1,h2⟩).elim⟩
theorem OZ (n:Int) (r:List V):∃ ds,(∃ N',fN (n.fmod (2 ^ 120)) ds N')/\(((rA r).1,(rA r).2.1)∈FT->zV (rA r).1 (rA r).2.1 ds):=
 (Classical.em (((rA r).1,(rA r).2.1)∈FT)).elim (fun h=>let ⟨ds,N',h1,h2⟩:=cmd_ex h (n.fmod (2 ^ 120));⟨ds,⟨N',h1⟩,fun j=>h2⟩) fun h=>⟨[],⟨_,rfl⟩,fun h1=>(h h1).elim⟩
noncomputable def gPd (n:Int) (r:List V):Ds:=Classical.choose (Nl n r)
noncomputable def gCd (n:Int) (r:List V):Ds:=Classical.choose (OZ n r)
theorem FT_f {z:T×T} (h:z∈FT):z.1∈oc:=by
 obtain ⟨a,ha,h⟩:=jA.mp h
 obtain ⟨b,_,rfl⟩:=cZ.mp h
 exact ha
theorem plain0 (ns:List Int):LawE (numF gPd df) (numF gCd eC) (.fl (ns.map I.int)):=YK ns
 (fun z hz n name hn=>(HY (Nl n [.i (.str z.1),.i (.str z.2),.i (.str name)])).2 (FT_f hz) hn)
 fun z hz n=>(HY (OZ n [.i (.str z.1),.i (.str z.2)])).2 hz
end
end Mine
end
noncomputable section
open PySem PySem.W PySem.Calls
namespace Mine
section
theorem fN.digs:{ds:Ds}->{N N':Int}->fN N ds N'->j0 N ds
 |[],_,_,_=>trivial
 |_::_,_,_,h=>⟨h.1,h.2.1,h.2.2.digs⟩
theorem plain:IQ:=fun ns j=>(plain0 ns).elim fun l' h=>h.elim fun σ' h=>
 ⟨gPd,gCd,Pg,l',σ',fun n r=>(HY (Nl n r)).1.elim fun j h=>h.digs,fun n r=>(HY (OZ n r)).1.elim fun j h=>h.digs,h⟩
theorem walk:Walk:=Wt plain
end
end Mine
end
noncomputable section
open PySem PySem.W PySem.Calls PyProof.Rows
namespace Mine
section
theorem Jk {w:World} {N n:Nat} {s s' r:Shared} {a b l:List Stmt} {q q':Pos} (e:a++b=l) (h:segRun treeTable pw w 11 mY 1 n s (piecesOf a B2 ia q [topFrame i3])=some (.next,s',ia,q'))
  (k:topRun treeTable pw w 11 mY N s' (restOf b B2 ia q' [topFrame i3])=some r):topRun treeTable pw w 11 mY (n+N) s (restOf l B2 ia q [topFrame i3])=some r:=e▸piece_app h k
noncomputable def hN:Nat:=12+(1+(20000+(20000+(20000+2))))
theorem Zk (w:World) (os:OsState):topRun treeTable pw w 11 mY hN (yq w os) (topStub pw)=some (wa w os).abs:=by
 have C:=Pj w os
 have b:∀ v,zZ w os v=some (.next,Ih w os,ia,HU w os):=fun v=>by
  cases v with
  |true=>exact (aT (aT C).2).1
  |false=>exact (aT (aT (aT C).2).2).1
 have b:=b (w.params.followText "special-get-raises")
 unfold zZ at b
 rw [World.withFollow_self] at b
 exact go_top (Qk w os) (piece_block (aaT w os) (Jk (List.take_append_drop 150 EN) (Ro w os▸BM (aT C).1)
  (Jk (List.take_append_drop 8 _) (BM b) (Jk (dT _) (BM (aT (aT (aT (aT C).2).2).2).1) (piece_nil (Rg w _ _))))))
theorem Ym (w:World):((boot_heap w.params).isNs mainGlobals && (Array.mk ([]:List GenState)).size==0,(boot_heap w.params).objs.size,(boot_heap w.params).nsMap mainGlobals "__annotations__")=(true,11,mY):=by kernel_rfl
theorem Xv {p:Program} {w:World} {N:Nat} {u v:Shared} (z:(u.heap.isNs mainGlobals && u.gens.size==0)=true) (r:topRun treeTable p w u.heap.objs.size (u.heap.nsMap mainGlobals "__annotations__") N u (topStub p)=some v)
  (l:(staticsOk (importedModules p.main.body) u.heap v.heap && namesBound p v.heap && gensDone v && laidKept u.heap v.heap)=true):topFrom treeTable p w N u=some v:=by
 unfold topFrom
 rw [z]
 dsimp only
 rw [r,Option.bind_some,l]
theorem hd_top (w:World) (os:OsState):topFrom treeTable pw w hN (yq w os)=some (wa w os).abs:=by
 have z:=aT (Ym w)
 have y:=aT z.2
 refine Xv z.1 ?_ (aT (Mp w os)).1
 show topRun treeTable pw w (boot_heap w.params).objs.size ((boot_heap w.params).nsMap mainGlobals "__annotations__") hN (yq w os) _=_
 rw [y.1,y.2]
 exact Zk w os
theorem QK (w:World):∃ os,openEnds treeTable pw w hN=some (wa w os).abs:=by
 obtain ⟨⟨h,gs,d,k,os⟩,e,e'⟩:=CI.mp (boot_open (p:=pw) (N:=hN) (by kernel_rfl) (gp (aI rfl)) (fun j=>by kernel_rfl) w)
 obtain ⟨z,y⟩:=aT e'
 obtain ⟨y,x⟩:=aT y
 obtain ⟨x,v⟩:=aT x
 have z:h=boot_heap w.params:=z
 have y:gs=Array.mk []:=y
 have x:d=boot_drawn:=x
 have v:k=boot_toks:=v
 subst z y x v
 refine ⟨os,?_⟩
 unfold openEnds
 rw [e,Option.bind_some]
 exact hd_top w os
theorem aaJ {β:Type} {o:Option Shared} {X:Shared} {f:Shared->β} {b:β} (e:o=some X) (l:f X=b):o.map (fun s=>(f s,some s.heap))=some (b,o.map (·.heap)):=by rw [e,<-l];rfl
noncomputable abbrev FW:=PySem.Challenge.rw_pq1059_01.row
theorem left:LeftO FW.prog qv lo (fun j=>true) (fun s=>some s.heap) (fun w=>(openEnds treeTable pw w hN).map (·.heap)) hN:=fun w=>by
 obtain ⟨os,e⟩:=QK w
 have l:=(aT (Mp w os)).2
 rw [<-Fast.te4187177175401517315] at l
 exact aaJ e l
theorem hd_in {D:Frag} {s:SharedT} (k:D.map (fun p=>CB s p.1)=D.map fun p=>some p.2):D.In s.abs.heap:=
 Frag.in_of rfl (List.map_map.trans (List.map_congr_left fun p m=>Rm (aW.mp k p m)))
theorem k_in (w:World) (s:Shared) (h:some s.heap=(openEnds treeTable pw w hN).map (·.heap)):(K w.params).In s.heap:=by
 obtain ⟨os,e⟩:=QK w
 have k:=hd_in (aT (aT (aT (aT (Pj w os)).2).2).2).2
 rw [e] at h
 rw [bO h]
 exact k
theorem hd_tw {p:Program} (h:TablesWhole.wModule TablesWhole.holds p.main=true) (a:p.modules=[]) (b:p.parses=[]) (c:p.harvested=[]):p.tablesWhole=true:=by
 unfold Program.tablesWhole TablesWhole.wProgram
 rw [h,a,b,c]
 rfl
theorem hd_tm:TablesWhole.wModule TablesWhole.holds pw.main=true:=by
 rw [Fast.te6116379765354995101]
 kernel_rfl
theorem Xe:FW.prog.bare:=⟨rfl,rfl,rfl,rfl,rfl,hd_tw (p:=pw) hd_tm rfl rfl rfl⟩
theorem hd_wit:FW.toRowW.promised:=⟨[.list []],by decide+kernel,by decide+kernel⟩
theorem hd_c (said:FW.wellSaid=true):FW.Holds:=
 holds_open (r:=FW) (q:=qv) (loose:=lo) (Xt:=fun j=>true) (XP:=fun j j=>True) (YP:=fun w h=>(K w.params).In h) (N:=hN) left k_in (fun j j j x k=>x.keeps k) (fun j j=>trivial) (fun j j j j j=>trivial) hdef hdp hdk (fun j j=>recFacts_nil rfl) rfl said ok1 Xe hd_wit
  fun w s₀ s₁ mg mb G Y=>walk w s₀ s₁ mg mb ⟨G.T,G.B,G.D,G.TE,G.TD,G.W,trivial,G.cls,G.has,G.apart,G.once,G.K⟩ Y
theorem hd:PySem.Challenge.rw_pq1059_01.Holds:=holds_law ws hd_c
end
end Mine
end
theorem PySem.Challenge.cw_pq1059_01_holds : PySem.Challenge.rw_pq1059_01.Holds :=
 Mine.hd
